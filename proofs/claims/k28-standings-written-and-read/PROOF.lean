import PyProof.Rows.All
import Wide.All
import OpenK.AllK
import Wide.FinOn
import HandS.ForMost
import HandS.ForExc
import HandS.ExcInit
import HandS.ExcField
import HandS.ExcIs
import KE.KExcSuper
import HandS.Wide
import HandS.Codes
import HandS.IsInst
import HandS.Defaults
import HandS.TupAny
import HandS.Walk
import KE.KTreeR
import KE.DataEq
import HandS.Lambda
import HandS.HeadHook4
import PyProof.ReprRoads
import HandS.Property
import HandS.MakeKw
import HandS.MakeKwOnly
import HandS.OwnEq
import KE.KCallOwn
import HandS.HeadWalk
import HandS.HeadEnd
import HandS.Head0
import HandS.Head1
import HandS.Head2
import HandS.FStr
import HandS.EndTab
import HandS.ClsMeth
import HandS.More
import HandS.Star
import HandS.ExcValue
import KE.GoesEnum
import HandS.IterVal
import KE.KOpsOwn
import HandS.DictComp
import HandS.Small
import PyProof.ListMulRight
import PyProof.ListMulAny
import HandS.Deep
import HandS.Text
import HandS.RaiseMore
import PyProof.Rows.StrSplitAre
import HandS.Zip
import HandS.Style
import PyProof.StrBlock2
import HandS.Set
import HandS.SetFor
import PyProof.Rows.SortStr
import HandS.AnyAll
import KE.KEqDict
import HandS.Dict
import HandS.Call
import KE.KDictSum
import HandS.ListItems
import HandS.TryMany
import PyProof.DictUpdate
import PyProof.DictDisplay
import KE.KParD
import HandS.Iter
import KE.KDictZip
import KE.GoesMore
import HandS.List
import HandS.TupLe
import HandS.Strs
import PyProof.Claim2Refuses
import HandS.TupLen
import HandS.Conv
import KE.IntTextLaws
import KE.KIntText
import PyProof.StrLawsChain
import PySem.Challenge.RW_nextkind_k28_standings_written_and_read
set_option Elab.async false
set_option linter.all false
set_option maxRecDepth 100000
set_option maxHeartbeats 4000000
namespace Nk
open PySem PySem.Spec PyProof.Rows L2
structure FnSup (N P : List Str) (sc : Scope) : Prop where
  kind : sc.kind = .function
  co : sc.isCoroutine = false
  gen : sc.isGenerator = false
  nd : N.Nodup
  pre : N.take P.length = P
  par : ∀ x ∈ P, sc.names.lookup x = some .local
  nocell : ∀ y ∈ sc.names, y.2 ≠ .cell
  free : ∀ y ∈ sc.names, y.2 = .free → y.1 = ("__class__" : Str)
def fnSupB (N P : List Str) (sc : Scope) : Bool :=
  decide (sc.kind = .function) && !sc.isCoroutine && !sc.isGenerator && decide (N.Nodup) && decide (N.take P.length = P) && P.all (fun x => decide (sc.names.lookup x = some .local)) &&
    sc.names.all fun y => !decide (y.2 = .cell) && (!decide (y.2 = .free) || decide (y.1 = ("__class__" : Str)))
theorem fnSup_by {N P : List Str} {sc : Scope} (h : fnSupB N P sc = true) : FnSup N P sc := by
  unfold fnSupB at h
  simp only [Bool.and_eq_true, Bool.or_eq_true, Bool.not_eq_true', decide_eq_true_eq, decide_eq_false_iff_not, List.all_eq_true] at h
  obtain ⟨⟨⟨⟨⟨⟨h1, h2⟩, h3⟩, h4⟩, h5⟩, h6⟩, h7⟩ := h
  exact ⟨h1, h2, h3, h4, h5, h6, fun y hy => (h7 y hy).1, fun y hy e => ((h7 y hy).2).elim (fun z => absurd e z) id⟩
abbrev supEnv (qual : Str) (scope : Scope) (L f : Addr) (cd : Value) (cc : Addr) : Env := PySem.W.ksEnv qual scope L f cd cc
def supCx (CX : CXT) (P : Program) (w : World) (K : PySem.W.Frag) (mg : Str → Option Value) (base : Heap) (N : List Str) (qual : Str) (scope : Scope) (f : Addr) (cd : Value) (cc : Addr) (A : Around) (outer : List Env) (s : Shared) (H : Hp) (E : XK) : Cx where
  prog := P
  w := w
  K := K
  mg := mg
  base := base
  A := A.deeper (supEnv qual scope s.heap.objs.size f cd cc)
  N := N
  s_0 := s
  H_0 := H
  env := supEnv qual scope s.heap.objs.size f cd cc
  outer := outer
  stack := supEnv qual scope s.heap.objs.size f cd cc :: outer
  ex := []
  calm := true
  fn := fun _ => false
  pn := []
  xe := fun e s' => wpAny (model P w) (A.deeper (supEnv qual scope s.heap.objs.size f cd cc)) (leaving (supEnv qual scope s.heap.objs.size f cd cc) e) (fun _ s'' => CX outer H s E e s'') (fun e' s'' => CX outer H s E e' s'') s'
structure PSc (X : Cx) (c : Code) (st : Stmt) (t : TS) : Prop where
  run : ∀ (pins : List (Addr × Obj)) (s : Shared) (σ : L2.St) (H : Hp) (D : Ends), Inv X pins σ H s → t D σ H → _root_.PySem.wpAt (model X.prog X.w) X.A c (exec st X.env) (SP X pins D) X.xe s
structure PScs (X : Cx) (c : Code) (st : List Stmt) (t : TS) : Prop where
  run : ∀ (pins : List (Addr × Obj)) (s : Shared) (σ : L2.St) (H : Hp) (D : Ends), Inv X pins σ H s → t D σ H → _root_.PySem.wpAt (model X.prog X.w) X.A c (execs st X.env) (SP X pins D) X.xe s
section
variable {X : Cx} {c : Code} {st : Stmt} {rest : List Stmt} {t u : TS}
theorem pscs_of (h : PSs X rest t) : PScs X c rest t := ⟨fun pins s σ H D I q => fun Γ p _ hΓ => h.run pins s σ H D I q Γ p hΓ⟩
theorem pscs_cons (h1 : PSc X c st t) (h2 : PScs X c rest u) : PScs X c (st :: rest) (tSeq t u) := by
  refine ⟨fun pins s σ H D I h => ?_⟩
  refine ks_wpAt_execs_cons (ks_wpAt_mono (h1.run pins s σ H { D with nx := u D } I h) (fun f s1 q => ?_) fun _ _ z => z)
  cases f with
  | next =>
    obtain ⟨σ', H', I', q⟩ := q
    exact h2.run pins s1 σ' H' D I' q
  | ret v => exact q
  | brk => exact q
  | cont => exact q
end
def ClsCell (K : PySem.W.Frag) (cc D : Addr) : Prop := ∃ cl cld csl, K.lookup cc = some ⟨cl, cld, .cell (some (.ref D)), csl⟩
theorem sup_inv {CX : CXT} {P : Program} {w : World} {K : PySem.W.Frag} {mg : Str → Option Value} {base : Heap} {N ps : List Str} {qual : Str} {scope : Scope} {f cc D : Addr} {cd : Value} {A : Around} {outer : List Env} {s : Shared} {H : Hp} {E : XK} {us : List Value} {vs : List V} {h₁ : Heap} {tk : Nat}
    (S : FnSup N ps scope) (hd : A.handled = none) (e0 : Env0 P w K mg base A outer s H) (hl : vs.length = ps.length) (r : Vals vs us) (C : ClsCell K cc D)
    (hns : h₁.Ns s.heap.objs.size fun y => (ps.zip us).reverse.lookup y) (kp : ∀ b o, s.heap.get? b = some o → h₁.get? b = some o) :
    Inv (supCx CX P w K mg base N qual scope f cd cc A outer s H E) [] (L2.start N vs) H { s with heap := h₁, toks := tk } := by
  have hpl : ps.length ≤ N.length := by have := congrArg List.length S.pre; rw [List.length_take] at this; omega
  obtain ⟨cl, cld, csl, hc⟩ := C
  have hb : base.get? cc = some ⟨cl, cld, .cell (some (.ref D)), csl⟩ := e0.mod.kin _ _ hc
  have hs := (e0.bs _ _ hb).1
  have hcl : ∀ x c, (supCx CX P w K mg base N qual scope f cd cc A outer s H E).env.cells.lookup x = some c → x = ("__class__" : Str) ∧ c = cc := fun x c h => by
    have h' : List.lookup x [(("__class__" : Str), cc)] = some c := h
    by_cases e : x = ("__class__" : Str)
    · subst e
      simp [List.lookup] at h'
      exact ⟨rfl, h'.symm⟩
    · have q : (x == ("__class__" : Str)) = false := by simpa using e
      simp [List.lookup, q] at h'
  have noA : ∀ b : Addr, b ∉ (supCx CX P w K mg base N qual scope f cd cc A outer s H E).ex := fun b z => absurd (show b ∈ ([] : List Addr) from z) (by simp)
  refine ⟨⟨e0.mod, S.kind, rfl, rfl, Nat.le_refl _, fun y z c h1 h2 => ?_, fun y hy => ?_, fun y c h _ => ?_, fun _ => hd, Around.frames_deeper e0.frames, .inr ⟨rfl, rfl⟩, fun b z => absurd z (noA b), e0.bs, e0.bsz, fun b _ _ => noA b, fun b z => absurd z (noA b), e0.funs, e0.frf⟩,
    rfl, e0.bare, Un.kept kp, ⟨_, hns, fun i y v h1 h2 h3 => ?_⟩, fun y c h => ?_, e0.hok.fresh (Nat.le_refl _), fun y c h => ?_, fun p hp => absurd (show p ∈ ([] : List (Addr × Obj)) from hp) (by simp), e0.hok.kept kp, ?_⟩
  · exact (hcl _ _ h1).1.trans (hcl _ _ h2).1.symm
  · have hy : scope.names.lookup y = some .cell ∨ scope.names.lookup y = some .free := hy
    rcases hy with hy | hy
    · exact absurd rfl (S.nocell _ (PySem.mem_of_lookup hy))
    · have e := S.free _ (PySem.mem_of_lookup hy) rfl
      have e : y = ("__class__" : Str) := e
      subst e
      exact ⟨cc, by show List.lookup _ [_] = _; simp [List.lookup]⟩
  · exact Bool.noConfusion (show false = true from h)
  · have hi : i < vs.length := by
      unfold L2.start at h2
      by_cases hi : i < vs.length
      · exact hi
      · rw [List.getElem?_append_right (by simpa using hi)] at h2
        rw [List.getElem?_replicate] at h2
        split at h2 <;> cases h2
    have ha : vs[i]? = some v := by
      unfold L2.start at h2
      rw [List.getElem?_append_left (by simpa using hi), List.getElem?_map] at h2
      cases e : vs[i]? with
      | none => rw [e] at h2; cases h2
      | some a => rw [e] at h2; cases h2; rfl
    obtain ⟨u, hu, rv⟩ := r.get ha
    have hp : ps[i]? = some y := by
      rw [← S.pre, List.getElem?_take_of_lt (by omega)]; exact h1
    have ndP : ps.Nodup := by rw [← S.pre]; exact S.nd.sublist (List.take_sublist _ _)
    refine ⟨u, rv, .inl ⟨S.par y (List.mem_of_getElem? hp), ?_⟩⟩
    show (ps.zip us).reverse.lookup y = some u
    have hz : (ps.zip us)[i]? = some (y, u) := by rw [List.getElem?_zip_eq_some]; exact ⟨hp, hu⟩
    have hm : (y, u) ∈ ps.zip us := List.mem_of_getElem? hz
    clear hz
    have key : ∀ (ps : List Str) (us : List Value), ps.Nodup → (y, u) ∈ ps.zip us → (ps.zip us).reverse.lookup y = some u := by
      intro ps
      induction ps with
      | nil => intro us _ h; simp at h
      | cons p ps ih =>
        intro us nd h
        cases us with
        | nil => simp at h
        | cons w us =>
          rw [List.zip_cons_cons] at h ⊢
          rw [List.reverse_cons, List.lookup_append]
          rcases List.mem_cons.mp h with e | h
          · cases e
            have hn : (ps.zip us).reverse.lookup y = none := by
              rw [List.lookup_eq_none_iff]
              intro q hq
              have hq' : q ∈ ps.zip us := by simpa using hq
              have : q.1 ∈ ps := (List.of_mem_zip hq').1
              have ne : y ≠ q.1 := fun e => (List.nodup_cons.mp nd).1 (by rw [e]; exact this)
              simpa using ne
            rw [hn]
            simp [List.lookup]
          · rw [ih us (List.nodup_cons.mp nd).2 h]
            rfl
    exact key ps us ndP hm
  · obtain ⟨_, e⟩ := hcl y c h
    subst e
    exact ⟨_, _, kp _ _ hs, rfl⟩
  · obtain ⟨_, e⟩ := hcl y c h
    subst e
    exact (e0.bs _ _ hb).2
  · unfold L2.start
    show _ = N.length
    rw [List.length_append, List.length_map, List.length_replicate]
    omega
theorem fn_sup {CX : CXT} {P : Program} {w : World} {K : PySem.W.Frag} {mg : Str → Option Value} {base : Heap} {k : Nat} {f cc D : Addr} {name qual : Str} {params : Arguments} {body : List Stmt} {scope : Scope} {dV kV doc pm cdv ct oc : Value} {an od : Option Addr}
    {osl : Array (Option Value)} {N ps : List Str} {sp : Sp} (lk : K.lookup f = some ⟨oc, od, .func (PySem.W.ksFn name qual params body scope dV kV doc pm an cdv ct cc), osl⟩) (hcd : PySem.W.codeIn K cdv qual = true) (C : ClsCell K cc D) (S : FnSup N ps scope)
    (len : ∀ vs H Q E, sp vs H Q E → vs.length = ps.length)
    (hbody : ∀ (A : Around) (outer : List Env) (s : Shared) (H : Hp) (vs : List V) (Q : VK) (E : XK), Room k (A.deeper (supEnv qual scope s.heap.objs.size f cdv cc)) → sp vs H Q E →
      ∃ t, PScs (supCx CX P w K mg base N qual scope f cdv cc A outer s H E) (.func body (supEnv qual scope s.heap.objs.size f cdv cc)) body t ∧ t { nx := fun _ H' => Q .non H', rt := Q } (L2.start N vs) H) :
    FnOk P w K mg base CX (k + 1) f (PySem.W.ksFn name qual params body scope dV kV doc pm an cdv ct cc) ps sp := by
  refine ⟨len, fun A outer s H args us vs Q E hr e0 hb r hsp => ?_⟩
  have hl := len _ _ _ _ hsp
  have KX : K.In s.heap := e0.mod.kin.keeps fun b o e => (e0.bs b o e).1
  have lim : s.heap.NoLimit := e0.mod.nolimit.keeps fun b o e => (e0.bs b o e).1
  refine ks_codeAny_call_defAt (binds := ps.zip us) hr.depth (KX _ _ lk) rfl lim (PySem.W.codeRec_of KX hcd) rfl hb S.nocell (fun x hx => S.par _ (List.of_mem_zip (show (x.1, x.2) ∈ ps.zip us from hx)).1) (fun h₁ hns kp => ?_) S.co S.gen S.kind
  obtain ⟨t, ht, hq⟩ := hbody A outer s H vs Q E (hr.deeper _) hsp
  have I : Inv (supCx CX P w K mg base N qual scope f cdv cc A outer s H E) [] (L2.start N vs) H { s with heap := h₁, toks := s.toks + (ps.zip us).length } := sup_inv S hr.hd e0 hl r C hns kp
  refine ks_wpAt_mono (ht.run [] _ (L2.start N vs) H _ I hq) (fun fl s' hs => ?_) fun e s' hs => hs
  have fin : ∀ {σ' : L2.St} {H' : Hp} {v : V} {u : Value}, Inv (supCx CX P w K mg base N qual scope f cdv cc A outer s H E) [] σ' H' s' → RelV v u → Q v H' → CE outer P w H s Q u s' :=
    fun {σ' H' v u} J rv q => ⟨v, H', J.os, J.bare, J.base, J.hok, rv, q⟩
  cases fl with
  | ret u =>
    obtain ⟨v, σ', H', J, rv, q⟩ := hs
    exact fin J rv q
  | next =>
    obtain ⟨σ', H', J, q⟩ := hs
    exact fin (v := V.non) (u := Value.none) J rfl q
  | brk =>
    obtain ⟨_, _, _, q⟩ := hs
    exact False.elim q
  | cont =>
    obtain ⟨_, _, _, q⟩ := hs
    exact False.elim q
structure SupAt (X : Cx) (f cc D : Addr) (sf : Str) : Prop where
  fn : ∃ oc od fd osl ar, X.K.lookup f = some ⟨oc, od, .func fd, osl⟩ ∧ (fd.params.posonlyargs ++ fd.params.args).head? = some ar ∧ ar.arg = sf
  code : ∃ cda ccl cdd vs ccs file tf, X.env.code = .ref cda ∧ X.K.lookup cda = some ⟨ccl, cdd, .fields vs, ccs⟩ ∧ vs[2]? = some (.str file tf) ∧ ((X.prog.main.file : Str) == file) = true
  top : (X.prog.main.scope.names.lookup ("super" : Str)).isSome = false
  mgs : X.mg "super" = none
  func : X.env.func = some f
  cell : ClsCell X.K cc D
  cells : X.env.cells.lookup ("__class__" : Str) = some cc
  sS : X.env.scope.names.lookup ("super" : Str) = some .globalImplicit
  sC : X.env.scope.names.lookup ("__class__" : Str) = some .free
  sX : X.env.scope.names.lookup sf = some .local
  n0 : X.N[0]? = some sf
  D : ∃ cd, PySem.W.clsIn X.K D = some cd
theorem cls_at {K : PySem.W.Frag} {h : Heap} {D : Addr} {cdD : ClassData} (X : K.In h) (hD : PySem.W.clsIn K D = some cdD) : ∃ oD, h.get? D = some oD ∧ oD.data = .cls cdD := by
  unfold PySem.W.clsIn at hD
  split at hD
  · rename_i c d cd' sl ho
    cases hD
    exact ⟨_, X _ _ ho, rfl⟩
  · cases hD
theorem super_base {X : Cx} {f cc D x C : Addr} {sf : Str} {pins : List (Addr × Obj)} {σ : L2.St} {H : Hp} {s : Shared} {Q : Value → Shared → Prop} {body : List Stmt} {p0 p1 : Pos} {attr : Str} {whole : Sem Value} {ox : Obj}
    (S : SupAt X f cc D sf) (I : Inv X pins σ H s) (h0 : σ[0]? = some (some (.ref x))) (hx : s.heap.get? x = some ox) (hcls : ox.cls = .ref C) (hno : ∀ c, ox.data ≠ .cls c) (hsub : PySem.W.mroIn X.K C (.ref D) = some true) (hat : (attr == ("__class__" : Str)) = false)
    (h : ∀ so s', Inv X pins σ H s' → s'.heap.get? so = some (PySem.W.ks_superObj D x C) → (∀ b o, s.heap.get? b = some o → s'.heap.get? b = some o) → H so = none → Q (.ref so) s') :
    _root_.PySem.wpAt (model X.prog X.w) X.A (.func body X.env) (attributeBase (.Call (.Name "super" p0) [] [] p1) attr X.env whole) Q X.xe s := by
  obtain ⟨oc, od, fd, osl, ar, hf, hp, ea⟩ := S.fn
  obtain ⟨cda, ccl, cdd, vs, ccs, file, tf, hco, hcc, hvs, hfile⟩ := S.code
  obtain ⟨cl, cld, csl, hcell⟩ := S.cell
  obtain ⟨cdD, hD⟩ := S.D
  obtain ⟨oD, hD1, hD2⟩ := cls_at I.kIn hD
  have KX := I.kIn
  refine ks_wpAt_super_base (env := X.env) S.sS S.sC hat S.func (KX _ _ hf) rfl hp hco (KX _ _ hcc) rfl hvs hfile S.top ?_
  obtain ⟨mb, b1, b2⟩ := I.mod.blt
  refine PySem.W.ks_loadName_global I.ok.kind S.sS (Calls.loadGlobal_builtin (by rw [I.ok.glob]; exact I.mod.glob.keeps I.bk) S.mgs (by rw [I.ok.blt]; exact b1.keeps I.bk) ((b2 "super" (by decide)).trans PyProof.Rows.Boot.«super») ⟨rfl, ?_⟩)
  refine wpAny_loadName_free I.ok.kind S.sC S.cells ⟨_, KX _ _ hcell, rfl⟩ ?_
  obtain ⟨m, hn, hl⟩ := I.loc
  obtain ⟨u, ru, lk⟩ := hl 0 sf (.ref x) S.n0 h0 (.inl S.sX)
  have hu : m sf = some (.ref x) := by
    have e : u = .ref x := ru
    rcases lk with ⟨_, e2⟩ | ⟨k, _⟩
    · rw [e2, e]
    · have k1 : X.env.scope.names.lookup sf = some .cell ∨ X.env.scope.names.lookup sf = some .free := k
      rw [S.sX] at k1
      rcases k1 with k1 | k1 <;> cases k1
  subst ea
  refine wpAny_loadName_local I.ok.kind S.sX hn hu ?_
  refine ks_wpAny_isType_cls hD1 hD2 ⟨rfl, ?_⟩
  obtain ⟨hh, g, d, t, os⟩ := s
  refine ks_wpAny_call_super hD1 hD2 hx hcls hno (PySem.W.looks_mroIn KX hsub) fun h' e k => ?_
  exact h _ _ (I.kept (h' := h') (t' := t) k) e k (I.hok.fresh (Nat.le_refl _))
def tSupX (C : Addr) (K : PySem.W.Frag) (ta : TA) : TS := fun D σ H => ∃ a, σ[0]? = some (some (.ref a)) ∧ H a = some (exo a C none) ∧ ta σ H fun vs H1 => vs.length ≤ 1000 ∧ H1 a = some (exo a C none) ∧ D.nx σ H1
structure SupX (K : PySem.W.Frag) (C : Addr) : Prop where
  T : OexC K C
  sup : PySem.W.ks_superIn K C C "__init__" = some (some (.builtin "ValueError.__init__"))
  sub : PySem.W.mroIn K C (.ref C) = some true
  ve : PySem.W.subIn K (.ref C) (.type "ValueError") = some true
  op : PySem.W.nsIn K cStatics "thirdparty.any" = some none
theorem psc_superX {X : Cx} {f cc C : Addr} {sf : Str} {body : List Stmt} {e : Expr} {es : List Expr} {p0 p1 p2 p3 p4 : Pos} {ta : TA} {pl : Sem Bool} (S : SupAt X f cc C sf) (T : SupX X.K C) (ha : PA X (e :: es) ta)
    (hev : eval (.Call (.Attribute (.Call (.Name "super" p0) [] [] p1) "__init__" p2) (e :: es) [] p3) X.env = (do
      let ov ← attributeBase (.Call (.Name "super" p0) [] [] p1) "__init__" X.env (eval (.Call (.Name "super" p0) [] [] p1) X.env)
      standAt p2.atName
      let (f, first) ← holding [ov] (getMethod ov "__init__" pl)
      callWith p3 f first (backTo p3 (starEach (e :: es) X.env)) []) := by rfl)
    (hsw : swapsWith (.Call (.Attribute (.Call (.Name "super" p0) [] [] p1) "__init__" p2) (e :: es) [] p3) none p4.line X.env = pure false := by rfl)
    (hst : starEach (e :: es) X.env = (false, eval e X.env) :: starEach es X.env := by rfl) (hpl : (backTo p3 (starEach es X.env)).any (·.1) = false := by rfl) :
    PSc X (.func body X.env) (.Expr (.Call (.Attribute (.Call (.Name "super" p0) [] [] p1) "__init__" p2) (e :: es) [] p3) p4) (tSupX C X.K ta) := by
  refine ⟨fun pins s σ H D I h => ?_⟩
  obtain ⟨a, h0, ea, h⟩ := h
  obtain ⟨nm, q, N, bs, bm, sn, sub, ab, col, dd, k0, k1, k2, k3, k5, hC, hbm⟩ := T.T.cls
  have hcl : PySem.W.clsIn X.K C = some { name := nm, bases := bs, mro := .ref C :: bm, ns := N, qualname := q, hasDict := true, slotNames := sn, subclasses := sub, abstract := ab, collection := col, hasDel := false } := by unfold PySem.W.clsIn; rw [hC] <;> rfl
  obtain ⟨t1, ho⟩ := exo_at I.hok ea
  refine ks_wpAt_Expr_any (ks_wpAt_MethodCall ?_ hev) I.quiet hsw
  refine super_base S I h0 ho rfl (fun c z => by cases z) T.sub (by decide) fun so s1 I1 hso kp _ => ?_
  have hoa := kp _ _ ho
  -- the method
  have hm := T.sup
  unfold PySem.W.ks_superIn at hm
  rw [hcl] at hm
  have hin : PySem.W.InstAt s1.heap a { cls := .ref C, dict := none, data := .fields #[.ref t1, .none, .none, .none, .bool false, .none] } C none := ⟨hoa, rfl, rfl, trivial⟩
  have hI : PySem.W.Looks (model X.prog X.w) s1.heap (isInstance (.ref a) (.type "ValueError")) true := hin.type.andThen (PySem.W.looks_subIn I1.kIn T.ve)
  obtain ⟨hh, g, d, t, os⟩ := s1
  refine PySem.W.kxs_getMethod PySem.W.kxs_ValueError hso (PySem.W.looks_opaque I1.kIn T.op) (l₀ := .ref C :: bm) (fun A Q E s k q => wpAny_bind ((PySem.W.looks_clsIn I1.kIn hcl) A _ E s k (wpAny_pure q))) rfl I1.kIn hm hI (PySem.W.ks_ne I1.kIn hin hcl) (by decide) ?_
  have hkp : ∀ b u, hh.get? b = some u → (hh.push (PySem.W.kxs_mw "ValueError.__init__" a)).get? b = some u := fun b u e => Heap.get?_push_of_some _ e
  have I2 : Inv X pins σ H ⟨hh.push (PySem.W.kxs_mw "ValueError.__init__" a), g, d, t + 1, os⟩ := I1.kept hkp
  have hu : (hh.push (PySem.W.kxs_mw "ValueError.__init__" a)).get? hh.objs.size = some (PySem.W.kxs_mw "ValueError.__init__" a) := Heap.get?_push_size _ rfl
  -- the wrapper is pinned
  have ne_loc : hh.objs.size ≠ X.env.locals := Nat.ne_of_gt I1.lt
  have ne_fs : hh.objs.size ∉ X.fs := I1.nofs (Nat.le_refl _)
  have fresh : H hh.objs.size = none := I1.hok.fresh (Nat.le_refl _)
  have I3 : Inv X ((hh.objs.size, PySem.W.kxs_mw "ValueError.__init__" a) :: pins) σ H ⟨hh.push (PySem.W.kxs_mw "ValueError.__init__" a), g, d, t + 1, os⟩ := I2.pins_of fun p hp => by
    rcases List.mem_cons.mp hp with e | hp
    · subst e
      exact ⟨hu, fresh, ne_loc, ne_fs, fun v z => by cases z⟩
    · exact I2.pin p (List.mem_append_right _ hp)
  refine PySem.W.kxs_callWith (i := "ValueError.__init__") (x := a) (by rw [hst]; exact (show (false || (backTo p3 (starEach es X.env)).any (·.1)) = false by rw [hpl]; rfl)) ?_
  rw [hst]
  refine Calls.evalArgs_plain ?_
  have hrun := ha.run p3 _ _ σ H _ I3 h
  rw [hst] at hrun
  refine thn hrun fun us s2 ⟨vs, H2, I4, r, hl, ea2, q⟩ => ?_
  obtain ⟨hpin, hpn, _, _, _⟩ := I4.pin (hh.objs.size, PySem.W.kxs_mw "ValueError.__init__" a) (List.mem_append_right _ List.mem_cons_self)
  refine ⟨hpin, ?_⟩
  show wpAny _ _ (call (.ref hh.objs.size) us) _ _ _
  have I5 : Inv X pins σ H2 s2 := I4.pins_of fun p hp => I4.pin p (List.mem_append_right _ (List.mem_cons_of_mem _ hp))
  obtain ⟨t2, ho2⟩ := exo_at I5.hok ea2
  obtain ⟨hp2, g2, d2, tk2, os2⟩ := s2
  refine wpAny_call (codeAny_of_tree ?_)
  show wpAny _ X.A.in1 (callAny (.ref hh.objs.size) ⟨us, []⟩) _ _ _
  simp only [callAny]
  refine wpAny_bind (wpAny_load hpin ?_)
  simp only [PySem.W.kxs_mw, show (Value.type "method-wrapper" == Value.type "method" || Value.type "method-wrapper" == Value.type "builtin_function_or_method" || Value.type "method-wrapper" == Value.type "method-wrapper") = true by decide, if_true]
  refine PySem.W.KFB.if_so (by decide) ?_
  refine wpAny_bind (PySem.W.check_bound_init F.excBase_ValueError.toExcCallFacts (I5.kIn _ _ hC) ho2 rfl ?_)
  refine wpAny_bind (wpAny_pure (wpAny_pure ?_))
  refine ⟨plainId_quiet F.excBase_ValueError.init.plain _, codeAny_builtin F.excBase_ValueError.initEntry ?_⟩
  refine PySem.W.exc_init_tree (cls := .ref C) (t0 := t2) (dv := none) (c2 := .none) (c3 := .none) (b4 := .bool false) ho2 (by rw [← Paired.length r, sizeLine_eq]; omega) fun h' k hx _ => ?_
  have J := I5.write (t' := tk2) (x := a) (e := a) (o := exo a C none) (by rw [ea2]; exact True.intro) (.inl rfl) k ⟨_, hx⟩ (exo_ok hx)
  have eu : upd H2 a (exo a C none) = H2 := by
    funext b
    by_cases hb : b = a
    · rw [hb, upd_same, ea2]
    · rw [upd_ne hb]
  rw [eu] at J
  exact ⟨σ, H2, J, q⟩
end Nk
namespace Nk
open PySem PySem.Spec PyProof.Rows L2
def Df (P : Program) (w : World) (K : PySem.W.Frag) (mg : Str → Option Value) (base : Heap) (x : Str) (k : Nat) (ps : List Str) (sp : Sp) : Prop :=
  ∃ (f : Addr) (fd : FuncData), FnOk P w K mg base (L2.CX P w) k f fd ps sp ∧ mg x = some (.ref f) ∧ PySem.W.keepIn K (.ref f) = true ∧ Binds K fd ps []
def tDf (sp : Sp) (W : WX) (t : TA) : TE := fun σ H Q => t σ H fun vs H1 => sp vs H1 Q (fun cls d H' => W cls d σ H')
section
variable {X : Cx} {k j : Nat} {ps : List Str} {sp : Sp} {x : Str} {p pos : Pos} {e : Expr} {es : List Expr} {t : TA} {W : WX}
theorem pe_df (c : Df X.prog X.w X.K X.mg X.base x k ps sp) (hr : Room j X.A) (hk : k ≤ j) (hg : Gl X x) (tk : Takes X W) (ha : PA X (e :: es) t)
    (hdb : (x == ("__debug__" : Str)) = false := by decide) (he : starEach (e :: es) X.env = (false, eval e X.env) :: starEach es X.env := by rfl) (hpl : (backTo pos (starEach es X.env)).any (·.1) = false := by rfl) :
    PE X (.Call (.Name x p) (e :: es) [] pos) (tDf sp W t) := by
  obtain ⟨f, fd, F, hm, hkp, hb⟩ := c
  exact pe_callS (E := WE W) F (hr.mono hk) hg hm hkp hb (fun σ => passAt tk σ) ha hdb he hpl
end
theorem pe_gc {X : Cx} {x : Str} {v : V} {pos : Pos} (hg : Gl X x) (h : ∃ u, X.mg x = some u ∧ RelV v u) (hd : (x == ("__debug__" : Str)) = false := by decide) : PE X (.Name x pos) (tC v) := by
  obtain ⟨u, hm, r⟩ := h
  exact pe_glob hg hm r hd
section
variable {σ : L2.St} {H : Hp} {Q : VK} {D : Ends} {i : Nat} {v x y : V} {ta tb tc te : TE} {tt tu : TT} {K : PySem.W.Frag} {ts tv : TS} {tA tB' : TA}
theorem r_seq (h : ts { D with nx := tv D } σ H) : tSeq ts tv D σ H := h
theorem r_next (h : D.nx σ H) : tNext D σ H := h
theorem r_asgN (h : te σ H fun v H' => D.nx (σ.set i (some v)) H') : tAsg te (gName i) D σ H := h
theorem r_asg {g : TG} (h : te σ H fun v H' => g v σ H' D.nx) : tAsg te g D σ H := h
theorem r_ret (h : te σ H D.rt) : tRet te D σ H := h
theorem r_retN (h : D.rt .non H) : tRetN D σ H := h
theorem r_drop (h : te σ H fun _ H1 => D.nx σ H1) : tDrop te D σ H := h
theorem r_ifS (h : tt σ H fun b H1 => if b = true then ts D σ H1 else tv D σ H1) : tIfS tt ts tv D σ H := h
theorem r_var (h : σ[i]? = some (some v)) (q : Q v H) : tVar i σ H Q := ⟨v, h, q⟩
theorem r_c (q : Q v H) : tC v σ H Q := q
theorem r_op {r : R2} (h : ta σ H fun x H1 => tb σ H1 fun y H2 => r x y H2 Q) : tOp r ta tb σ H Q := h
theorem r_un {r : V → Hp → VK → Prop} (h : ta σ H fun x H1 => r x H1 Q) : tUn r ta σ H Q := h
theorem r_I0 {g : Int → Int → V} {a b : Int} (q : Q (g a b) H) : rI0 g (.int a) (.int b) H Q := ⟨a, b, rfl, rfl, q⟩
theorem r_I {C : Int → Int → Prop} {g : Int → Int → V} {a b : Int} (hc : C a b) (q : Q (g a b) H) : rI C g (.int a) (.int b) H Q := ⟨a, b, rfl, rfl, hc, q⟩
theorem r_eq (h : scal x y = true) (q : Q (.bl (decide (x = y))) H) : rEq x y H Q := ⟨h, q⟩
theorem r_ne (h : scal x y = true) (q : Q (.bl (!decide (x = y))) H) : rNe x y H Q := ⟨h, q⟩
theorem r_test {Q : Bool → Hp → Prop} (h : te σ H fun x H' => ∃ k, x = .bl k ∧ Q k H') : tTest te σ H Q := h
theorem r_B {Q : Bool → Hp → Prop} (h : te σ H fun x H' => ∃ k, x = .bl k ∧ Q k H') : L2.tB te σ H Q := h
theorem r_k {b : Bool} {R : Bool → Prop} (h : R b) : ∃ k, V.bl b = .bl k ∧ R k := ⟨b, rfl, h⟩
theorem r_not {Q : Bool → Hp → Prop} (h : tt σ H fun c H1 => Q (!c) H1) : tNot tt σ H Q := h
theorem r_and {Q : Bool → Hp → Prop} (h : tt σ H fun c H1 => if c = true then tu σ H1 Q else Q false H1) : tAnd tt tu σ H Q := h
theorem r_or {Q : Bool → Hp → Prop} (h : tt σ H fun c H1 => if c = true then Q true H1 else tu σ H1 Q) : tOr tt tu σ H Q := h
theorem r_andV (h : ta σ H fun x H1 => ∃ c, x = .bl c ∧ if c = true then tb σ H1 Q else Q (.bl false) H1) : tAndV ta tb σ H Q := h
theorem r_orV (h : ta σ H fun x H1 => ∃ c, x = .bl c ∧ if c = true then Q (.bl true) H1 else tb σ H1 Q) : tOrV ta tb σ H Q := h
theorem r_notV (h : ta σ H fun x H1 => ∃ c, x = .bl c ∧ Q (.bl (!c)) H1) : tNotV ta σ H Q := h
theorem r_if (h : tt σ H fun c H1 => if c = true then ta σ H1 Q else tb σ H1 Q) : tIf tt ta tb σ H Q := h
theorem r_nil {Q : List V → Hp → Prop} (q : Q [] H) : tNil σ H Q := q
theorem r_cons {Q : List V → Hp → Prop} (h : te σ H fun x H1 => tA σ H1 fun xs H2 => Q (x :: xs) H2) : tCons te tA σ H Q := h
theorem r_cb {r : List V → Hp → VK → Prop} (h : tA σ H fun vs H1 => r vs H1 Q) : tCB r tA σ H Q := h
theorem r_df {sp : Sp} {W : WX} (h : tA σ H fun vs H1 => sp vs H1 Q (fun cls d H' => W cls d σ H')) : tDf sp W tA σ H Q := h
theorem r_lst (h : tA σ H fun xs H1 => xs.length ≤ sizeLine ∧ ∀ p, H1 p = none → Q (.ref p) (upd H1 p (.lst xs))) : tLst tA σ H Q := h
theorem r_tup (h : tA σ H fun xs H1 => xs.length ≤ sizeLine ∧ ∀ p, H1 p = none → Q (.ref p) (upd H1 p (.tup xs))) : tTup tA σ H Q := h
theorem r_gsub {to ti : TE} {t : TSet} {Qs : L2.St → Hp → Prop} (h : to σ H fun o H1 => ti σ H1 fun i H2 => t o i v H2 fun H3 => Qs σ H3) : gSub to ti t v σ H Qs := h
theorem r_chain {r r' : R2} (h : ta σ H fun x H1 => tb σ H1 fun y H2 => r x y H2 fun z H3 => ∃ k, z = .bl k ∧ (if k = true then tc σ H3 fun w' H4 => r' y w' H4 Q else Q (.bl false) H3)) : tChain r r' ta tb tc σ H Q := h
theorem r_ixL {p : Addr} {xs : List V} {k : Int} (h : SqL K H p xs) (ha : atI xs k = some v) (q : Q v H) : rIxL K (.ref p) (.int k) H Q := ⟨p, xs, k, v, rfl, rfl, h, ha, q⟩
theorem r_iteT {A B : Prop} (h : A) : if true = true then A else B := iteT h
theorem r_iteF {A B : Prop} (h : B) : if false = true then A else B := iteF h
theorem r_iteNF {A B : Prop} (h : A) : if (!false) = true then A else B := iteT h
theorem r_iteNT {A B : Prop} (h : B) : if (!true) = true then A else B := iteF h
theorem r_lenL {a : Addr} {xs : List V} {R : Nat → Prop} (h : SqL K H a xs) (q : R xs.length) : ∃ (x : V) (n : Nat), [V.ref a] = [x] ∧ LenV K x H n ∧ R n := ⟨_, _, rfl, .inl ⟨xs, h, rfl⟩, q⟩
theorem r_gN {R : L2.St → Hp → Prop} (h : R (σ.set i (some v)) H) : gName i v σ H R := h
theorem r_yes {R : Bool → Hp → Prop} (h : R true H) : tYes σ H R := h
theorem r_lc {wi : TI} {g : TG} {vs : List Nat} (h : wi σ H fun J H1 => ∀ D, H1 D = none → ∃ W : Nat → Nat → Hp → Prop, (∃ m, W 0 m (upd H1 D (.lst []))) ∧ ∀ i m H, W i m H →
      (J.stop i H ∧ Q (.ref D) H) ∨ (J.go i H ∧ ∃ Nx : Hp → Prop, (∀ H', Nx H' → ∃ m', m' < m ∧ W (i + 1) m' H') ∧ ∀ x H', J.yld i H x H' → g x (wipe σ vs) H' fun σ2 H2 => wipe σ2 vs = wipe σ vs ∧ tt σ2 H2 fun b H3 =>
        if b = true then te σ2 H3 fun y H4 => ∃ acc, H4 D = some (.lst acc) ∧ acc.length < sizeLine ∧ Nx (upd H4 D (.lst (acc ++ [y]))) else Nx H3)) : tLc wi g tt te vs σ H Q := h
theorem r_for {wi : TI} {g : TG} (h : wi σ H fun J H1 => ∃ W : Nat → Nat → L2.St → Hp → Prop, (∃ m, W 0 m σ H1) ∧ ∀ i m σ H, W i m σ H →
      (J.stop i H ∧ D.nx σ H) ∨ (J.go i H ∧ ∃ N : L2.St → Hp → Prop, (∀ σ' H', N σ' H' → ∃ m', m' < m ∧ W (i + 1) m' σ' H') ∧ ∀ x H', J.yld i H x H' → g x σ H' fun σ2 H2 => ts { D with nx := N, ct := N, bk := D.nx } σ2 H2)) : tFor wi g ts D σ H := h
theorem r_iStr {R : It → Hp → Prop} (h : te σ H fun v H1 => ∃ x, v = .str x ∧ R (Its x) H1) : iStr te σ H R := h
theorem r_iList {R : It → Hp → Prop} (h : te σ H fun x H1 => ∃ a, x = .ref a ∧ (∃ xs, SqL K H1 a xs) ∧ R (Itl K a) H1) : iList K te σ H R := h
theorem r_iTup {R : It → Hp → Prop} (h : te σ H fun x H1 => ∃ a, x = .ref a ∧ (∃ xs, SqT K H1 a xs) ∧ R (Itt K a) H1) : iTup K te σ H R := h
theorem r_iRng1 {R : It → Hp → Prop} (h : tA σ H fun vs H1 => ∃ j : Int, vs = [.int j] ∧ -(2 ^ 62) ≤ j ∧ j < 2 ^ 62 ∧ R (Itr 0 j.toNat) H1) : iRng1 tA σ H R := h
theorem r_xstr {z : Str} {R : Str → Prop} (h : R z) : ∃ x, V.str z = .str x ∧ R x := ⟨z, rfl, h⟩
theorem r_xref {a : Addr} {R : Addr → Prop} (h : R a) : ∃ x, V.ref a = .ref x ∧ R x := ⟨a, rfl, h⟩
theorem r_xint {k : Int} {R : Int → Prop} (h : R k) : ∃ x, V.int k = .int x ∧ R x := ⟨k, rfl, h⟩
theorem r_xints {k : Int} {R : Int → Prop} (h : R k) : ∃ x, [V.int k] = [.int x] ∧ R x := ⟨k, rfl, h⟩
theorem r_int1 {k : Int} {R : Int → Prop} {S : Prop} (h : R k) : (∃ x, [V.int k] = [.int x] ∧ R x) ∨ S := .inl ⟨k, rfl, h⟩
theorem r_intb {b : Bool} {R : Bool → Prop} {S : Prop} (h : R b) : S ∨ ∃ x, [V.bl b] = [.bl x] ∧ R x := .inr ⟨b, rfl, h⟩
theorem c_mulL {a b : Int} (h : -(2 ^ 64) < a ∧ a < 2 ^ 64) : CMul a b := .inl h
theorem c_mulR {a b : Int} (h : -(2 ^ 64) < b ∧ b < 2 ^ 64) : CMul a b := .inr h
theorem c_pow {a b : Int} (h : 0 ≤ b ∧ b ≤ 1000000) (ha : -(2 ^ 63) ≤ a ∧ a < 2 ^ 63) : CPow a b := ⟨h.1, h.2, by omega⟩
theorem c_divW {a b : Int} (h : 0 < b) (hb : b < 2 ^ 1000) : CDivW a b := wide_div (b := 1000) h (by omega) (by decide) (by decide)
theorem r_sl {r : V → Option Int → Option Int → Hp → VK → Prop} {tl th : TO} (h : te σ H fun x H1 => tl σ H1 fun l H2 => th σ H2 fun u H3 => r x l u H3 Q) : tSl r te tl th σ H Q := h
theorem r_nop {R : Option Int → Hp → Prop} (h : R none H) : tNoPart σ H R := h
theorem r_part {R : Option Int → Hp → Prop} (h : te σ H fun x H1 => ∃ i, x = .int i ∧ R (some i) H1) : tPart te σ H R := h
theorem r_slL {a : Addr} {xs : List V} {lo hi : Option Int} (h : SqL K H a xs) (q : ∀ p, H p = none → Q (.ref p) (upd H p (.lst (cutV xs lo hi)))) : rSlL K (.ref a) lo hi H Q := ⟨a, xs, rfl, h, q⟩
theorem r_m1 {r : V → List V → Hp → VK → Prop} (h : ta σ H fun x H1 => (∃ a, x = .str a) ∧ te σ H1 fun y H2 => r x [y] H2 Q) : tM1 r ta te σ H Q := h
theorem r_isS {a : Str} {R : Prop} (h : R) : (∃ b, V.str a = .str b) ∧ R := ⟨⟨a, rfl⟩, h⟩
theorem r_size {n : Nat} (h : n ≤ 100000) : n ≤ sizeLine := Nat.le_trans h (by decide)
theorem r_bm {T : String} {r : V → List V → Hp → VK → Prop} (h : te σ H fun x H1 => tyV K T x H1 ∧ tA σ H1 fun xs H2 => r x xs H2 Q) : tBM K T r te tA σ H Q := h
end
theorem new_facts {H H' : Hp} {p : Addr} {o : HO} (hp : H p = none) (e : upd H p o = H') : Same H H' ∧ H' p = some o ∧ ∀ b, b ≠ p → H' b = H b := by
  subst e
  exact ⟨fun b u e => by rw [upd_ne (ne_of_none e hp)]; exact e, upd_same, fun b hb => upd_ne hb⟩
def Kp (p : Addr) (H H' : Hp) : Prop := ∀ b o, H b = some o → b ≠ p → H' b = some o
theorem Kp.refl (p : Addr) (H : Hp) : Kp p H H := fun _ _ h _ => h
theorem Kp.trans {p : Addr} {H H1 H2 : Hp} (a : Kp p H H1) (b : Kp p H1 H2) : Kp p H H2 := fun c o h n => b c o (a c o h n) n
theorem Kp.same {p : Addr} {H H' : Hp} (s : Same H H') : Kp p H H' := fun b o h _ => s b o h
theorem Kp.upd {p : Addr} {H H' : Hp} {o : HO} (s : Kp p H H') : Kp p H (upd H' p o) := fun b u h n => by rw [upd_ne n]; exact s b u h n
theorem Kp.seq {p a : Addr} {H H' : Hp} {K : PySem.W.Frag} {xs : List V} (k : Kp p H H') (h : SqL K H a xs) (n : a ≠ p) : SqL K H' a xs := by
  rcases h with (h | ⟨o, h⟩) | h
  · exact .inl (.inl (k _ _ h n))
  · exact .inl (.inr ⟨o, k _ _ h n⟩)
  · exact .inr h
structure Pen (H : Hp) (p c : Addr) (ns : List Int) (n : Nat) : Prop where
  at_ : ∃ (i : Nat) (g : Int), H p = some (.lst [.ref c, .int i, .int g]) ∧ i ≤ n
  cells : H c = some (.lst (ns.map V.int))
  len : ns.length ≤ 63
theorem Pen.mono {H : Hp} {p c : Addr} {ns : List Int} {n m : Nat} (h : Pen H p c ns n) (l : n ≤ m) : Pen H p c ns m := by
  obtain ⟨⟨i, g, a, b⟩, d, e⟩ := h
  exact ⟨⟨i, g, a, Nat.le_trans b l⟩, d, e⟩
theorem Pen.same {H H' : Hp} {p c : Addr} {ns : List Int} {n : Nat} (h : Pen H p c ns n) (s : Same H H') : Pen H' p c ns n := by
  obtain ⟨⟨i, g, a, b⟩, d, e⟩ := h
  exact ⟨⟨i, g, s _ _ a, b⟩, s _ _ d, e⟩
theorem Pen.ne {H : Hp} {p c : Addr} {ns : List Int} {n : Nat} (h : Pen H p c ns n) : c ≠ p := fun e => by
  obtain ⟨⟨i, g, a, b⟩, d, _⟩ := h
  rw [e, a] at d
  cases ns with
  | nil => cases d
  | cons z r => cases d
theorem Pen.off {H : Hp} {p c b : Addr} {ns : List Int} {n : Nat} {o : HO} (h : Pen H p c ns n) (hb : H b = some o) (ho : ∀ xs, o ≠ .lst xs) : b ≠ p := fun e => by
  obtain ⟨⟨i, g, a, _⟩, _, _⟩ := h
  rw [e, a] at hb
  exact ho _ (Option.some.inj hb).symm
theorem same_mut {H H' : Hp} {p : Addr} {o : HO} (e : Same H H') (h : H p = none) : Same H (upd H' p o) := fun a u ha => by
  rw [upd_ne (ne_of_none ha h)]
  exact e a u ha
theorem df_mk {P : Program} {w : World} {K : PySem.W.Frag} {mg : Str → Option Value} {base : Heap} {x qual : Str} {st : Stmt} {f : Addr} {N ps : List Str} {k : Nat} {sp : Sp} (F : ∃ fd, FunD K x qual (defArgs st) (defBody st) (defScope st) [] [] f fd) (hm : mg x = some (.ref f)) (S : FnScope N ps (defScope st))
    (hb : ∀ (kV doc pm : Value) (an : Option Addr) (cdv ct : Value) (us : List Value), us.length = ps.length → bindArgs (PySem.W.fnOf x qual (defArgs st) (defBody st) (defScope st) .none kV doc pm an cdv ct) ⟨us, []⟩ = pure (ps.zip us))
    (len : ∀ vs H Q E, sp vs H Q E → vs.length = ps.length)
    (hbody : ∀ (cdv : Value) (A : Around) (outer : List Env) (s : Shared) (H : Hp) (vs : List V) (Q : VK) (E : XK), Room k (A.deeper (envOfC qual (defScope st) s.heap.objs.size f cdv)) → sp vs H Q E →
      ∃ t, PSs (cxOf (L2.CX P w) P w K mg base N qual (defScope st) f cdv A outer s H E) (defBody st) t ∧ t { nx := fun _ H' => Q .non H', rt := Q } (L2.start N vs) H) : Df P w K mg base x (k + 1) ps sp := by
  obtain ⟨fd, F⟩ := F
  exact ⟨f, fd, F.ok S len hbody, hm, F.kp, F.bindsN hb⟩
theorem at_nat {α : Type} {xs : List α} {r : Int} (h0 : 0 ≤ r) (h1 : r < (xs.length : Int)) : ∃ v, atI xs r = some v ∧ v ∈ xs := by
  obtain ⟨j, rfl⟩ := Int.eq_ofNat_of_zero_le h0
  have hj : j < xs.length := by omega
  exact ⟨xs[j], atI_nat (List.getElem?_eq_getElem hj), List.getElem_mem hj⟩
inductive Row (K : PySem.W.Frag) (H : Hp) (p : Addr) : V → List V → Prop
  | lst {a : Addr} {xs : List V} (h : SqL K H a xs) (n : a ≠ p) : Row K H p (.ref a) xs
  | tup {a : Addr} {xs : List V} (h : SqT K H a xs) (n : a ≠ p) : Row K H p (.ref a) xs
  | str (z : Str) : Row K H p (.str z) (z.cps.toList.map fun c => .str ⟨#[c]⟩)
theorem Kp.seqT {p a : Addr} {H H' : Hp} {K : PySem.W.Frag} {xs : List V} (k : Kp p H H') (h : SqT K H a xs) (n : a ≠ p) : SqT K H' a xs := by
  rcases h with (h | ⟨o, h⟩) | h
  · exact .inl (.inl (k _ _ h n))
  · exact .inl (.inr ⟨o, k _ _ h n⟩)
  · exact .inr h
theorem Row.kp {K : PySem.W.Frag} {H H' : Hp} {p : Addr} {v : V} {xs : List V} (r : Row K H p v xs) (k : Kp p H H') : Row K H' p v xs := by
  cases r with
  | lst h n => exact .lst (k.seq h n) n
  | tup h n => exact .tup (k.seqT h n) n
  | str z => exact .str z
theorem Row.len {K : PySem.W.Frag} {H : Hp} {p : Addr} {v : V} {xs : List V} (r : Row K H p v xs) (h : xs.length ≤ 90000) : LenV K v H xs.length := by
  cases r with
  | lst h n => exact .inl ⟨xs, h, rfl⟩
  | tup h n => exact .inr ⟨xs, h, rfl⟩
  | str z =>
    rw [List.length_map] at h
    refine ⟨?_, by rw [List.length_map]; simp [Str.length]⟩
    unfold Str.length
    exact r_size (by simpa using Nat.le_trans h (by decide))
theorem Row.ix {K : PySem.W.Frag} {H : Hp} {p : Addr} {v : V} {xs : List V} (r : Row K H p v xs) {k : Int} {Q : VK} (h : xs.length ≤ 90000) (h0 : 0 ≤ k) (h1 : k < (xs.length : Int)) (q : ∀ y, y ∈ xs → Q y H) : rIx K v (.int k) H Q := by
  cases r with
  | lst hs n =>
    obtain ⟨y, ey, hm⟩ := at_nat h0 h1
    exact .inl ⟨_, xs, k, y, rfl, rfl, hs, ey, q y hm⟩
  | tup hs n =>
    obtain ⟨y, ey, hm⟩ := at_nat h0 h1
    exact .inr (.inl ⟨_, xs, k, y, rfl, rfl, hs, ey, q y hm⟩)
  | str z =>
    rw [List.length_map] at h h1
    obtain ⟨c, ey, hm⟩ := at_nat (xs := z.cps.toList) h0 h1
    exact .inr (.inr ⟨z, k, c, rfl, rfl, by unfold Str.length; exact r_size (by simpa using Nat.le_trans h (by decide)), ey, q _ (List.mem_map.mpr ⟨c, hm, rfl⟩)⟩)
def inClass (st : Stmt) (j : Nat) : Stmt := match st with
  | .ClassDef _ _ _ b _ _ _ _ _ _ _ => b.getD j (.Pass ⟨0, 0, 0, 0⟩)
  | _ => .Pass ⟨0, 0, 0, 0⟩
theorem Df.imp {P : Program} {w : World} {K : PySem.W.Frag} {mg : Str → Option Value} {base : Heap} {x : Str} {k : Nat} {ps : List Str} {sp sp' : Sp} (c : Df P w K mg base x k ps sp) (h : ∀ vs H Q E, sp' vs H Q E → sp vs H Q E) : Df P w K mg base x k ps sp' := by
  obtain ⟨f, fd, F, r⟩ := c
  exact ⟨f, fd, F.imp h, r⟩
theorem str_nil (x : Str) : Str.empty ++ x = x := TL.ext_tl (by rw [TL.tl_append]; rfl)
theorem str_len (x y : Str) : (x ++ y).length = x.length + y.length := by
  have h := congrArg List.length (TL.tl_append x y)
  rw [List.length_append] at h
  unfold TL.tl at h
  unfold Str.length
  simpa using h
def rEqP (K : PySem.W.Frag) : R2 := fun x y H Q => ∃ d e, Dp K H x d ∧ Dp K H y e ∧ d.plain = true ∧ e.plain = true ∧ d.depth ≤ 60 ∧ Q (.bl (PyData.eqv d e)) H
def rNeP (K : PySem.W.Frag) : R2 := fun x y H Q => ∃ d e, Dp K H x d ∧ Dp K H y e ∧ d.plain = true ∧ e.plain = true ∧ d.depth ≤ 60 ∧ Q (.bl (!PyData.eqv d e)) H
theorem op_eqP {X : Cx} (hu : X.A.units + 64 < cLine) : OpR X (compareOp .Eq) (rEqP X.K) := by
  intro pins s σ H x y v u Q I rx ry h
  obtain ⟨d, e, hd, he, pd, pe, h60, q⟩ := h
  obtain ⟨as, r1⟩ := Dp.reads I d x v hd rx
  obtain ⟨bs, r2⟩ := Dp.reads I e y u he ry
  exact SeqAt.eq_plain r1 r2 pd pe (by omega) ⟨.bl _, H, I, rfl, q⟩
theorem op_neP {X : Cx} (hu : X.A.units + 64 < cLine) : OpR X (compareOp .NotEq) (rNeP X.K) := by
  intro pins s σ H x y v u Q I rx ry h
  obtain ⟨d, e, hd, he, pd, pe, h60, q⟩ := h
  obtain ⟨as, r1⟩ := Dp.reads I d x v hd rx
  obtain ⟨bs, r2⟩ := Dp.reads I e y u he ry
  exact SeqAt.ne_plain r1 r2 pd pe (by omega) ⟨.bl _, H, I, rfl, q⟩
theorem Pen.new {H : Hp} {p c q : Addr} {ns : List Int} {n : Nat} (h : Pen H p c ns n) (hq : H q = none) : q ≠ p := fun e => by
  obtain ⟨⟨i, g, a, _⟩, _, _⟩ := h
  rw [e, a] at hq
  cases hq
theorem Kp.free {p D : Addr} {H H' : Hp} (k : Kp p H H') (h : H' D = none) (n : D ≠ p) : H D = none := by
  cases e : H D with
  | none => rfl
  | some o => rw [k _ _ e n] at h; cases h
theorem Pen.upd {H : Hp} {p c D : Addr} {ns : List Int} {n : Nat} {o : HO} (h : Pen H p c ns n) (h1 : D ≠ p) (h2 : D ≠ c) : Pen (upd H D o) p c ns n := by
  obtain ⟨⟨i, g, a, b⟩, d, e⟩ := h
  exact ⟨⟨i, g, by rw [upd_ne (Ne.symm h1)]; exact a, b⟩, by rw [upd_ne (Ne.symm h2)]; exact d, e⟩
end Nk
namespace Nk
open PySem PySem.Spec PyProof.Rows L2
structure FnG (P : Program) (w : World) (K : PySem.W.Frag) (mg : Str → Option Value) (base : Heap) (CX : CXT) (k : Nat) (f : Addr) (fd : FuncData) (ps : List Str) (sp : Sp) : Prop where
  len : ∀ vs H Q E, sp vs H Q E → vs.length = ps.length
  run : ∀ (A : Around) (outer : List Env) (s : Shared) (H : Hp) (args : Args) (us : List Value) (vs : List V) (Q : VK) (E : XK), A.guards = some [] → Room k A → Env0 P w K mg base A outer s H → BindsTo s fd args (ps.zip us) → Vals vs us → sp vs H Q E →
    codeAny (model P w) A (.call (.ref f) args) (CR CX outer P w H s Q E) s
theorem fngC_of {CX : CXT} {P : Program} {w : World} {K : PySem.W.Frag} {mg : Str → Option Value} {base : Heap} {k : Nat} {x qual : Str} {params : Arguments} {body : List Stmt} {scope : Scope} {p : He.Defn} {fd : FuncData} {N ps : List Str} {sp : Sp}
    (F : FunD K x qual params body scope [] [] (He.fAd K p) fd) (S : FnScope N ps scope) (len : ∀ vs H Q E, sp vs H Q E → vs.length = ps.length)
    (hbody : ∀ (cdv : Value), cdv = .ref (He.codeOf K p) → ∀ (A : Around) (outer : List Env) (s : Shared) (H : Hp) (vs : List V) (Q : VK) (E : XK), A.guards = some [] → Room k (A.deeper (envOfC qual scope s.heap.objs.size (He.fAd K p) cdv)) → sp vs H Q E →
      ∃ t, PSs (cxOf CX P w K mg base N qual scope (He.fAd K p) cdv A outer s H E) body t ∧ t { nx := fun _ H' => Q .non H', rt := Q } (L2.start N vs) H) : FnG P w K mg base CX (k + 1) (He.fAd K p) fd ps sp := by
  refine ⟨len, fun A outer s H args us vs Q E hg hr e0 hb r hsp => ?_⟩
  obtain ⟨oc, od, dV, kV, doc, pm, an, cdv, ct, osl, rfl, lk, hcd, _, _⟩ := F.ex
  obtain ⟨c, rfl⟩ := He.codeIn_ref hcd
  have e := He.codeOf_eq lk rfl
  exact LamX.run_ofS lk hcd S hr e0 hb r (len _ _ _ _ hsp) fun hr' => hbody (.ref c) (by rw [e]) A outer s H vs Q E hg hr' hsp
def Dg (P : Program) (w : World) (K : PySem.W.Frag) (mg : Str → Option Value) (base : Heap) (x : Str) (k : Nat) (ps : List Str) (sp : Sp) : Prop :=
  ∃ (f : Addr) (fd : FuncData), FnG P w K mg base (L2.CX P w) k f fd ps sp ∧ mg x = some (.ref f) ∧ PySem.W.keepIn K (.ref f) = true ∧ Binds K fd ps []
section
variable {X : Cx} {k j : Nat} {ps : List Str} {sp : Sp} {x : Str} {p pos : Pos} {e : Expr} {es : List Expr} {t : TA} {W : WX}
theorem pe_dg (c : Dg X.prog X.w X.K X.mg X.base x k ps sp) (hgd : X.A.guards = some []) (hr : Room j X.A) (hk : k ≤ j) (hg : Gl X x) (tk : Takes X W) (ha : PA X (e :: es) t)
    (hdb : (x == ("__debug__" : Str)) = false := by decide) (he : starEach (e :: es) X.env = (false, eval e X.env) :: starEach es X.env := by rfl) (hpl : (backTo pos (starEach es X.env)).any (·.1) = false := by rfl) :
    PE X (.Call (.Name x p) (e :: es) [] pos) (tDf sp W t) := by
  obtain ⟨f, fd, F, hm, hkp, hb⟩ := c
  refine ⟨fun pins s σ H Q I h => ?_⟩
  refine wpAny_Call_Name_kw (ld_glob I hg hm ?_ hdb)
  refine PySem.W.callWith_K (h₀ := X.base) I.ok.mod.kin hkp (thn (ha.run pos pins s σ H _ I h) fun us s1 ⟨vs, H1, I1, r, q⟩ => ⟨I1.kIn, ?_⟩) he hpl
  have hl : us.length = ps.length := by rw [← r.length]; exact F.len _ _ _ _ q
  have b := hb s1 us I1.kIn (by rw [List.append_nil]; exact hl)
  rw [List.append_nil] at b
  refine wpAny_call (codeAny_mono (F.run X.A X.stack s1 H1 ⟨us, []⟩ us vs Q (WE W σ) hgd (hr.mono hk) I1.env0 b r q) fun r s' hq => ?_)
  match r, hq with
  | .error e, hq => exact passAt tk σ pins H1 s1 e s' I1 hq
  | .ok (.ret u), hq => exact I1.after hq
  | .ok .next, hq => exact False.elim hq
  | .ok .brk, hq => exact False.elim hq
  | .ok .cont, hq => exact False.elim hq
end
inductive Dq (K : PySem.W.Frag) (H : Hp) : V → PyData → Prop
  | of {v : V} {d : PyData} (h : Dp K H v d) : Dq K H v d
  | dic {a : Addr} (h : H a = some (.dK [])) : Dq K H (.ref a) (.dict [])
mutual
theorem dp_nodict {K : PySem.W.Frag} {H : Hp} : ∀ (d : PyData) (v : V), Dp K H v d → d.hasDict = false
  | .none, _, _ => rfl
  | .bool _, _, _ => rfl
  | .int _, _, _ => rfl
  | .str _, _, _ => rfl
  | .list ds, _, h => by
    cases h with
    | lst _ ha => exact dp_nodicts ds _ ha
  | .tuple ds, _, h => by
    cases h with
    | tup _ ha => exact dp_nodicts ds _ ha
  | .dict _, _, h => by cases h
theorem dp_nodicts {K : PySem.W.Frag} {H : Hp} : ∀ (ds : List PyData) (vs : List V), DpAll K H vs ds → PyData.hasDictAll ds = false
  | [], _, _ => rfl
  | d :: ds, _, h => by
    cases h with
    | cons h1 h2 =>
      show (PyData.hasDict d || PyData.hasDictAll ds) = false
      rw [dp_nodict d _ h1, dp_nodicts ds _ h2]
      rfl
end
theorem Dq.reads {X : Cx} {pins : List (Addr × Obj)} {σ : L2.St} {H : Hp} {s : Shared} (I : Inv X pins σ H s) {v : V} {u : Value} {d : PyData} (h : Dq X.K H v d) (r : RelV v u) : ∃ as, Reads s.heap u d as ∧ (d.hasDict = true → sysModules ∉ as) := by
  cases h with
  | of h =>
    obtain ⟨as, q⟩ := Dp.reads I d v u h r
    exact ⟨as, q, fun z => by rw [dp_nodict d v h] at z; cases z⟩
  | dic h =>
    cases r
    obtain ⟨_, hne, vs, kv, dd⟩ := dk_of I.hok h
    cases kv
    obtain ⟨o, es, ep, ho, hx, hd, _, hes, _⟩ := dd
    have e0 : es.toList = [] := by cases hp : es.toList with | nil => rfl | cons e r => rw [hp] at hes; cases hes
    refine ⟨_, .dict (kvs := []) ho hx.1 hd (by rw [e0]; exact .nil) (by rw [e0]; exact .nil), fun _ hm => ?_⟩
    have hm := List.mem_singleton.mp hm
    rw [← hm] at hne
    simp at hne
end Nk
namespace PySem.W
open PySem PySem.Spec PySem.Calls PyProof.Rows
section
variable {prog : Program} {w : World} {A : Around} {E : Value → Shared → Prop} {s : Shared} {K : Frag} {x C L f : Addr} {h₀ : Heap} {m : Str → Option Value} {ox : Obj} {od : Option Obj} {b tb : Value}
theorem nk_ifBound_B {M : Model} {T id : String} {name : Str} {args : List Value} {Q : Option Value → Shared → Prop} (X : K.In s.heap) (I : InstAt s.heap x ox C od) (hs : findIn K (.ref C) name = some (some (.builtin id))) (S : Slot T name id)
    (h : wpAny M A (call (.builtin id) (.ref x :: args)) (fun v => Q (some v)) E s) : wpAny M A (callSpecialIfBound? (.ref x) name args) Q E s := by
  simp only [callSpecialIfBound?, bindSpecialIfBound?]
  refine wpAny_holding (wpAny_bind (wpAny_bind (wpAny_bind (I.type.here ((looks_findIn X hs).here ?_)))))
  simp only [S.bind]
  refine wpAny_bind (wpAny_askSetting (wpAny_ite ?_))
  have fin : wpAny M A (call (.builtin id) ([.ref x] ++ args) >>= fun v => pure (some v)) Q E s := wpAny_bind (wpAny_mono h (fun v s' h' => wpAny_pure h') fun _ _ h' => h')
  split
  · exact wpAny_bind (wpAny_pure (wpAny_pure fin))
  · exact wpAny_tryCatch (wpAny_bind (wpAny_pure (wpAny_pure fin)))
theorem nk_objNe (hu : A.units < cLine) {Q : Fin → Shared → Prop} (X : K.In s.heap) (I : InstAt s.heap x ox C od) (he : findIn K (.ref C) "__eq__" = some (some (.ref f))) (hf : isFn K (.ref f) = true)
    (h : wpAny (model prog w) A (call (.ref f) [.ref x, b]) (fun v s' => ∃ r, v = .bool r ∧ Q (.done (.ret (.bool (!r)))) s') E s) : wpAny (model prog w) A (Builtin.«object.__ne__» ⟨[.ref x, b], []⟩) Q E s := by
  obtain ⟨hp, g, d, t, os⟩ := s
  unfold Builtin.«object.__ne__»
  repeat (first
    | with_reducible refine wpAny_cRoomFor hu ?_
    | (refine wpAny_bind (m := callSpecialIfBound? (.ref x) (Str.ofString "__eq__") [b])
        (ifBound_K X I he hf (wpAny_mono h (fun r s' hr => by
          obtain ⟨b, rfl, hq⟩ := hr
          repeat (first | exact hq | exact wpAny_pure hq | exact wpAny_truthy_bool hq | (refine wpAny_bind (m := truthy (.bool _)) (wpAny_truthy_bool ?_)) | wp_step)) fun _ _ e => e)))
    | wp_step)
theorem nk_ne {Q : Value → Shared → Prop} (hu : A.units + 1 < cLine) (X : K.In s.heap) (I : InstAt s.heap x ox C od) (hb : Looks (model prog w) s.heap (typeOf b) tb) (hn : notFirst K C tb = true)
    (hs : findIn K (.ref C) "__ne__" = some (some (.builtin "object.__ne__"))) (ho : subIn K (.ref C) (.type "object") = some true) (he : findIn K (.ref C) "__eq__" = some (some (.ref f))) (hf : isFn K (.ref f) = true)
    (h : wpAny (model prog w) A.in1 (call (.ref f) [.ref x, b]) (fun v s' => ∃ r, v = .bool r ∧ Q (.bool (!r)) s') E s) : wpAny (model prog w) A (richCompare .NotEq (.ref x) b) Q E s := by
  have one : wpAny (model prog w) A (tryCompare (.ref x) (cmpInfo .NotEq).2.1 b) (fun r s' => ∃ v, r = some v ∧ Q v s') E s := by
    unfold tryCompare
    refine wpAny_bind (nk_ifBound_B X I hs F.cmp_object.ne (wpAny_call (codeAny_call_builtin F.cmp_object.ne.plain F.cmpEntry_ne
      (check_slot F.cmpKind_ne F.cmpSplit_ne (I.type.andThen (looks_subIn X ho)) (F.cmpArgs_ne _ _) (nk_objNe (A := A.in1) hu X I he hf (wpAny_mono h (fun v s' hv => ?_) fun _ _ e => e))))))
    obtain ⟨r, rfl, hq⟩ := hv
    exact ⟨r, rfl, wpAny_pure ⟨_, rfl, hq⟩⟩
  unfold richCompare
  simp only [oneThing_ref]
  refine wpAny_holding (wpAny_bind (wpAny_cRoomFor (by omega) ?_))
  refine wpAny_bind (I.type.here (wpAny_bind (hb.here ?_)))
  split
  · rename_i q
    have e : subIn K tb (.ref C) = some false := by
      rcases Bool.or_eq_true_iff.mp hn with e | e
      · rw [beq_iff_eq.mp e] at q; simp at q
      · exact beq_iff_eq.mp e
    refine wpAny_bind ((looks_subIn X e).here ?_)
    simp only [Bool.false_eq_true, if_false]
    refine wpAny_bind (wpAny_mono one (fun r s' z => ?_) fun _ _ e => e)
    obtain ⟨v, rfl, hq⟩ := z
    exact wpAny_pure hq
  · refine wpAny_bind (wpAny_pure ?_)
    simp only [Bool.false_eq_true, if_false]
    refine wpAny_bind (wpAny_mono one (fun r s' z => ?_) fun _ _ e => e)
    obtain ⟨v, rfl, hq⟩ := z
    exact wpAny_pure hq
end
end PySem.W
namespace Nk
open PySem PySem.Spec PyProof.Rows L2
structure EqC (K : PySem.W.Frag) (C f : Addr) : Prop where
  eq : PySem.W.findIn K (.ref C) "__eq__" = some (some (.ref f))
  ne : PySem.W.findIn K (.ref C) "__ne__" = some (some (.builtin "object.__ne__"))
  fn : PySem.W.isFn K (.ref f) = true
  obj : PySem.W.subIn K (.ref C) (.type "object") = some true
def noE : XK := fun _ _ _ => False
def rOwn (neg : Bool) (K : PySem.W.Frag) (C : Addr) (sp : Sp) : R2 := fun x y H Q => ∃ a dx fs tb, x = .ref a ∧ H a = some (.ins C dx fs) ∧ TyX K H y tb ∧ PySem.W.notFirst K C tb = true ∧ sp [x, y] H (fun v H' => ∃ b, v = .bl b ∧ Q (.bl (if neg then !b else b)) H') noE
section
variable {X : Cx} {k : Nat} {C f : Addr} {fd : FuncData} {ps : List Str} {sp : Sp}
theorem Env0.within {P : Program} {w : World} {K : PySem.W.Frag} {mg : Str → Option Value} {base : Heap} {A A' : Around} {outer : List Env} {s : Shared} {H : Hp} (e : Env0 P w K mg base A outer s H) (h : A'.frames = A.frames) : Env0 P w K mg base A' outer s H :=
  ⟨by rw [h]; exact e.frames, e.mod, e.bs, e.bsz, e.funs, e.frf, e.hok, e.bare⟩
theorem own_run {A : Around} {pins : List (Addr × Obj)} {σ : L2.St} {H : Hp} {s : Shared} {Q : VK} {vs : List V} {us : List Value} (F : FnOk X.prog X.w X.K X.mg X.base (L2.CX X.prog X.w) k f fd ps sp) (hb : Binds X.K fd ps []) (hr : Room k A) (hfr : A.frames = X.A.frames)
    (I : Inv X pins σ H s) (r : Vals vs us) (h : sp vs H Q noE) : wpAny (model X.prog X.w) A (call (.ref f) us) (EP X pins σ Q) X.xe s := by
  have hl : (us ++ []).length = ps.length := by rw [List.append_nil, ← r.length]; exact F.len _ _ _ _ h
  have b := hb s us I.kIn hl
  rw [List.append_nil] at b
  refine wpAny_call (codeAny_mono (F.run A X.stack s H ⟨us, []⟩ us vs Q noE hr (Env0.within I.env0 hfr) b r h) fun r s' hq => ?_)
  match r, hq with
  | .error e, hq => exact passes_call (W := fun _ _ _ _ => False) LamX.takes0 (fun _ _ _ _ z => z) pins σ H s e s' I hq
  | .ok (.ret u), hq => exact I.after hq
  | .ok .next, hq => exact False.elim hq
  | .ok .brk, hq => exact False.elim hq
  | .ok .cont, hq => exact False.elim hq
theorem op_eqO (T : EqC X.K C f) (F : FnOk X.prog X.w X.K X.mg X.base (L2.CX X.prog X.w) k f fd ps sp) (hb : Binds X.K fd ps []) (hr : Room k X.A) : OpR X (compareOp .Eq) (rOwn false X.K C sp) := by
  intro pins s σ H x y v u Q I rx ry h
  obtain ⟨a, dx, fs, tb, rfl, ea, ty, hn, hsp⟩ := h
  cases rx
  obtain ⟨mA, O, _⟩ := ins_get I.hok ea
  obtain ⟨od, J, _⟩ := O.look
  obtain ⟨φ, Z, p, _⟩ := kit_of I ry ty
  obtain ⟨m, hF⟩ := I.fr
  refine PySem.W.cmp_ofEq (PySem.W.cmp_K (op := .Eq) (tb := tb) hr.units0 hF I.ok.mod.kin J (Z.ty _ _ I.kIn p) hn T.eq T.fn ?_)
  refine wpAny_mono (own_run (vs := [.ref a, y]) F hb hr rfl I (.cons rfl (.cons ry .nil)) hsp) (fun v s' hv => ?_) fun _ _ z => z
  obtain ⟨z, H', I', rz, b, rfl, q⟩ := hv
  cases rz
  exact ⟨.bl b, H', I', rfl, q⟩
theorem op_neO (T : EqC X.K C f) (F : FnOk X.prog X.w X.K X.mg X.base (L2.CX X.prog X.w) k f fd ps sp) (hb : Binds X.K fd ps []) (hr : Room (k + 1) X.A) : OpR X (compareOp .NotEq) (rOwn true X.K C sp) := by
  intro pins s σ H x y v u Q I rx ry h
  obtain ⟨a, dx, fs, tb, rfl, ea, ty, hn, hsp⟩ := h
  cases rx
  obtain ⟨mA, O, _⟩ := ins_get I.hok ea
  obtain ⟨od, J, _⟩ := O.look
  obtain ⟨φ, Z, p, _⟩ := kit_of I ry ty
  refine PySem.W.cmp_ofNotEq (PySem.W.nk_ne (by have := hr.units; omega) I.kIn J (Z.ty _ _ I.kIn p) hn T.ne T.obj T.eq T.fn ?_)
  refine wpAny_mono (own_run (vs := [.ref a, y]) F hb hr.in1 rfl I (.cons rfl (.cons ry .nil)) hsp) (fun v s' hv => ?_) fun _ _ z => z
  obtain ⟨z, H', I', rz, b, rfl, q⟩ := hv
  cases rz
  exact ⟨b, rfl, .bl (!b), H', I', rfl, q⟩
def rStrO (C : Addr) (sp : Sp) : List V → Hp → VK → Prop := fun xs H Q => ∃ a dx fs, xs = [.ref a] ∧ H a = some (.ins C dx fs) ∧ sp [.ref a] H (fun v H' => ∃ z, v = .str z ∧ Q (.str z) H') noE
theorem call_strO (hs : PySem.W.findIn X.K (.ref C) "__str__" = some (some (.ref f))) (hf : PySem.W.isFn X.K (.ref f) = true) (F : FnOk X.prog X.w X.K X.mg X.base (L2.CX X.prog X.w) k f fd ps sp) (hb : Binds X.K fd ps []) (hr : Room (k + 2) X.A) : CallR X (.type "str") (rStrO C sp) := by
  intro pins s σ H xs us Q I r h
  obtain ⟨a, dx, fs, rfl, ea, hsp⟩ := h
  obtain ⟨u, rfl, ru⟩ := vals1 r
  cases ru
  obtain ⟨mA, O, _⟩ := ins_get I.hok ea
  obtain ⟨od, J, _⟩ := O.look
  refine PySem.W.kso_call (by have := hr.units; show X.A.units + 1 + 1 < cLine; omega) I.kIn J hs hf ?_
  refine wpAny_mono (own_run (vs := [.ref a]) F hb hr.in1.in1 rfl I (.cons rfl .nil) hsp) (fun v s' hv => ?_) fun _ _ z => z
  obtain ⟨z, H', I', rz, x, rfl, q⟩ := hv
  obtain ⟨t, rfl⟩ := rz
  exact ⟨.str x, H', I', ⟨t, rfl⟩, q⟩
end
end Nk
namespace Nk
open PySem PySem.Spec PyProof.Rows L2
def Fo (P : Program) (w : World) (K : PySem.W.Frag) (mg : Str → Option Value) (base : Heap) (f : Addr) (k : Nat) (ps : List Str) (sp : Sp) : Prop :=
  ∃ fd : FuncData, FnOk P w K mg base (L2.CX P w) k f fd ps sp ∧ Binds K fd ps []
theorem fo_mk {P : Program} {w : World} {K : PySem.W.Frag} {mg : Str → Option Value} {base : Heap} {x qual : Str} {st : Stmt} {f : Addr} {N ps : List Str} {k : Nat} {sp : Sp} (F : ∃ fd, FunD K x qual (defArgs st) (defBody st) (defScope st) [] [] f fd) (S : FnScope N ps (defScope st))
    (hb : ∀ (kV doc pm : Value) (an : Option Addr) (cdv ct : Value) (us : List Value), us.length = ps.length → bindArgs (PySem.W.fnOf x qual (defArgs st) (defBody st) (defScope st) .none kV doc pm an cdv ct) ⟨us, []⟩ = pure (ps.zip us))
    (len : ∀ vs H Q E, sp vs H Q E → vs.length = ps.length)
    (hbody : ∀ (cdv : Value) (A : Around) (outer : List Env) (s : Shared) (H : Hp) (vs : List V) (Q : VK) (E : XK), Room k (A.deeper (envOfC qual (defScope st) s.heap.objs.size f cdv)) → sp vs H Q E →
      ∃ t, PSs (cxOf (L2.CX P w) P w K mg base N qual (defScope st) f cdv A outer s H E) (defBody st) t ∧ t { nx := fun _ H' => Q .non H', rt := Q } (L2.start N vs) H) : Fo P w K mg base f (k + 1) ps sp := by
  obtain ⟨fd, F⟩ := F
  exact ⟨fd, F.ok S len hbody, F.bindsN hb⟩
def FoK (P : Program) (w : World) (K : PySem.W.Frag) (mg : Str → Option Value) (base : Heap) (f : Addr) (k : Nat) (ps : List Str) (sp : Sp) (n : Nat) (ks : List Str) (gV : List V → List V → List V) : Prop :=
  ∃ (fd : FuncData) (g : List Value → List Value → List Value), FnOk P w K mg base (L2.CX P w) k f fd ps sp ∧ KBn K fd ps n ks g gV
theorem fok_mk {P : Program} {w : World} {K : PySem.W.Frag} {mg : Str → Option Value} {base : Heap} {x qual : Str} {st : Stmt} {f : Addr} {ps ks : List Str} {k n : Nat} {sp : Sp} (g : {α : Type} → List α → List α → List α) (F : ∃ fd, FunD K x qual (defArgs st) (defBody st) (defScope st) [] [] f fd)
    (hrel : ∀ {vs zs : List V} {us ws : List Value}, Vals vs us → Vals zs ws → Vals (g vs zs) (g us ws))
    (hb : ∀ (kV doc pm : Value) (an : Option Addr) (cdv ct : Value) (us ws : List Value), us.length = n → ws.length = ks.length → bindArgs (PySem.W.fnOf x qual (defArgs st) (defBody st) (defScope st) .none kV doc pm an cdv ct) ⟨us, ks.zip ws⟩ = pure (ps.zip (g us ws)))
    (hfd : ∀ fd, FunD K x qual (defArgs st) (defBody st) (defScope st) [] [] f fd → FnOk P w K mg base (L2.CX P w) k f fd ps sp) : FoK P w K mg base f k ps sp n ks (fun us ws => g us ws) := by
  obtain ⟨fd, F⟩ := F
  obtain ⟨oc, od, dV, kV, doc, pm, an, cdv, ct, osl, e, lk, hcd, hD, hK⟩ := id F.ex
  rcases hD with ⟨_, rfl⟩ | ⟨z, _⟩
  · refine ⟨fd, fun us ws => g us ws, hfd fd F, ⟨fun s us ws X l1 l2 => ?_, fun r1 r2 => hrel r1 r2⟩⟩
    rw [e]
    exact .of_eq (hb kV doc pm an cdv ct us ws l1 l2)
  · exact absurd rfl z
section
variable {X : Cx} {k j n : Nat} {C f p g : Addr} {ps ks : List Str} {sp : Sp} {x : Str} {E : XK} {W : WX} {e : Expr} {es : List Expr} {kws : List Keyword} {t tk ta : TA} {te : TE} {p1 pos : Pos} {gV : List V → List V → List V}
theorem pe_pr (he : PE X e te) (c : Cls X.K C) (hp : PropOf X.K C x p g) (F : Fo X.prog X.w X.K X.mg X.base g k ps sp) (hr : Room j X.A) (hk : k + 1 ≤ j) (hab : attributeBase e x X.env (eval e X.env) = eval e X.env := by rfl) :
    PE X (.Attribute e x pos) (tProp C sp [] noE te) := by
  obtain ⟨fd, F, hb⟩ := F
  exact pe_prop he c hp F (hr.mono hk) hb .nil (passes_call (X := X.nox) (W := fun _ _ _ _ => False) LamX.takes0 fun _ _ _ _ z => z) hab
theorem op_eqF {K : PySem.W.Frag} (T : EqC K C f) (F : Fo X.prog X.w X.K X.mg X.base f k ps sp) (hr : Room j X.A) (hk : k ≤ j) (hK : X.K = K := by rfl) : OpR X (compareOp .Eq) (rOwn false K C sp) := by
  subst hK
  obtain ⟨fd, F, hb⟩ := F
  exact op_eqO T F hb (hr.mono hk)
theorem op_neF {K : PySem.W.Frag} (T : EqC K C f) (F : Fo X.prog X.w X.K X.mg X.base f k ps sp) (hr : Room j X.A) (hk : k + 1 ≤ j) (hK : X.K = K := by rfl) : OpR X (compareOp .NotEq) (rOwn true K C sp) := by
  subst hK
  obtain ⟨fd, F, hb⟩ := F
  exact op_neO T F hb (hr.mono hk)
theorem call_strF (hs : PySem.W.findIn X.K (.ref C) "__str__" = some (some (.ref f))) (hf : PySem.W.isFn X.K (.ref f) = true) (F : Fo X.prog X.w X.K X.mg X.base f k ps sp) (hr : Room j X.A) (hk : k + 2 ≤ j) : CallR X (.type "str") (rStrO C sp) := by
  obtain ⟨fd, F, hb⟩ := F
  exact call_strO hs hf F hb (hr.mono hk)
end
structure SupD (K : PySem.W.Frag) (name qual : Str) (st : Stmt) (f D : Addr) (file : Str) : Prop where
  ex : ∃ (oc : Value) (od : Option Addr) (dV kV doc pm : Value) (an : Option Addr) (cdv ct : Value) (osl : Array (Option Value)) (cc : Addr),
    K.lookup f = some ⟨oc, od, .func (PySem.W.ksFn name qual (defArgs st) (defBody st) (defScope st) dV kV doc pm an cdv ct cc), osl⟩ ∧ PySem.W.codeIn K cdv qual = true ∧ ClsCell K cc D ∧ dV = .none ∧
    ∃ cda ccl cdd vs ccs tf, cdv = .ref cda ∧ K.lookup cda = some ⟨ccl, cdd, .fields vs, ccs⟩ ∧ vs[2]? = some (.str file tf)
theorem SupD.ok {P : Program} {w : World} {K : PySem.W.Frag} {mg : Str → Option Value} {base : Heap} {k : Nat} {name qual file : Str} {st : Stmt} {f D : Addr} {N ps : List Str} {sp : Sp} {sf : Str} {ar : Arg} (F : SupD K name qual st f D file) (S : FnSup N ps (defScope st))
    (len : ∀ vs H Q E, sp vs H Q E → vs.length = ps.length)
    (hb : ∀ (kV doc pm : Value) (an : Option Addr) (cdv ct : Value) (cc : Addr) (us : List Value), us.length = ps.length → bindArgs (PySem.W.ksFn name qual (defArgs st) (defBody st) (defScope st) .none kV doc pm an cdv ct cc) ⟨us, []⟩ = pure (ps.zip us))
    (har : ((defArgs st).posonlyargs ++ (defArgs st).args).head? = some ar) (hsf : ar.arg = sf) (hfile : ((P.main.file : Str) == file) = true) (htop : (P.main.scope.names.lookup ("super" : Str)).isSome = false) (hmg : mg "super" = none)
    (sS : (defScope st).names.lookup ("super" : Str) = some .globalImplicit) (sC : (defScope st).names.lookup ("__class__" : Str) = some .free) (sX : (defScope st).names.lookup sf = some .local) (n0 : N[0]? = some sf) (hD : ∃ cd, PySem.W.clsIn K D = some cd)
    (hbody : ∀ (cc : Addr) (cdv : Value) (A : Around) (outer : List Env) (s : Shared) (H : Hp) (vs : List V) (Q : VK) (E : XK), SupAt (supCx (L2.CX P w) P w K mg base N qual (defScope st) f cdv cc A outer s H E) f cc D sf → Room k (A.deeper (supEnv qual (defScope st) s.heap.objs.size f cdv cc)) → sp vs H Q E →
      ∃ t, PScs (supCx (L2.CX P w) P w K mg base N qual (defScope st) f cdv cc A outer s H E) (.func (defBody st) (supEnv qual (defScope st) s.heap.objs.size f cdv cc)) (defBody st) t ∧ t { nx := fun _ H' => Q .non H', rt := Q } (L2.start N vs) H) :
    Fo P w K mg base f (k + 1) ps sp := by
  obtain ⟨oc, od, dV, kV, doc, pm, an, cdv, ct, osl, cc, lk, hcd, C, rfl, cda, ccl, cdd, vs0, ccs, tf, rfl, h2, h3⟩ := F.ex
  refine ⟨_, fn_sup lk hcd C S len fun A outer s H vs Q E hr hsp => hbody cc (.ref cda) A outer s H vs Q E ⟨⟨oc, od, _, osl, ar, lk, har, hsf⟩, ⟨cda, ccl, cdd, vs0, ccs, file, tf, rfl, h2, h3, hfile⟩, htop, hmg, rfl, C, ?_, sS, sC, sX, n0, hD⟩ hr hsp, fun s us X hl => ?_⟩
  · show List.lookup _ [_] = _
    simp [List.lookup]
  · rw [List.append_nil] at hl ⊢
    exact .of_eq (hb kV doc pm an (.ref cda) ct cc us hl)
def spExc1 (C : Addr) (fld : Str) : Sp := fun vs H Q _ => ∃ (a : Addr) (v : V), vs = [.ref a, v] ∧ H a = some (exo a C none) ∧ ∀ dx, H dx = none → dx ≠ a → Q .non (upd (upd H dx (exd dx [(fld, v)])) a (exo a C (some dx)))
section
variable {X : Cx} {k j : Nat} {C fI : Addr} {ps : List Str} {sp : Sp} {x : Str} {W : WX} {e : Expr} {es : List Expr} {ta : TA} {p pos : Pos}
theorem pmk_ex (T : OexC X.K C) (iC : PySem.W.findIn X.K (.ref C) "__init__" = some (some (.ref fI))) (tI : PySem.W.typeIn X.K (.ref fI) = some (.type "function")) (c : Fo X.prog X.w X.K X.mg X.base fI k ps sp) (hr : Room j X.A) (hk : k + 1 ≤ j) (hg : Gl X x) (hm : X.mg x = some (.ref C)) (ha : PA X (e :: es) ta)
    (hdb : (x == ("__debug__" : Str)) = false := by decide) (he : starEach (e :: es) X.env = (false, eval e X.env) :: starEach es X.env := by rfl) (hpl : (backTo pos (starEach es X.env)).any (·.1) = false := by rfl) : PMk X (.Call (.Name x p) (e :: es) [] pos) (tMkO C sp [] ta) := by
  obtain ⟨fd, F, hb⟩ := c
  exact pmk_oex T iC tI F (hr.mono hk) hb .nil (passes_call (W := fun _ _ _ _ => False) LamX.takes0 fun _ _ _ _ z => z) hg hm ha hdb he hpl
end
end Nk
namespace Nk
open PySem PySem.Spec PyProof.Rows L2
def H0 (K : PySem.W.Frag) (ts : List Addr) (a : Addr) (oa : Obj) (xs : List V) : Hp := fun b => if b ∈ ts then some (.tbl #[]) else if b = a ∧ K.lookup a = none then some (.frz oa (.lst xs)) else none
section
variable {K : PySem.W.Frag} {ts : List Addr} {a b : Addr} {oa : Obj} {xs : List V}
theorem h0_tab (h : b ∈ ts) : H0 K ts a oa xs b = some (.tbl #[]) := if_pos h
theorem h0_cases (b : Addr) : (b ∈ ts ∧ H0 K ts a oa xs b = some (.tbl #[])) ∨ (b ∉ ts ∧ b = a ∧ K.lookup a = none ∧ H0 K ts a oa xs b = some (.frz oa (.lst xs))) ∨ (b ∉ ts ∧ ¬ (b = a ∧ K.lookup a = none) ∧ H0 K ts a oa xs b = none) := by
  unfold H0
  by_cases h : b ∈ ts
  · exact .inl ⟨h, if_pos h⟩
  · rw [if_neg h]
    by_cases q : b = a ∧ K.lookup a = none
    · exact .inr (.inl ⟨h, q.1, q.2, if_pos q⟩)
    · exact .inr (.inr ⟨h, q, if_neg q⟩)
end
structure AtCall (K : PySem.W.Frag) (mg mb : Str → Option Value) (cs : List (Addr × Addr)) (s : Shared) (a : Addr) (vs : List Value) (ns : List Int) : Prop where
  KX : K.In s.heap
  glob : s.heap.Ns mainGlobals mg
  blt : s.heap.Ns builtinsNs mb
  boot : ∀ x : Str, x ≠ "__name__" → mb x = bootBuiltins x
  lim : s.heap.NoLimit
  gens : s.gens = #[]
  tab : ∀ p ∈ cs, s.heap.get? p.2 = some { cls := .none, data := .fields #[] }
  tabK : ∀ p ∈ cs, K.lookup p.2 = none
  code : ∀ p ∈ cs, PySem.W.CodeHd s.heap p.1 p.2
  bm : ∃ (bm : Addr) (ob : Obj), mg "__builtins__" = some (.ref bm) ∧ bm ≠ builtinsNs ∧ s.heap.get? bm = some ob ∧ ob.cls = .type "module" ∧ ob.dict = some builtinsNs ∧ ob.data = .plain
  at_ : s.heap.get? a = some { cls := .type "list", data := .seq vs.toArray }
  iz : IntsAre vs ns
  len : ns.length ≤ sizeLine
section
variable {P : Program} {w : World} {K : PySem.W.Frag} {mg mb : Str → Option Value} {cs : List (Addr × Addr)} {s : Shared} {a : Addr} {vs : List Value} {ns : List Int}
abbrev tsOf (cs : List (Addr × Addr)) : List Addr := cs.map (·.2)
abbrev HC (K : PySem.W.Frag) (cs : List (Addr × Addr)) (a : Addr) (vs : List Value) (ns : List Int) : Hp := H0 K (tsOf cs) a { cls := .type "list", data := .seq vs.toArray } (ns.map V.int)
theorem AtCall.ts (h : AtCall K mg mb cs s a vs ns) {b : Addr} (hb : b ∈ tsOf cs) : s.heap.get? b = some { cls := .none, data := .fields #[] } := by
  obtain ⟨p, hp, rfl⟩ := List.mem_map.mp hb
  exact h.tab p hp
theorem AtCall.off (h : AtCall K mg mb cs s a vs ns) : a ∉ tsOf cs := fun z => by
  have q := h.ts z
  rw [h.at_] at q
  cases q
theorem AtCall.script (h : AtCall K mg mb cs s a vs ns) : SqL K (HC K cs a vs ns) a (ns.map V.int) := by
  have rv := vals_ints h.iz
  rcases h0_cases (K := K) (ts := tsOf cs) (a := a) (oa := { cls := .type "list", data := .seq vs.toArray }) (xs := ns.map V.int) a with ⟨z, _⟩ | ⟨_, _, _, e⟩ | ⟨_, n, _⟩
  · exact absurd z h.off
  · exact .inl (.inr ⟨_, e⟩)
  · cases hk : K.lookup a with
    | none => exact absurd ⟨rfl, hk⟩ n
    | some o =>
      have e := h.KX a o hk
      rw [h.at_] at e
      cases e
      exact .inr ⟨_, vs.toArray, _, hk, rfl, rfl, rfl, by rw [List.size_toArray, h.iz.length]; exact h.len, by simpa using rv⟩
theorem AtCall.hok (h : AtCall K mg mb cs s a vs ns) : HOk P w (HC K cs a vs ns) s.heap := fun b u e => by
  have rv := vals_ints h.iz
  rcases h0_cases (K := K) (ts := tsOf cs) (a := a) (oa := { cls := .type "list", data := .seq vs.toArray }) (xs := ns.map V.int) b with ⟨z, q⟩ | ⟨_, eb, _, q⟩ | ⟨_, _, q⟩
  · cases q.symm.trans e
    exact h.ts z
  · cases q.symm.trans e
    subst eb
    exact ⟨h.at_, by rw [List.length_map]; exact h.len, vs, _, rv, h.at_⟩
  · cases q.symm.trans e
theorem AtCall.none_ (h : AtCall K mg mb cs s a vs ns) {b : Addr} {o : Obj} (e : s.heap.get? b = some o) (h1 : ∀ v n, o.data ≠ .seq v n) (h2 : o.data ≠ .fields #[]) : HC K cs a vs ns b = none := by
  rcases h0_cases (K := K) (ts := tsOf cs) (a := a) (oa := { cls := .type "list", data := .seq vs.toArray }) (xs := ns.map V.int) b with ⟨z, _⟩ | ⟨_, eb, _, _⟩ | ⟨_, _, q⟩
  · have q := h.ts z
    rw [e] at q
    cases q
    exact absurd rfl h2
  · subst eb
    have q := h.at_
    rw [e] at q
    cases q
    exact absurd rfl (h1 _ _)
  · exact q
abbrev baseOf (K : PySem.W.Frag) (cs : List (Addr × Addr)) (s : Shared) (a : Addr) (vs : List Value) (ns : List Int) : Heap := hidT s.heap (HC K cs a vs ns)
theorem AtCall.base (h : AtCall K mg mb cs s a vs ns) {b : Addr} {o : Obj} (e : s.heap.get? b = some o) (h1 : ∀ v n, o.data ≠ .seq v n) (h2 : o.data ≠ .fields #[]) : (baseOf K cs s a vs ns).get? b = some o := hidT_get e (h.none_ e h1 h2)
theorem AtCall.nsB (h : AtCall K mg mb cs s a vs ns) {b : Addr} {m : Str → Option Value} (n : s.heap.Ns b m) : (baseOf K cs s a vs ns).Ns b m := by
  obtain ⟨o, es, ep, e, d, r⟩ := n
  exact ⟨o, es, ep, h.base e (fun v n z => by rw [d] at z; cases z) (fun z => by rw [d] at z; cases z), d, r⟩
theorem AtCall.kin (h : AtCall K mg mb cs s a vs ns) : K.In (baseOf K cs s a vs ns) := fun b o e => by
  refine hidT_get (h.KX b o e) ?_
  rcases h0_cases (K := K) (ts := tsOf cs) (a := a) (oa := { cls := .type "list", data := .seq vs.toArray }) (xs := ns.map V.int) b with ⟨z, _⟩ | ⟨_, eb, hk, _⟩ | ⟨_, _, q⟩
  · obtain ⟨p, hp, rfl⟩ := List.mem_map.mp z
    rw [h.tabK p hp] at e
    cases e
  · rw [eb, hk] at e
    cases e
  · exact q
theorem AtCall.mod (h : AtCall K mg mb cs s a vs ns) : L2.Mod K mg (baseOf K cs s a vs ns) := by
  obtain ⟨mc, h1, h2⟩ := h.lim
  exact ⟨h.kin, h.nsB h.glob, ⟨mb, h.nsB h.blt, h.boot⟩, ⟨mc, h.nsB h1, h2⟩⟩
theorem AtCall.env0 (h : AtCall K mg mb cs s a vs ns) : Env0 P w K mg (baseOf K cs s a vs ns) callerA [] s (HC K cs a vs ns) :=
  ⟨rfl, h.mod, fun b o e => of_hidT e, Nat.le_of_eq (hidT_size _ _), trivial, (fun b hb => nomatch (show b ∈ ([] : List Addr) from hb)), h.hok, .of_eq h.gens⟩
theorem AtCall.tabB (h : AtCall K mg mb cs s a vs ns) : ∀ p ∈ cs, LamX.TabB (baseOf K cs s a vs ns) mg p.1 p.2 := fun p hp => by
  have hTp := h.tab p hp
  refine ⟨?_, ?_, fun z => ?_⟩
  · obtain ⟨o, us, file, tf, flags, tg, inF, text, tt, e1, r1, r2, r3, r⟩ := h.code p hp
    refine ⟨o, us, file, tf, flags, tg, inF, text, tt, h.base e1 (fun v n z => by rw [r2] at z; cases z) (fun z => ?_), r1, r2, r3, r⟩
    rw [r2] at z
    cases z
    cases r3
  · obtain ⟨bm, ob, b1, b2, b3, b4, b5, b6⟩ := h.bm
    refine ⟨bm, ob, b1, b2, fun q => ?_, fun q => ?_, h.base b3 (fun v n z => by rw [b6] at z; cases z) (fun z => by rw [b6] at z; cases z), b4, b5, b6⟩
    · obtain ⟨o, es, ep, e, hd, _⟩ := h.glob
      rw [q, e] at b3
      cases b3
      rw [hd] at b6
      cases b6
    · rw [q, hTp] at b3
      cases b3
      cases b6
  · obtain ⟨o, es, ep, e, hd, _⟩ := h.glob
    rw [z, hTp] at e
    cases e
    cases hd
theorem AtCall.old (h : AtCall K mg mb cs s a vs ns) {H' : Hp} {s' : Shared} (un : Un (frs []) [] (HC K cs a vs ns) H' s.heap s'.heap) (hok : HOk P w H' s'.heap) : OldK s.heap s'.heap := by
  have keep : ∀ b o, b ∉ tsOf cs → s.heap.get? b = some o → s'.heap.get? b = some o := fun b o nb e => by
    rcases h0_cases (K := K) (ts := tsOf cs) (a := a) (oa := { cls := .type "list", data := .seq vs.toArray }) (xs := ns.map V.int) b with ⟨z, _⟩ | ⟨_, eb, _, q⟩ | ⟨_, _, q⟩
    · exact absurd z nb
    · obtain ⟨e2, _⟩ := hok b _ (un.frzs b _ _ q)
      subst eb
      rw [h.at_] at e
      cases e
      exact e2
    · exact un.keep b o e q (fun z => by cases (show b ∈ ([] : List Addr) from z)) (fun z => by cases z)
  have grown : ∀ p ∈ cs, ∃ more : Array Value, s'.heap.get? p.2 = some { cls := .none, data := .fields more } := fun p hp => by
    obtain ⟨more, z⟩ := un.tbls p.2 #[] (h0_tab (List.mem_map.mpr ⟨p, hp, rfl⟩))
    exact ⟨_, hok p.2 _ z⟩
  refine ⟨fun b o e => ?_, fun b o e => ?_⟩
  · by_cases hb : b ∈ tsOf cs
    · obtain ⟨p, hp, rfl⟩ := List.mem_map.mp hb
      obtain ⟨more, hm⟩ := grown p hp
      rw [h.tab p hp] at e
      cases e
      exact .inr (.inl ⟨((h.code p hp).tab (h.tab p hp)).isCodeTable, rfl, #[], more, rfl, by rw [Array.empty_append]; exact hm⟩)
    · exact .inl (keep b o hb e)
  · by_cases hb : b ∈ tsOf cs
    · obtain ⟨p, hp, rfl⟩ := List.mem_map.mp hb
      obtain ⟨more, hm⟩ := grown p hp
      exact ⟨_, hm⟩
    · exact ⟨o, keep b o hb e⟩
theorem law_callG {k : Nat} {fa : Addr} {fd : FuncData} {x : Str} {sp : Sp} (h : AtCall K mg mb cs s a vs ns) (hr : Room k callerA)
    (F : ∀ base : Heap, K.In base → base.Ns mainGlobals mg → (∀ p ∈ cs, LamX.TabB base mg p.1 p.2) → FnG P w K mg base (L2.CX P w) k fa fd [x] sp) (hbind : ∀ (s : Shared) (u : Value), BindsTo s fd ⟨[u], []⟩ [(x, u)])
    (hsp : ∀ H : Hp, (∀ p ∈ cs, H p.2 = some (.tbl #[])) → SqL K H a (ns.map V.int) → sp [.ref a] H (fun v _ => v = .bl true) fun _ _ _ => False) :
    codeAny (model P w) callerA (.call (.ref fa) ⟨[.ref a], []⟩) (fun r s' => r = .ok (.ret (.bool true)) ∧ OldK s.heap s'.heap ∧ s'.os = s.os ∧ AllBare s'.gens) s := by
  refine codeAny_mono ((F _ h.kin (h.nsB h.glob) h.tabB).run callerA [] s _ ⟨[.ref a], []⟩ [.ref a] [.ref a] _ _ rfl hr h.env0 (hbind s (.ref a)) (.cons rfl .nil) (hsp _ (fun p hp => h0_tab (List.mem_map.mpr ⟨p, hp, rfl⟩)) h.script)) fun r s' hq => ?_
  match r, hq with
  | .error e, hq =>
    obtain ⟨_, _, _, _, _, _, _, _, _, _, _, _, z⟩ := hq
    exact z.elim
  | .ok (.ret u), ⟨v, H', os, bare, un, hok', r', q⟩ =>
    have q : v = .bl true := q
    subst q
    cases r'
    exact ⟨rfl, h.old un hok', os, bare⟩
  | .ok .next, hq => exact False.elim hq
  | .ok .brk, hq => exact False.elim hq
  | .ok .cont, hq => exact False.elim hq
end
def LawG (P : Program) (w : World) (K : PySem.W.Frag) (k n : Nat) (x : Str) (mg : Str → Option Value) (fa : Addr) (h : Heap) : Prop :=
  ∃ (fd : FuncData) (cs : List (Addr × Addr)) (sp : Sp), (∀ p ∈ cs, h.get? p.2 = some { cls := .none, data := .fields #[] }) ∧ (∀ p ∈ cs, K.lookup p.2 = none) ∧ (∀ p ∈ cs, PySem.W.CodeHd h p.1 p.2) ∧ (∀ (s : Shared) (u : Value), BindsTo s fd ⟨[u], []⟩ [(x, u)]) ∧
    (∀ (H : Hp) (a : Addr) (ns : List Int), ns.length ≤ n → (∀ z ∈ ns, Builtin.Int.intBits z ≤ 1048576) → (∀ p ∈ cs, H p.2 = some (.tbl #[])) → SqL K H a (ns.map V.int) → sp [.ref a] H (fun v _ => v = .bl true) fun _ _ _ => False) ∧
    ∀ base : Heap, K.In base → base.Ns mainGlobals mg → (∀ p ∈ cs, LamX.TabB base mg p.1 p.2) → FnG P w K mg base (L2.CX P w) k fa fd [x] sp
theorem walk_ofG {l : PySem.W.OpenLaw} {n k : Nat} {q : Program} {loose : List Str} {XP : (Str → Option Value) → Heap → Prop} {YP : World → Heap → Prop} {d : DefRec} {x : Str} (hn : l.most = some n) (hn2 : n ≤ sizeLine) (hdf : d.params.defaults = []) (hr : Room k callerA)
    (F : ∀ (w : World) (mg : Str → Option Value) (fa : Addr) (h : Heap), YP w h → h.Ns mainGlobals mg → mg d.name = some (.ref fa) → ∃ K : PySem.W.Frag, K.In h ∧ LawG l.prog w K k n x mg fa h) :
    PySem.W.WalkO q loose XP YP l.row.toRowW d [] (fun f vs => PySem.call f vs) := by
  refine Att.attach_callB hn hdf fun w s₀ s₁ mg mb fa o pm cd doc a vs ns G Y ho hd hcd hmg hobj hints hlen hbits hg => ?_
  obtain ⟨K, KX, fd, cs, sp, hT, nT, C, hb, hsp, hF⟩ := F w mg fa _ Y G.T.g hmg
  exact law_callG ⟨KX, G.T.g, G.T.b, G.T.builtins, G.T.nolimit, hg, hT, nT, C, G.T.bmain, hobj, hints, Nat.le_trans hlen hn2⟩ hr hF hb fun H hH hS => hsp H a ns hlen hbits hH hS
structure DefA where
  at_ : PySem.W.Frag → Addr
  name : Str
  qual : Str
  st : Stmt
  cap : Option (PySem.W.Frag → Addr) := none
  dfl : List He.Dv := []
def DefA.dvs (K : PySem.W.Frag) (d : DefA) : List V := d.dfl.map (He.Dv.v K)
abbrev FnS : Type := Option (Str × Str × Arguments × FuncBody × Scope × Addr × List Str × Addr)
def fnS (K : PySem.W.Frag) (f : Addr) : FnS := match K.lookup f with
  | some ⟨_, _, .func fd, _⟩ => some (fd.name, fd.qualname, fd.params, fd.body, fd.scope, fd.globals, fd.closure.map (·.1), fd.builtins)
  | _ => none
def DefA.val (d : DefA) : FnS := some (d.name, d.qual, defArgs d.st, .stmts (defBody d.st), defScope d.st, mainGlobals, (if d.cap.isSome then [("__class__" : Str)] else []), builtinsNs)
def capB (K : PySem.W.Frag) (file : Str) (fd : FuncData) (D : Addr) : Bool := (match fd.closure with
  | [(_, cc)] => (match K.lookup cc with
    | some ⟨_, _, .cell (some (.ref E)), _⟩ => decide (E = D)
    | _ => false)
  | _ => false) && (match fd.code with
  | .ref c => (match K.lookup c with
    | some ⟨_, _, .fields vs, _⟩ => (match (vs[2]? : Option Value) with
      | some (.str f _) => decide (f = file)
      | _ => false)
    | _ => false)
  | _ => false)
def DefA.ok (K : PySem.W.Frag) (file : Str) (d : DefA) : Bool := PySem.W.keepIn K (.ref (d.at_ K)) && (match K.lookup (d.at_ K) with
  | some ⟨_, _, .func fd, _⟩ => PySem.W.codeIn K fd.code d.qual && (He.dflB K fd.defaults (d.dvs K) && (He.kwdB K fd.kwdefaults [] && (match d.cap with
    | none => true
    | some D => capB K file fd (D K))))
  | _ => false)
theorem DefA.funD {K : PySem.W.Frag} {file : Str} {d : DefA} (e : fnS K (d.at_ K) = d.val) (c : d.ok K file = true) (hn : d.cap = none) : ∃ fd, FunD K d.name d.qual (defArgs d.st) (defBody d.st) (defScope d.st) (d.dvs K) [] (d.at_ K) fd := by
  obtain ⟨kp, c2⟩ := He.ba c
  unfold fnS at e
  cases q : K.lookup (d.at_ K) with
  | none => rw [q] at c2; cases c2
  | some o =>
    obtain ⟨oc, od, dt, osl⟩ := o
    rw [q] at c2 e
    cases dt with
    | func fd =>
      obtain ⟨n1, n2, n3, n4, n5, n6, n7, n8, n9, n10, n11, n12, n13, n14, n15⟩ := fd
      unfold DefA.val at e
      rw [hn] at e
      have e2 : (some (n1, n2, n3, n4, n5, n6, n7.map (·.1), n15) : FnS) = some (d.name, d.qual, defArgs d.st, .stmts (defBody d.st), defScope d.st, mainGlobals, [], builtinsNs) := e
      simp only [Option.some.injEq, Prod.mk.injEq, List.map_eq_nil_iff] at e2
      obtain ⟨h1, h2, h3, h4, h5, h6, h7, h8⟩ := e2
      subst h1 h2 h3 h4 h5 h6 h7 h8
      obtain ⟨k1, k2⟩ := He.ba c2
      obtain ⟨k3, k4⟩ := He.ba k2
      obtain ⟨k5, _⟩ := He.ba k4
      exact ⟨_, ⟨oc, od, n8, n9, n10, n11, n12, n13, n14, osl, rfl, q, k1, He.dflB_ok k3, He.kwdB_ok k5⟩, kp⟩
    | _ => cases c2
theorem DefA.supD {K : PySem.W.Frag} {file : Str} {d : DefA} {D : PySem.W.Frag → Addr} (e : fnS K (d.at_ K) = d.val) (c : d.ok K file = true) (hn : d.cap = some D) (h0 : d.dfl = []) : SupD K d.name d.qual d.st (d.at_ K) (D K) file := by
  obtain ⟨kp, c2⟩ := He.ba c
  unfold fnS at e
  cases q : K.lookup (d.at_ K) with
  | none => rw [q] at c2; cases c2
  | some o =>
    obtain ⟨oc, od, dt, osl⟩ := o
    rw [q] at c2 e
    cases dt with
    | func fd =>
      obtain ⟨n1, n2, n3, n4, n5, n6, n7, n8, n9, n10, n11, n12, n13, n14, n15⟩ := fd
      unfold DefA.val at e
      rw [hn] at e
      have e2 : (some (n1, n2, n3, n4, n5, n6, n7.map (·.1), n15) : FnS) = some (d.name, d.qual, defArgs d.st, .stmts (defBody d.st), defScope d.st, mainGlobals, [("__class__" : Str)], builtinsNs) := e
      simp only [Option.some.injEq, Prod.mk.injEq] at e2
      obtain ⟨h1, h2, h3, h4, h5, h6, h7, h8⟩ := e2
      subst h1 h2 h3 h4 h5 h6 h8
      obtain ⟨k1, k2⟩ := He.ba c2
      obtain ⟨k3, k4⟩ := He.ba k2
      obtain ⟨k5, k6⟩ := He.ba k4
      rw [hn] at k6
      obtain ⟨k7, k8⟩ := He.ba k6
      match n7, h7, k7 with
      | [(cn, cc)], h7, k7 =>
        have ec : cn = "__class__" := by simpa using h7
        subst ec
        have C : ClsCell K cc (D K) := by
          have k7' : (match K.lookup cc with
            | some ⟨_, _, .cell (some (.ref E)), _⟩ => decide (E = D K)
            | _ => false) = true := k7
          split at k7'
          · rename_i c' d' E sl z
            rw [of_decide_eq_true k7'] at z
            exact ⟨_, _, _, z⟩
          · cases k7'
        have eD : n8 = .none := by
          rcases He.dflB_ok k3 with ⟨_, z⟩ | ⟨z, _⟩
          · exact z
          · exact absurd (by unfold DefA.dvs; rw [h0]; rfl) z
        obtain ⟨cda, rfl⟩ := He.codeIn_ref k1
        have k9 : (match K.lookup cda with
            | some ⟨_, _, .fields vs, _⟩ => (match (vs[2]? : Option Value) with
              | some (.str f _) => decide (f = file)
              | _ => false)
            | _ => false) = true := k8
        refine ⟨oc, od, n8, n9, n10, n11, n12, .ref cda, n14, osl, cc, q, k1, C, eD, cda, ?_⟩
        split at k9
        · rename_i c' d' vs sl z
          split at k9
          · rename_i f tf z2
            rw [of_decide_eq_true k9] at z2
            exact ⟨_, _, _, _, _, rfl, z, z2⟩
          · cases k9
        · cases k9
    | _ => cases c2
abbrev AlN : Type := List FnS × Bool
structure SaysN (ds : List DefA) (file : Str) (tf : List He.Defn) (ex : PySem.W.Frag → Bool) (h : Heap) (K : PySem.W.Frag) : Prop where
  fn : ∀ d ∈ ds, fnS K (d.at_ K) = d.val
  ok : ∀ d ∈ ds, d.ok K file = true
  more : ex K = true
  hd : ∀ p ∈ tf, PySem.W.codeHdIn K (He.cT K p).1 (He.cT K p).2 = true
  out : ∀ p ∈ tf, K.lookup (He.cT K p).2 = none
  empty : ∀ p ∈ tf, h.get? (He.cT K p).2 = some { cls := .none, data := .fields #[] }
def valN (ds : List DefA) : AlN := (ds.map DefA.val, true)
theorem SaysN.fun_ {ds : List DefA} {file : Str} {tf : List He.Defn} {ex : PySem.W.Frag → Bool} {h : Heap} {K : PySem.W.Frag} (c : SaysN ds file tf ex h K) {d : DefA} (hd : d ∈ ds) (hn : d.cap = none) : ∃ fd, FunD K d.name d.qual (defArgs d.st) (defBody d.st) (defScope d.st) (d.dvs K) [] (d.at_ K) fd := DefA.funD (c.fn d hd) (c.ok d hd) hn
theorem SaysN.sup {ds : List DefA} {file : Str} {tf : List He.Defn} {ex : PySem.W.Frag → Bool} {h : Heap} {K : PySem.W.Frag} (c : SaysN ds file tf ex h K) {d : DefA} {D : PySem.W.Frag → Addr} (hd : d ∈ ds) (hn : d.cap = some D) (h0 : d.dfl = []) : SupD K d.name d.qual d.st (d.at_ K) (D K) file := DefA.supD (c.fn d hd) (c.ok d hd) hn h0
def oexB (K : PySem.W.Frag) (C : Addr) : Bool := (match K.lookup C with
  | some ⟨.type "type", _, .cls cd, sl⟩ => (match cd.mro, sl.toList with
    | .ref C' :: bm, [_, _, _, _, some (.builtin n), _] => C' == C && (n == "ValueError.__new__" && (!cd.hasDel && (cd.hasDict && PySem.HandSPX.refsVE bm)))
    | _, _ => false)
  | _ => false) && (He.eqO (PySem.W.findIn K (.ref C) "__setattr__") (some (some (.builtin "object.__setattr__"))) && (decide (PySem.W.subIn K (.ref C) (.type "BaseException") = some true) && (decide (PySem.W.typeIn K (.ref C) = some (.type "type")) && PySem.W.keepIn K (.ref C))))
theorem oexB_ok {K : PySem.W.Frag} {C : Addr} (h : oexB K C = true) : OexC K C := by
  obtain ⟨h1, h⟩ := He.ba h
  obtain ⟨h2, h⟩ := He.ba h
  obtain ⟨h3, h⟩ := He.ba h
  obtain ⟨h4, h5⟩ := He.ba h
  refine ⟨?_, He.eqO_ok h2, of_decide_eq_true h3, of_decide_eq_true h4, h5⟩
  split at h1
  · rename_i dd cd sl ho
    split at h1
    · rename_i C' bm k0 k1 k2 k3 n k5 hm hs
      simp only [Bool.and_eq_true, beq_iff_eq, Bool.not_eq_true'] at h1
      obtain ⟨rfl, rfl, hdel, hdict, ht⟩ := h1
      obtain ⟨nm, bs, mro, ns, qn, hd, sn, sub, ab, col, del⟩ := cd
      dsimp only at hm hdel hdict
      subst hm hdel hdict
      have hsl : sl = #[k0, k1, k2, k3, some (.builtin "ValueError.__new__"), k5] := by
        obtain ⟨l⟩ := sl
        simp only at hs
        rw [hs]
      subst hsl
      exact ⟨nm, qn, ns, bs, bm, sn, sub, ab, col, dd, k0, k1, k2, k3, k5, ho, ht⟩
    · cases h1
  · cases h1
def supB (K : PySem.W.Frag) (C : Addr) : Bool := oexB K C && (He.eqO (PySem.W.ks_superIn K C C "__init__") (some (some (.builtin "ValueError.__init__"))) && (decide (PySem.W.mroIn K C (.ref C) = some true) && (decide (PySem.W.subIn K (.ref C) (.type "ValueError") = some true) && He.eqO (PySem.W.nsIn K cStatics "thirdparty.any") (some none))))
theorem supB_ok {K : PySem.W.Frag} {C : Addr} (h : supB K C = true) : SupX K C := by
  obtain ⟨h1, h⟩ := He.ba h
  obtain ⟨h2, h⟩ := He.ba h
  obtain ⟨h3, h⟩ := He.ba h
  obtain ⟨h4, h5⟩ := He.ba h
  exact ⟨oexB_ok h1, He.eqO_ok h2, of_decide_eq_true h3, of_decide_eq_true h4, He.eqO_ok h5⟩
def clsInB (K : PySem.W.Frag) (C : Addr) : Bool := (PySem.W.clsIn K C).isSome
theorem clsInB_ok {K : PySem.W.Frag} {C : Addr} (h : clsInB K C = true) : ∃ cd, PySem.W.clsIn K C = some cd := Option.isSome_iff_exists.mp h
def getOf (K : PySem.W.Frag) (C : Addr) (m : Str) : Addr := match PySem.W.recIn K (He.ma K C m) "property" with
  | some (.ref g :: _) => g
  | _ => 0
def propB (K : PySem.W.Frag) (C : Addr) (m : Str) : Bool := He.eqO (PySem.W.findIn K (.ref C) m) (some (some (.ref (He.ma K C m)))) && (He.eqO (PySem.W.specialIn K (.ref (He.ma K C m)) "__get__") (some (some (.builtin "property.__get__"))) && (decide (PySem.W.takesIn K (.ref (He.ma K C m)) = some true) && (match PySem.W.recIn K (He.ma K C m) "property" with
  | some (.ref _ :: _) => true
  | _ => false)))
theorem propB_ok {K : PySem.W.Frag} {C : Addr} {m : Str} (h : propB K C m = true) : PropOf K C m (He.ma K C m) (getOf K C m) := by
  obtain ⟨h1, h⟩ := He.ba h
  obtain ⟨h2, h⟩ := He.ba h
  obtain ⟨h3, h4⟩ := He.ba h
  refine ⟨He.eqO_ok h1, He.eqO_ok h2, of_decide_eq_true h3, ?_⟩
  unfold getOf
  split at h4
  · rename_i g r e
    rw [e]
    exact ⟨r, rfl⟩
  · cases h4
def eqCB (K : PySem.W.Frag) (C : Addr) : Bool := He.eqO (PySem.W.findIn K (.ref C) "__eq__") (some (some (.ref (He.ma K C "__eq__")))) && (He.eqO (PySem.W.findIn K (.ref C) "__ne__") (some (some (.builtin "object.__ne__"))) && (PySem.W.isFn K (.ref (He.ma K C "__eq__")) && decide (PySem.W.subIn K (.ref C) (.type "object") = some true)))
theorem eqCB_ok {K : PySem.W.Frag} {C : Addr} (h : eqCB K C = true) : EqC K C (He.ma K C "__eq__") := by
  obtain ⟨h1, h⟩ := He.ba h
  obtain ⟨h2, h⟩ := He.ba h
  obtain ⟨h3, h4⟩ := He.ba h
  exact ⟨He.eqO_ok h1, He.eqO_ok h2, h3, of_decide_eq_true h4⟩
structure InsC (K : PySem.W.Frag) (C : Addr) : Prop where
  ha : PySem.W.findIn K (.ref C) "__class__" = some (some (.builtin "object.__class__"))
  hn : PySem.W.specialIn K (.builtin "object.__class__") "__get__" = some (some (.builtin "getset_descriptor.__get__"))
  ht : PySem.W.takesIn K (.builtin "object.__class__") = some true
  hm : PySem.W.mroIn K C (.type "object") = some true
def insB (K : PySem.W.Frag) (C : Addr) : Bool := He.eqO (PySem.W.findIn K (.ref C) "__class__") (some (some (.builtin "object.__class__"))) && (He.eqO (PySem.W.specialIn K (.builtin "object.__class__") "__get__") (some (some (.builtin "getset_descriptor.__get__"))) && (decide (PySem.W.takesIn K (.builtin "object.__class__") = some true) && decide (PySem.W.mroIn K C (.type "object") = some true)))
theorem insB_ok {K : PySem.W.Frag} {C : Addr} (h : insB K C = true) : InsC K C := by
  obtain ⟨h1, h⟩ := He.ba h
  obtain ⟨h2, h⟩ := He.ba h
  obtain ⟨h3, h4⟩ := He.ba h
  exact ⟨He.eqO_ok h1, He.eqO_ok h2, of_decide_eq_true h3, of_decide_eq_true h4⟩
structure OwnM (K : PySem.W.Frag) (C : Addr) (m : Str) (f : Addr) : Prop where
  at_ : PySem.W.findIn K (.ref C) m = some (some (.ref f))
  fn : PySem.W.isFn K (.ref f) = true
def ownMB (K : PySem.W.Frag) (C : Addr) (m : Str) : Bool := He.eqO (PySem.W.findIn K (.ref C) m) (some (some (.ref (He.ma K C m)))) && PySem.W.isFn K (.ref (He.ma K C m))
theorem ownMB_ok {K : PySem.W.Frag} {C : Addr} {m : Str} (h : ownMB K C m = true) : OwnM K C m (He.ma K C m) := by
  obtain ⟨h1, h2⟩ := He.ba h
  exact ⟨He.eqO_ok h1, h2⟩
def cmOf (K : PySem.W.Frag) (C : Addr) (m : Str) : Addr := match PySem.W.recIn K (He.ma K C m) "classmethod" with
  | some (.ref f :: _) => f
  | _ => 0
def cmB (K : PySem.W.Frag) (C : Addr) (m : Str) : Bool := (match PySem.W.findCls K (.ref C) (.type "type") m with
  | some (.get (.builtin g) (.ref p) .none (.ref D)) => decide (g = "classmethod.__get__") && (decide (p = He.ma K C m) && decide (D = C))
  | _ => false) && ((match PySem.W.recIn K (He.ma K C m) "classmethod" with
  | some (.ref _ :: _) => true
  | _ => false) && PySem.W.fnIn K (cmOf K C m))
theorem cmB_ok {K : PySem.W.Frag} {C : Addr} {m : Str} (h : cmB K C m = true) : ClX.CMet K C (.type "type") m (He.ma K C m) (cmOf K C m) := by
  obtain ⟨h1, h⟩ := He.ba h
  obtain ⟨h2, h3⟩ := He.ba h
  refine ⟨?_, ?_, h3⟩
  · split at h1
    · rename_i g p D e
      obtain ⟨k1, k⟩ := He.ba h1
      obtain ⟨k2, k3⟩ := He.ba k
      rw [e, of_decide_eq_true k1, of_decide_eq_true k2, of_decide_eq_true k3]
    · cases h1
  · unfold cmOf
    split at h2
    · rename_i f r e
      exact ⟨r, by rw [e]⟩
    · cases h2
def creadB (K : PySem.W.Frag) (C : Addr) : Bool := PySem.W.readsIn K C (.type "type") && He.eqO (PySem.W.specialIn K (.ref C) "__getattribute__") (some (some (.builtin "type.__getattribute__")))
theorem creadB_ok {K : PySem.W.Frag} {C : Addr} (h : creadB K C = true) : ClX.CRead K C (.type "type") := by
  obtain ⟨h1, h2⟩ := He.ba h
  exact ⟨h1, He.eqO_ok h2⟩
end Nk
namespace Nk
open PySem PySem.Spec PyProof.Rows L2 StX
abbrev Fs (P : Program) (w : World) (K : PySem.W.Frag) (mg : Str → Option Value) (base : Heap) (f : Addr) (k : Nat) (sp : Sp) : Prop := FnR P w K mg base (L2.CX P w) k f sp
theorem fs_of {P : Program} {w : World} {K : PySem.W.Frag} {mg : Str → Option Value} {base : Heap} {f : Addr} {k : Nat} {ps : List Str} {sp : Sp} (c : Fo P w K mg base f k ps sp) : Fs P w K mg base f k sp := by
  obtain ⟨fd, F, hb⟩ := c
  refine fun A outer s H us vs Q E hr e0 r hsp => ?_
  have KX : K.In s.heap := e0.mod.kin.keeps fun b o e => (e0.bs b o e).1
  have b := hb s us KX (by rw [List.append_nil, ← r.length]; exact F.len _ _ _ _ hsp)
  rw [List.append_nil] at b
  exact F.run A outer s H ⟨us, []⟩ us vs Q E hr e0 b r hsp
theorem fs_dfl {P : Program} {w : World} {K : PySem.W.Frag} {mg : Str → Option Value} {base : Heap} {x qual : Str} {st : Stmt} {f : Addr} {ps : List Str} {dvs : List V} {k : Nat} {sp : Sp} (n j : Nat) (F : ∃ fd, FunD K x qual (defArgs st) (defBody st) (defScope st) dvs [] f fd)
    (ok : ∀ fd, FunD K x qual (defArgs st) (defBody st) (defScope st) dvs [] f fd → FnOk P w K mg base (L2.CX P w) k f fd ps sp) (hd : dvs ≠ []) (hn : n + (dvs.length - j) = ps.length)
    (h : ∀ (T : Addr) (kV doc pm : Value) (an : Option Addr) (cdv ct : Value) (us its : List Value), us.length = n → its.length = dvs.length →
      ∃ k, bindArgs (PySem.W.fnOf x qual (defArgs st) (defBody st) (defScope st) (.ref T) kV doc pm an cdv ct) ⟨us, []⟩ = seqItems? (.ref T) >>= k ∧ k (some its.toArray) = pure (ps.zip (us ++ its.drop j))) : Fs P w K mg base f k (fun vs H Q E => sp (vs ++ dvs.drop j) H Q E) := by
  obtain ⟨fd, F⟩ := F
  obtain ⟨ds, rd, b⟩ := F.binds1 (ps := ps) n j hd hn h
  have G := ok fd F
  refine fun A outer s H us vs Q E hr e0 r hsp => ?_
  have KX : K.In s.heap := e0.mod.kin.keeps fun b o e => (e0.bs b o e).1
  have r2 := r.append rd
  exact G.run A outer s H ⟨us, []⟩ (us ++ ds) (vs ++ dvs.drop j) Q E hr e0 (b s us KX (by rw [← r2.length]; exact G.len _ _ _ _ hsp)) r2 hsp
end Nk
namespace Nk
open PySem PySem.Spec PyProof.Rows L2
def exK (cls : Value) (d : Option Addr) (a : Addr) : HO := .ext fun h => ∃ (oe : Obj) (vs : Array Value), h.get? a = some oe ∧ Zc cls d oe ∧ oe.data = .fields vs
theorem exK_ok {P : Program} {w : World} {H : Hp} {h : Heap} {a : Addr} {cls : Value} {d : Option Addr} {oe : Obj} {vs : Array Value} (e : h.get? a = some oe) (z : Zc cls d oe) (hd : oe.data = .fields vs) : ObjOk P w H h a (exK cls d a) :=
  ⟨⟨oe, vs, e, z, hd⟩, ⟨oe, e⟩, fun _ _ ⟨o, v, q, r⟩ k => ⟨o, v, k o q, r⟩⟩
section
variable {X : Cx} {pins : List (Addr × Obj)} {σ : L2.St} {H : Hp} {s : Shared}
theorem Inv.track {a : Addr} {o : Obj} {u : HO} (I : Inv X pins σ H s) (h0 : X.s_0.heap.get? a = none) (ho : s.heap.get? a = some o) (hc : ∀ v, o.data ≠ .cell v) (hn : H a = none) (nL : a ≠ X.env.locals) (np : ∀ p ∈ X.pn ++ pins, p.1 ≠ a) (new : ObjOk X.prog X.w (upd H a u) s.heap a u) : Inv X pins (σ := σ) (upd H a u) s := by
  have ne : ∀ b v, H b = some v → b ≠ a := fun b v e => ne_of_none e hn
  have ne0 : ∀ b v, X.s_0.heap.get? b = some v → b ≠ a := fun b v e z => by rw [z, h0] at e; cases e
  refine ⟨I.ok, I.os, I.bare, ⟨I.base.keep, I.base.slot, fun b v e n hx => ?_, I.base.there, fun b xs e => ?_, fun b v w' e => ?_, fun b ps e => ?_⟩, I.loc, I.cell, ?_, fun x c e => ?_, fun p hp => ?_, L2.HOk.laidN (h' := s.heap) I.hok (fun _ _ e => e) hn new, I.len⟩
  · rw [upd_ne (ne0 b v e)]
    exact I.base.free b v e n hx
  · have z := I.base.tups b xs e
    rw [upd_ne (ne b _ z)]
    exact z
  · have z := I.base.frzs b v w' e
    rw [upd_ne (ne b _ z)]
    exact z
  · obtain ⟨more, z⟩ := I.base.tbls b ps e
    exact ⟨more, by rw [upd_ne (ne b _ z)]; exact z⟩
  · rw [upd_ne (Ne.symm nL)]
    exact I.free
  · rw [upd_ne (fun z => ?_)]
    · exact I.freeC x c e
    · obtain ⟨v, oc, h1, h2⟩ := I.cell x c e
      rw [z, ho] at h1
      cases h1
      exact hc _ h2
  · obtain ⟨h1, h2, h3⟩ := I.pin p hp
    exact ⟨h1, by rw [upd_ne (np p hp)]; exact h2, h3⟩
end
section
variable {X : Cx} {pins pn' : List (Addr × Obj)} {σ : L2.St} {H : Hp} {s : Shared}
theorem Inv.suiteT (I : Inv X pins σ H s) (a : Addr) : Inv (X.suite a (X.pn ++ pins)) [] σ H s :=
  ⟨I.ok.suite _ _, I.os, I.bare, I.base, I.loc, I.cell, I.free, I.freeC, fun p hp => I.pin p (by
    have hp : p ∈ (X.pn ++ pins) ++ [] := hp
    rw [List.append_nil] at hp
    exact hp), I.hok, I.len⟩
theorem Inv.suiteB {a : Addr} (I : Inv (X.suite a (X.pn ++ pins)) pn' σ H s) (ok : X.Ok) : Inv X pins σ H s :=
  ⟨ok, I.os, I.bare, I.base, I.loc, I.cell, I.free, I.freeC, fun p hp => I.pin p (List.mem_append_left _ hp), I.hok, I.len⟩
end
def tXe (K : PySem.W.Frag) (f : Str) (te : TE) : TE := fun σ H Q => te σ H fun x H1 => ∃ (a C d : Addr) (fs : List (Str × V)) (v : V), x = .ref a ∧ H1 a = some (exK (.ref C) (some d) a) ∧ XfC K C ∧ PySem.W.findIn K (.ref C) f = some none ∧ H1 d = some (.xd fs) ∧ fs.lookup f = some v ∧ Q v H1
theorem exK_at {P : Program} {w : World} {H : Hp} {h : Heap} {a C d : Addr} {fs : List (Str × V)} (hok : HOk P w H h) (ea : H a = some (exK (.ref C) (some d) a)) (ed : H d = some (.xd fs)) :
    ∃ (ox od : Obj) (mA : Str → Option Value), PySem.W.InstAt h a ox C (some od) ∧ (∀ f, PySem.W.lookIn f od = some (mA f)) ∧ ∀ f, RelO (fs.lookup f) (mA f) := by
  obtain ⟨⟨oe, vs, he, hz, hd⟩, _, _⟩ := hok a _ ea
  obtain ⟨mA, hns, hr⟩ := (show ObjOk P w H h d (.xd fs) from hok d _ ed)
  obtain ⟨od, ho, hl⟩ := lookIn_ns hns
  exact ⟨oe, od, mA, ⟨he, hz.1, by unfold PySem.W.notCls; rw [hd] <;> rfl, by rw [hz.2]; exact ho⟩, hl, hr⟩
theorem pe_xe {X : Cx} {e : Expr} {te : TE} {pos : Pos} {n : Str} (he : PE X e te) (hb : attributeBase e n X.env (eval e X.env) = eval e X.env := by rfl) : PE X (.Attribute e n pos) (tXe X.K n te) := by
  refine ⟨fun pins s σ H Q I h => ?_⟩
  refine attr_of hb (thn (he.run pins s σ H _ I h) fun u s1 hh => ?_)
  obtain ⟨x, H1, I1, rx, a, C, d, fs, v, ex, ea, T, hno, ed, l, q⟩ := hh
  subst ex
  obtain rfl : u = Value.ref a := rx
  obtain ⟨ox, od, mA, J, hl, hr⟩ := exK_at I1.hok ea ed
  obtain ⟨u, hu, ru⟩ := RelO.some_of (v := v) (o := mA n) (by rw [← l]; exact hr n)
  exact HandSPX.exc_get I1.kIn J T.ga T.gg T.exC (PySem.W.findObj_own T.hdC hno rfl (by rw [hl, hu])) (handed_of ru) ⟨v, H1, I1.tok _, ru, q⟩
end Nk
namespace Nk
open PySem PySem.Spec PyProof.Rows L2 StX
def rAlt (r r' : R2) : R2 := fun x y H Q => r x y H Q ∨ r' x y H Q
theorem op_alt {X : Cx} {o : Value → Value → Sem Value} {r r' : R2} (h1 : OpR X o r) (h2 : OpR X o r') : OpR X o (rAlt r r') := fun pins s σ H x y v u Q I rx ry h => h.elim (h1 pins s σ H x y v u Q I rx ry) (h2 pins s σ H x y v u Q I rx ry)
def spExc2 (C : Addr) (f g : Str) : Sp := fun vs H Q _ => ∃ (a : Addr) (v u : V), vs = [.ref a, v, u] ∧ H a = some (exo a C none) ∧ ∀ dx, H dx = none → dx ≠ a → Q .non (upd (upd (upd H dx (exd dx [(f, v)])) a (exo a C (some dx))) dx (exd dx [(g, u), (f, v)]))
theorem split_join {ws : List Str} (hne : ws ≠ []) (h : ∀ x ∈ ws, 32 ∉ x.cps.toList) : Txt.split (Txt.join " " ws) " " = ws := by
  have e32 : TL.tl (Str.ofString " ") = [32] := by decide +kernel
  have k : (Str.ofString " ").cps.all (· < 256) = true := by decide +kernel
  have e := TL.split_spl (Txt.join " " ws) " " (by rw [e32]; simp) (TL.kind_ok k)
  rw [TL.join_eq, TL.tl_join, e32, TL.spl_join (by simpa using hne) (fun p hp => by
    obtain ⟨x, hx, rfl⟩ := List.mem_map.mp hp
    exact h x hx)] at e
  rw [TL.join_eq]
  exact TL.map_tl_inj e
def Nl (H H' : Hp) : Prop := ∀ b o, H b = some o → (∀ xs, o ≠ .lst xs) → (∀ ps, o ≠ .tbl ps) → H' b = some o
section
variable {H H' H2 : Hp} {D a : Addr} {xs ys : List V} {K : PySem.W.Frag}
theorem Nl.refl (H : Hp) : Nl H H := fun _ _ h _ _ => h
theorem Nl.trans (h : Nl H H') (g : Nl H' H2) : Nl H H2 := fun b o e n m => g b o (h b o e n m) n m
theorem Nl.same (h : Same H H') : Nl H H' := fun b o e _ _ => h b o e
theorem Nl.ext (h : LamX.ExtN H H') : Nl H H' := fun b o e _ m => h b o e m
theorem Nl.kp {p c : Addr} {ns : List Int} {n : Nat} (P : Pen H p c ns n) (k : Kp p H H') : Nl H H' := fun b o e n _ => k b o e (P.off e n)
theorem Nl.put (n : Nl H H') (h : H' D = some (.lst xs)) : Nl H (upd H' D (.lst ys)) := fun b o e n1 n2 => by
  have h1 := n b o e n1 n2
  rw [upd_ne (fun z => by rw [z, h] at h1; exact n1 _ (Option.some.inj h1).symm)]
  exact h1
theorem Nl.new {o : HO} (n : Nl H H') (h : H' D = none) : Nl H (upd H' D o) := fun b u e n1 n2 => by
  rw [upd_ne (ne_of_none (n b u e n1 n2) h)]
  exact n b u e n1 n2
theorem SqT.nl (h : SqT K H a xs) (n : Nl H H') : SqT K H' a xs := by
  rcases h with (h | ⟨o, h⟩) | h
  · exact .inl (.inl (n _ _ h (fun _ z => by cases z) (fun _ z => by cases z)))
  · exact .inl (.inr ⟨o, n _ _ h (fun _ z => by cases z) (fun _ z => by cases z)⟩)
  · exact .inr h
end
end Nk
namespace Sh
open PySem PySem.Spec PyProof.Rows L2 Nk StX
section
variable {X : Cx} {k j : Nat} {C f g p : Addr} {sp : Sp} {W : WX} {x m : Str} {e o : Expr} {es : List Expr} {te ta tf : TE} {t : TA} {p0 p1 pos apos : Pos}
theorem run_fnA {pins : List (Addr × Obj)} {σ : L2.St} {H : Hp} {s : Shared} {E : XK} {Q : VK} {us : List Value} {vs : List V} (F : Fs X.prog X.w X.K X.mg X.base f k sp) (hr : Room k X.A) (hx : PassesAt (L2.CX X.prog X.w) X σ E) (I : Inv X pins σ H s) (r : Vals vs us) (h : sp vs H Q E) :
    codeAny (model X.prog X.w) X.A (.call (.ref f) ⟨us, []⟩) (fun r s' => match r with | .ok (.ret v) => EP X pins σ Q v s' | .ok _ => False | .error e => X.xe e s') s := by
  refine codeAny_mono (F X.A X.stack s H us vs Q E hr I.env0 r h) fun r s' hq => ?_
  cases r with
  | error e => exact hx pins H s e s' I hq
  | ok fl =>
    cases fl with
    | ret u => exact I.after hq
    | next => exact False.elim hq
    | brk => exact False.elim hq
    | cont => exact False.elim hq
theorem run_makeA {pins : List (Addr × Obj)} {σ : L2.St} {H : Hp} {s : Shared} {E : XK} {Q : VK} {us : List Value} {vs : List V} (M : Mk X.K C f) (F : Fs X.prog X.w X.K X.mg X.base f k sp) (hr : Room (k + 1) X.A) (hx : PassesAt (L2.CX X.prog X.w) X σ E) (I : Inv X pins σ H s) (r : Vals vs us)
    (h : ∀ x dx, H x = Option.none → H dx = Option.none → dx ≠ x → sp (V.ref x :: vs) (upd (upd H dx (.own x)) x (.ins C dx [])) (fun v H2 => v = .non ∧ Q (.ref x) H2) E) :
    wpAny (model X.prog X.w) X.A (call (.ref C) us) (EP X pins σ Q) X.xe s := by
  have hq := h (s.heap.objs.size + 1) s.heap.objs.size (I.hok.fresh (Nat.le_succ _)) (I.hok.fresh (Nat.le_refl _)) (Nat.ne_of_lt (Nat.lt_succ_self _))
  have I2 := Inv.made (C := C) I
  have r2 : Vals (V.ref (s.heap.objs.size + 1) :: vs) (Value.ref (s.heap.objs.size + 1) :: us) := .cons rfl r
  refine wpAny_call (make_map (f := f) I.kIn M.makes M.init (beq_iff_eq.mp M.fn) (codeAny_mono (F _ X.stack _ _ (Value.ref (s.heap.objs.size + 1) :: us) _ _ E (hr.make C us []) (I2.env0.make C us []) r2 hq) fun r s' hq' => ?_))
  cases r with
  | error e => exact hx pins _ _ e s' I2 hq'
  | ok fl =>
    cases fl with
    | ret u =>
      obtain ⟨v, H', I3, rv, ev, q3⟩ := I2.after hq'
      subst ev
      exact ⟨rv, ⟨V.ref (s.heap.objs.size + 1), H', I3, rfl, q3⟩⟩
    | next => exact False.elim hq'
    | brk => exact False.elim hq'
    | cont => exact False.elim hq'
def tMkW (C : Addr) (sp : Sp) (W : WX) (tf : TE) (t : TA) : TE := fun σ H Q => tf σ H fun y H1 => y = .ref C ∧ t σ H1 fun vs H2 => ∀ x dx, H2 x = none → H2 dx = none → dx ≠ x →
  sp (.ref x :: vs) (upd (upd H2 dx (.own x)) x (.ins C dx [])) (fun v H3 => v = .non ∧ Q (.ref x) H3) (WE W σ)
theorem pe_clsW (hf : PE X (.Name x p1) tf) (M : Mk X.K C f) (F : Fs X.prog X.w X.K X.mg X.base f k sp) (hr : Room j X.A) (hk : k + 1 ≤ j) (tk : Takes X W) (ha : PA X (e :: es) t)
    (he : starEach (e :: es) X.env = (false, eval e X.env) :: starEach es X.env := by rfl) (hpl : (backTo pos (starEach es X.env)).any (·.1) = false := by rfl) : PE X (.Call (.Name x p1) (e :: es) [] pos) (tMkW C sp W tf t) := by
  refine ⟨fun pins s σ H Q I h => wpAny_Call_Name_kw (thn (hf.run pins s σ H _ I h) fun u s1 ⟨y, H1, I1, ry, ey, q⟩ => ?_)⟩
  subst ey
  obtain rfl : u = Value.ref C := ry
  refine PySem.W.callWith_K (h₀ := X.base) I.ok.mod.kin M.kp (thn (ha.run pos pins s1 σ H1 _ I1 q) fun us s2 ⟨vs, H2, I2, r, q2⟩ => ⟨I2.kIn, ?_⟩) he hpl
  exact run_makeA M F (hr.mono hk) (passAt tk σ) I2 r q2
def tMeW (C : Addr) (m : Str) (sp : Sp) (W : WX) (ta : TE) (t : TA) : TE := fun σ H Q => ta σ H fun x H1 => ∃ a dx fs, x = .ref a ∧ H1 a = some (.ins C dx fs) ∧ fs.lookup m = none ∧ t σ H1 fun vs H2 => sp (x :: vs) H2 Q (WE W σ)
theorem pe_meW {pl : Sem Bool} (he : PE X o ta) (c : Cls X.K C) (hm : Meth X.K C m f) (F : Fs X.prog X.w X.K X.mg X.base f k sp) (hr : Room j X.A) (hk : k ≤ j) (tk : Takes X W) (ha : PA X (e :: es) t)
    (hst : starEach (e :: es) X.env = (false, eval e X.env) :: starEach es X.env := by rfl) (hpl : (backTo pos (starEach es X.env)).any (·.1) = false := by rfl)
    (ht : eval (.Call (.Attribute o m apos) (e :: es) [] pos) X.env = (do
      let ov ← eval o X.env
      standAt apos.atName
      let (f, first) ← holding [ov] (getMethod ov m pl)
      callWith pos f first (backTo pos (starEach (e :: es) X.env)) (backToKw pos (keywordEach [] X.env))) := by rfl) :
    PE X (.Call (.Attribute o m apos) (e :: es) [] pos) (tMeW C m sp W ta t) := by
  refine ⟨fun pins s σ H Q I h => ?_⟩
  refine PySem.W.methodCall_KW (pl := pl) (thn (he.run pins s σ H _ I h) fun u s1 ⟨x, H1, I1, rx, a, dx, fs, ex, ea, l, q⟩ => ?_) ht
  subst ex
  obtain rfl : u = Value.ref a := rx
  refine getmeth_ok I1 ea c hm l ?_
  refine PySem.W.callWith_K (first := [.ref a]) (h₀ := X.base) I.ok.mod.kin hm.kp (thn (ha.run pos pins s1 σ H1 _ I1 q) fun us s2 ⟨vs, H2, I2, r, q2⟩ => ⟨I2.kIn, ?_⟩) hst hpl
  exact wpAny_call (run_fnA (us := .ref a :: us) (vs := .ref a :: vs) F (hr.mono hk) (passAt tk σ) I2 (.cons rfl r) q2)
theorem pe_meW0 {pl : Sem Bool} (he : PE X o ta) (c : Cls X.K C) (hm : Meth X.K C m f) (F : Fs X.prog X.w X.K X.mg X.base f k sp) (hr : Room j X.A) (hk : k ≤ j) (tk : Takes X W)
    (ht : eval (.Call (.Attribute o m apos) [] [] pos) X.env = (do
      let ov ← eval o X.env
      standAt apos.atName
      let (f, first) ← holding [ov] (getMethod ov m pl)
      callWith pos f first (backTo pos (starEach [] X.env)) (backToKw pos (keywordEach [] X.env))) := by rfl) :
    PE X (.Call (.Attribute o m apos) [] [] pos) (tMeW C m sp W ta tNil) := by
  refine ⟨fun pins s σ H Q I h => ?_⟩
  refine PySem.W.methodCall_KW (pl := pl) (thn (he.run pins s σ H _ I h) fun u s1 ⟨x, H1, I1, rx, a, dx, fs, ex, ea, l, q⟩ => ?_) ht
  subst ex
  obtain rfl : u = Value.ref a := rx
  refine getmeth_ok I1 ea c hm l ?_
  exact PySem.W.callWith_K0 (first := [.ref a]) I1.kIn hm.kp (wpAny_call (run_fnA (us := [Value.ref a]) (vs := [V.ref a]) F (hr.mono hk) (passAt tk σ) I1 (.cons rfl .nil) q))
end
end Sh
namespace Sh
open PySem PySem.Spec PyProof.Rows L2 Nk StX
section
variable {X : Cx} {k j : Nat} {C f g p : Addr} {sp : Sp} {W : WX} {x m : Str} {e o : Expr} {es : List Expr} {te ta tf : TE} {t : TA} {p0 p1 pos apos : Pos} {mc : Value} {pl : Sem Bool}
theorem run_cmA {pins : List (Addr × Obj)} {σ : L2.St} {H : Hp} {s : Shared} {q : Addr} {E : XK} {Q : VK} {us : List Value} {vs : List V} (F : Fs X.prog X.w X.K X.mg X.base g k sp) (hr : Room k X.A) (hx : PassesAt (L2.CX X.prog X.w) X σ E) (I : Inv X ((q, PySem.W.methodObj (.ref g) (.ref C)) :: pins) σ H s)
    (r : Vals vs us) (h : sp (.ref C :: vs) H Q E) : wpAny (model X.prog X.w) X.A (call (.ref q) us) (EP X pins σ Q) X.xe s := by
  have z : wpAny (model X.prog X.w) X.A (call (.ref q) us) (EP X ((q, PySem.W.methodObj (.ref g) (.ref C)) :: pins) σ Q) X.xe s :=
    wpAny_call (PySem.W.method_call (ClX.pin_at I) (run_fnA (us := .ref C :: us) (vs := .ref C :: vs) F hr hx I (.cons rfl r) h))
  exact thn z fun _ _ y => ClX.unpinE y
def tCmW (C : Addr) (sp : Sp) (W : WX) (ta : TE) (t : TA) : TE := fun σ H Q => ta σ H fun x H1 => x = .ref C ∧ t σ H1 fun vs H2 => sp (.ref C :: vs) H2 Q (WE W σ)
theorem pe_cmW (he : PE X o ta) (r : ClX.CRead X.K C mc) (c : ClX.CMet X.K C mc m p g) (F : Fs X.prog X.w X.K X.mg X.base g k sp) (hr : Room j X.A) (hk : k ≤ j) (tk : Takes X W) (ha : PA X (e :: es) t)
    (hst : starEach (e :: es) X.env = (false, eval e X.env) :: starEach es X.env := by rfl) (hpl : (backTo pos (starEach es X.env)).any (·.1) = false := by rfl)
    (ht : eval (.Call (.Attribute o m apos) (e :: es) [] pos) X.env = (do
      let ov ← eval o X.env
      standAt apos.atName
      let (f, first) ← holding [ov] (getMethod ov m pl)
      callWith pos f first (backTo pos (starEach (e :: es) X.env)) (backToKw pos (keywordEach [] X.env))) := by rfl) :
    PE X (.Call (.Attribute o m apos) (e :: es) [] pos) (tCmW C sp W ta t) := by
  refine ⟨fun pins s σ H Q I h => ?_⟩
  refine PySem.W.methodCall_KW (pl := pl) (thn (he.run pins s σ H _ I h) fun u s1 ⟨x, H1, I1, rx, ex, q⟩ => ?_) ht
  subst ex
  obtain rfl : u = Value.ref C := rx
  refine ClX.getmethcm_ok I1 r c fun s2 I2 => ?_
  refine ClX.callwith_cm I2 (ClX.base_none I1 (Nat.le_refl _)) c.fi (thn (ha.run pos _ s2 σ H1 _ I2 q) fun us s3 ⟨vs, H2, I3, rv, q2⟩ => ⟨⟨ClX.pin_at I3, I3.kIn⟩, ?_⟩) hst hpl
  exact run_cmA F (hr.mono hk) (passAt tk σ) I3 rv q2
end
end Sh
namespace Nk
open PySem PySem.Spec PyProof.Rows L2 StX
abbrev clsN : Str := "__class__"
structure InX (s₀ : Shared) (L cc : Addr) (m : Str → Option Value) (cs : List (Str × Addr)) (cm : Str → Option Value) (s : Shared) : Prop where
  toInCall : InCall s₀ L m s
  mem : ∀ n c, (n, c) ∈ cs → (n = clsN ∧ c = cc) ∨ (n ≠ clsN ∧ L < c)
  cell : ∀ n c, cs.lookup n = some c → n ≠ clsN → s.heap.IsCell c (cm n)
  apart : cs.Pairwise fun x y => x.2 ≠ y.2
  low : cc < s₀.heap.objs.size
theorem InX.above {s₀ s : Shared} {L cc : Addr} {m : Str → Option Value} {cs : List (Str × Addr)} {cm : Str → Option Value} (x : InX s₀ L cc m cs cm s) {n : Str} {c : Addr} (h : cs.lookup n = some c) (hn : n ≠ clsN) : L < c := by
  rcases x.mem n c (PySem.mem_of_lookup h) with ⟨e, _⟩ | ⟨_, e⟩
  · exact absurd e hn
  · exact e
end Nk
namespace Nk
open PySem PySem.Spec PyProof.Rows L2 StX
structure CFn (K : PySem.W.Frag) (C : Addr) (m : Str) (f : Addr) : Prop where
  at_ : PySem.W.findCls K (.ref C) (.type "type") m = some (.val (.ref f)) ∨ ∃ p rest, PySem.W.findCls K (.ref C) (.type "type") m = some (.get (.builtin "staticmethod.__get__") (.ref p) .none (.ref C)) ∧ PySem.W.recIn K p "staticmethod" = some (.ref f :: rest)
  kp : PySem.W.keepIn K (.ref f) = true
section
variable {X : Cx} {pins : List (Addr × Obj)} {σ : L2.St} {H : Hp} {s : Shared} {C f : Addr} {m : Str} {A : Around} {E : Value → Shared → Prop}
theorem getmethcf_ok {pl : Sem Bool} {Q : Value × List Value → Shared → Prop} (I : Inv X pins σ H s) (r : ClX.CRead X.K C (.type "type")) (k : CFn X.K C m f)
    (h : ∀ s', Inv X pins σ H s' → Q (.ref f, []) s') : wpAny (model X.prog X.w) A (getMethod (.ref C) m pl) Q E s := by
  refine PySem.W.method_cls I.kIn r.ga ?_
  rcases k.at_ with e | ⟨p, rest, e, hp⟩
  · exact PySem.W.cls_value I.kIn r.rd e rfl (h _ (I.tok _))
  · exact PySem.W.cls_bind I.kIn r.rd e (wpAny_call (PySem.W.sm_get (s := { s with toks := s.toks + 1 }) I.kIn hp (PySem.W.handed_on rfl (h _ (I.tok _)))))
end
section
variable {X : Cx} {k j : Nat} {C f : Addr} {sp : Sp} {W : WX} {m : Str} {e o : Expr} {es : List Expr} {ta : TE} {t : TA} {pos apos : Pos} {pl : Sem Bool}
def tCfW (C : Addr) (sp : Sp) (W : WX) (ta : TE) (t : TA) : TE := fun σ H Q => ta σ H fun x H1 => x = .ref C ∧ t σ H1 fun vs H2 => sp vs H2 Q (WE W σ)
theorem pe_cfW0 (he : PE X o ta) (r : ClX.CRead X.K C (.type "type")) (c : CFn X.K C m f) (F : Fs X.prog X.w X.K X.mg X.base f k sp) (hr : Room j X.A) (hk : k ≤ j) (tk : Takes X W)
    (ht : eval (.Call (.Attribute o m apos) [] [] pos) X.env = (do
      let ov ← eval o X.env
      standAt apos.atName
      let (f, first) ← holding [ov] (getMethod ov m pl)
      callWith pos f first (backTo pos (starEach [] X.env)) (backToKw pos (keywordEach [] X.env))) := by rfl) :
    PE X (.Call (.Attribute o m apos) [] [] pos) (tCfW C sp W ta tNil) := by
  refine ⟨fun pins s σ H Q I h => ?_⟩
  refine PySem.W.methodCall_KW (pl := pl) (thn (he.run pins s σ H _ I h) fun u s1 ⟨x, H1, I1, rx, ex, q⟩ => ?_) ht
  subst ex
  obtain rfl : u = Value.ref C := rx
  refine getmethcf_ok I1 r c fun s2 I2 => ?_
  exact PySem.W.callWith_K0 (first := []) I2.kIn c.kp (wpAny_call (Sh.run_fnA (us := []) (vs := []) F (hr.mono hk) (passAt tk σ) I2 .nil q))
end
def cfB (K : PySem.W.Frag) (C : Addr) (m : Str) (f : Addr) : Bool := (match PySem.W.findCls K (.ref C) (.type "type") m with
  | some (.val v) => v == .ref f
  | some (.get g (.ref p) ob (.ref C2)) => g == .builtin "staticmethod.__get__" && (ob == .none && (C2 == C && match PySem.W.recIn K p "staticmethod" with
    | some (v :: _) => v == .ref f
    | _ => false))
  | _ => false) && PySem.W.keepIn K (.ref f)
theorem cfB_ok {K : PySem.W.Frag} {C f : Addr} {m : Str} (h : cfB K C m f = true) : CFn K C m f := by
  unfold cfB at h
  obtain ⟨h1, h2⟩ := He.ba h
  refine ⟨?_, h2⟩
  split at h1
  · rename_i v e
    rw [beq_iff_eq] at h1
    exact .inl (by rw [e, h1])
  · rename_i g p ob C2 e
    obtain ⟨a, h1⟩ := He.ba h1
    obtain ⟨b, h1⟩ := He.ba h1
    obtain ⟨c, h1⟩ := He.ba h1
    split at h1
    · rename_i v rest e2
      rw [beq_iff_eq] at a b c h1
      exact .inr ⟨p, rest, by rw [e, a, b, c], by rw [e2, h1]⟩
    · cases h1
  · cases h1
end Nk
namespace Nk
open PySem PySem.Spec PyProof.Rows L2 StX
def tLockS (t : TS) : TS := fun D σ H => ∃ d u, H d = some u ∧ Mut (some u) ∧ ∀ od, t D σ (upd H d (.frz od u))
def tLockV (t : TE) : TE := fun σ H Q => t σ H fun v H1 => ∃ d u, v = .ref d ∧ H1 d = some u ∧ Mut (some u) ∧ ∀ od, Q v (upd H1 d (.frz od u))
section
variable {X : Cx}
theorem ps_lockS {st : Stmt} {t : TS} (h : PS X st t) : PS X st (tLockS t) := by
  refine ⟨fun pins s σ H D I hw => ?_⟩
  obtain ⟨d, u, hd, mu, hw⟩ := hw
  obtain ⟨od, I1⟩ := I.lock hd mu
  exact h.run pins s σ _ D I1 (hw od)
theorem pe_lockV {e : Expr} {t : TE} (h : PE X e t) : PE X e (tLockV t) := by
  refine ⟨fun pins s σ H Q I hw => ?_⟩
  refine thn (h.run pins s σ H _ I hw) fun v s1 ⟨x, H1, I1, r, d, u, e, hd, mu, q⟩ => ?_
  obtain ⟨od, I2⟩ := I1.lock hd mu
  exact ⟨x, _, I2, r, q od⟩
end
end Nk
namespace Nk
open PySem PySem.Spec
def smOf (K : PySem.W.Frag) (C : Addr) (m : Str) : Addr := match PySem.W.recIn K (He.ma K C m) "staticmethod" with
  | some (.ref f :: _) => f
  | _ => 0
end Nk
namespace Nk
open PySem PySem.Spec PyProof.Rows L2
def topS (i : Nat) : Stmt := PySem.Challenge.pw_nextkind_k28_standings_written_and_read.main.body.getD i (.Pass ⟨0, 0, 0, 0⟩)
abbrev PP : Program := PySem.Challenge.pw_nextkind_k28_standings_written_and_read
def tys : List String := ["NoneType", "bool", "int", "str", "list", "tuple", "dict"]
abbrev s_BadName_init : Stmt := inClass (topS 3) 0
theorem sc_BadName_init : FnSup ["self", "value"] ["self", "value"] (defScope s_BadName_init) := fnSup_by (by decide +kernel)
abbrev s_BadNumber_init : Stmt := inClass (topS 4) 0
theorem sc_BadNumber_init : FnSup ["self", "value"] ["self", "value"] (defScope s_BadNumber_init) := fnSup_by (by decide +kernel)
abbrev s_BadTable_init : Stmt := inClass (topS 5) 0
theorem sc_BadTable_init : FnSup ["self", "value"] ["self", "value"] (defScope s_BadTable_init) := fnSup_by (by decide +kernel)
abbrev s_BadText_init : Stmt := inClass (topS 7) 0
theorem sc_BadText_init : FnSup ["self", "line", "word"] ["self", "line", "word"] (defScope s_BadText_init) := fnSup_by (by decide +kernel)
abbrev s_is_integer : Stmt := topS 14
theorem sc_is_integer : FnScope ["value"] ["value"] (defScope s_is_integer) := ⟨rfl, rfl, rfl, by decide +kernel, rfl, by decide +kernel, by decide +kernel⟩
abbrev s_is_within : Stmt := topS 15
theorem sc_is_within : FnScope ["value", "least", "most"] ["value", "least", "most"] (defScope s_is_within) := ⟨rfl, rfl, rfl, by decide +kernel, rfl, by decide +kernel, by decide +kernel⟩
abbrev s_is_number : Stmt := topS 16
theorem sc_is_number : FnScope ["value"] ["value"] (defScope s_is_number) := ⟨rfl, rfl, rfl, by decide +kernel, rfl, by decide +kernel, by decide +kernel⟩
abbrev s_is_name : Stmt := topS 17
theorem sc_is_name : FnScope ["value", "letter"] ["value"] (defScope s_is_name) := ⟨rfl, rfl, rfl, by decide +kernel, rfl, by decide +kernel, by decide +kernel⟩
abbrev s_number_in : Stmt := topS 18
theorem sc_number_in : FnScope ["word", "sign"] ["word"] (defScope s_number_in) := ⟨rfl, rfl, rfl, by decide +kernel, rfl, by decide +kernel, by decide +kernel⟩
abbrev s_is_name_pair : Stmt := topS 19
theorem sc_is_name_pair : FnScope ["value"] ["value"] (defScope s_is_name_pair) := ⟨rfl, rfl, rfl, by decide +kernel, rfl, by decide +kernel, by decide +kernel⟩
abbrev s_Words_init : Stmt := inClass (topS 21) 0
theorem sc_Words_init : FnScope ["self", "text", "line"] ["self", "text", "line"] (defScope s_Words_init) := ⟨rfl, rfl, rfl, by decide +kernel, rfl, by decide +kernel, by decide +kernel⟩
abbrev s_Words_refuse : Stmt := inClass (topS 21) 1
theorem sc_Words_refuse : FnScope ["self", "index"] ["self", "index"] (defScope s_Words_refuse) := ⟨rfl, rfl, rfl, by decide +kernel, rfl, by decide +kernel, by decide +kernel⟩
abbrev s_Words_is_over : Stmt := inClass (topS 21) 2
theorem sc_Words_is_over : FnScope ["self"] ["self"] (defScope s_Words_is_over) := ⟨rfl, rfl, rfl, by decide +kernel, rfl, by decide +kernel, by decide +kernel⟩
abbrev s_Words_upcoming : Stmt := inClass (topS 21) 3
theorem sc_Words_upcoming : FnScope ["self"] ["self"] (defScope s_Words_upcoming) := ⟨rfl, rfl, rfl, by decide +kernel, rfl, by decide +kernel, by decide +kernel⟩
abbrev s_Words_skip : Stmt := inClass (topS 21) 4
theorem sc_Words_skip : FnScope ["self"] ["self"] (defScope s_Words_skip) := ⟨rfl, rfl, rfl, by decide +kernel, rfl, by decide +kernel, by decide +kernel⟩
abbrev s_Words_take_name : Stmt := inClass (topS 21) 6
theorem sc_Words_take_name : FnScope ["self"] ["self"] (defScope s_Words_take_name) := ⟨rfl, rfl, rfl, by decide +kernel, rfl, by decide +kernel, by decide +kernel⟩
abbrev s_Words_take_number : Stmt := inClass (topS 21) 7
theorem sc_Words_take_number : FnScope ["self", "least", "most", "word", "number"] ["self", "least", "most"] (defScope s_Words_take_number) := ⟨rfl, rfl, rfl, by decide +kernel, rfl, by decide +kernel, by decide +kernel⟩
abbrev s_Words_is_lone : Stmt := inClass (topS 21) 8
theorem sc_Words_is_lone : FnScope ["self", "word"] ["self", "word"] (defScope s_Words_is_lone) := ⟨rfl, rfl, rfl, by decide +kernel, rfl, by decide +kernel, by decide +kernel⟩
abbrev s_Words_close : Stmt := inClass (topS 21) 9
theorem sc_Words_close : FnScope ["self"] ["self"] (defScope s_Words_close) := ⟨rfl, rfl, rfl, by decide +kernel, rfl, by decide +kernel, by decide +kernel⟩
abbrev s_ascending_pairs : Stmt := topS 23
theorem sc_ascending_pairs : FnScope ["some", "kinds", "kind", "bay", "name", "there"] ["some"] (defScope s_ascending_pairs) := ⟨rfl, rfl, rfl, by decide +kernel, rfl, by decide +kernel, by decide +kernel⟩
abbrev s_things_of : Stmt := topS 24
theorem sc_things_of : FnScope ["table", "key", "pairs", "pair"] ["table"] (defScope s_things_of) := ⟨rfl, rfl, rfl, by decide +kernel, rfl, by decide +kernel, by decide +kernel⟩
abbrev s_take_things : Stmt := topS 25
theorem sc_take_things : FnScope ["words", "found", "last", "kind", "bay"] ["words"] (defScope s_take_things) := ⟨rfl, rfl, rfl, by decide +kernel, rfl, by decide +kernel, by decide +kernel⟩
abbrev s_Standing_init : Stmt := inClass (topS 26) 0
theorem sc_Standing_init : FnScope ["self", "table"] ["self", "table"] (defScope s_Standing_init) := ⟨rfl, rfl, rfl, by decide +kernel, rfl, by decide +kernel, by decide +kernel⟩
abbrev s_Standing_none : Stmt := inClass (topS 26) 1
theorem sc_Standing_none : FnScope [] [] (defScope s_Standing_none) := ⟨rfl, rfl, rfl, by decide +kernel, rfl, by decide +kernel, by decide +kernel⟩
abbrev s_Standing_read : Stmt := inClass (topS 26) 2
theorem sc_Standing_read : FnScope ["cls", "text", "words", "found"] ["cls", "text"] (defScope s_Standing_read) := ⟨rfl, rfl, rfl, by decide +kernel, rfl, by decide +kernel, by decide +kernel⟩
abbrev s_Standing_parts : Stmt := inClass (topS 26) 6
theorem sc_Standing_parts : FnScope ["self", "kind", "bay"] ["self"] (defScope s_Standing_parts) := ⟨rfl, rfl, rfl, by decide +kernel, rfl, by decide +kernel, by decide +kernel⟩
abbrev s_Standing_eq : Stmt := inClass (topS 26) 25
theorem sc_Standing_eq : FnScope ["self", "other"] ["self", "other"] (defScope s_Standing_eq) := ⟨rfl, rfl, rfl, by decide +kernel, rfl, by decide +kernel, by decide +kernel⟩
abbrev s_Standing_str : Stmt := inClass (topS 26) 26
theorem sc_Standing_str : FnScope ["self", "kind", "bay", "number"] ["self"] (defScope s_Standing_str) := ⟨rfl, rfl, rfl, by decide +kernel, rfl, by decide +kernel, by decide +kernel⟩
abbrev s__law_pen : Stmt := topS 28
theorem sc__law_pen : FnScope ["_law_script"] ["_law_script"] (defScope s__law_pen) := ⟨rfl, rfl, rfl, by decide +kernel, rfl, by decide +kernel, by decide +kernel⟩
abbrev s__law_draw : Stmt := topS 29
theorem sc__law_draw : FnScope ["_law_pen_here", "_law_many", "_law_digit", "_law_begun", "_law_cell", "_law_great", "_law_mixed"] ["_law_pen_here", "_law_many"] (defScope s__law_draw) := ⟨rfl, rfl, rfl, by decide +kernel, rfl, by decide +kernel, by decide +kernel⟩
abbrev s__law_pick : Stmt := topS 30
theorem sc__law_pick : FnScope ["_law_pen_here", "_law_some"] ["_law_pen_here", "_law_some"] (defScope s__law_pick) := ⟨rfl, rfl, rfl, by decide +kernel, rfl, by decide +kernel, by decide +kernel⟩
abbrev s__law_word : Stmt := topS 31
theorem sc__law_word : FnScope ["_law_pen_here", "_law_letters", "_law_word_here", "_law_turn"] ["_law_pen_here"] (defScope s__law_word) := ⟨rfl, rfl, rfl, by decide +kernel, rfl, by decide +kernel, by decide +kernel⟩
abbrev s__law_table : Stmt := topS 33
theorem sc__law_table : FnScope ["_law_pen_here", "_law_found", "_law_turn", "_law_name", "_law_other", "_law_key"] ["_law_pen_here"] (defScope s__law_table) := ⟨rfl, rfl, rfl, by decide +kernel, rfl, by decide +kernel, by decide +kernel⟩
abbrev s__law_text : Stmt := topS 34
theorem sc__law_text : FnScope ["_law_told", "_law_words", "_law_kind", "_law_bay", "_law_key"] ["_law_told"] (defScope s__law_text) := ⟨rfl, rfl, rfl, by decide +kernel, rfl, by decide +kernel, by decide +kernel⟩
abbrev s__law_bent : Stmt := topS 35
theorem sc__law_bent : FnScope ["_law_pen_here", "_law_words", "_law_way", "_law_at", "_law_odd", "_law_word_here"] ["_law_pen_here", "_law_words"] (defScope s__law_bent) := ⟨rfl, rfl, rfl, by decide +kernel, rfl, by decide +kernel, by decide +kernel⟩
abbrev s__law_is_name : Stmt := topS 36
theorem sc__law_is_name : FnScope ["_law_word_here", "_law_sign"] ["_law_word_here"] (defScope s__law_is_name) := ⟨rfl, rfl, rfl, by decide +kernel, rfl, by decide +kernel, by decide +kernel⟩
abbrev s__law_is_number : Stmt := topS 37
theorem sc__law_is_number : FnScope ["_law_word_here", "_law_sign"] ["_law_word_here"] (defScope s__law_is_number) := ⟨rfl, rfl, rfl, by decide +kernel, rfl, by decide +kernel, by decide +kernel⟩
abbrev s__law_due : Stmt := topS 38
theorem sc__law_due : FnScope ["_law_line", "_law_words", "_law_found", "_law_last", "_law_at"] ["_law_line"] (defScope s__law_due) := ⟨rfl, rfl, rfl, by decide +kernel, rfl, by decide +kernel, by decide +kernel⟩
abbrev s__law_read_right : Stmt := topS 39
theorem sc__law_read_right : FnScope ["_law_line", "_law_due_here", "_law_heard_here"] ["_law_line"] (defScope s__law_read_right) := ⟨rfl, rfl, rfl, by decide +kernel, rfl, by decide +kernel, by decide +kernel⟩
abbrev s__law_heard : Stmt := topS 32
theorem sc__law_heard : FnScope ["_law_ask", "error"] ["_law_ask"] (defScope s__law_heard) := ⟨rfl, rfl, rfl, by decide +kernel, rfl, by decide +kernel, by decide +kernel⟩
abbrev s_law : Stmt := topS 40
theorem sc_law : FnScope ["_law_script", "_law_pen_here", "_law_turn", "_law_told", "_law_standing", "_law_line", "_law_words", "_law_again", "_law_rows", "_law_odd"] ["_law_script"] (defScope s_law) := ⟨rfl, rfl, rfl, by decide +kernel, rfl, by decide +kernel, by decide +kernel⟩
end Nk
namespace Nk
open PySem PySem.Spec PyProof.Rows L2
def RunP {β : Type} (r : PySem.W.OpenRow) (M : Nat) (w : World) (f : PySem.W.SharedT → β) (v : β) : Prop := ∀ os : OsState, Option.map f (HandSHeadRun.endF (HandSHeadRun.stepQ (HandSHeadRun.denQ HandSHeadRun.tabQ) r.prog w) M r.prog w os) = some v
theorem run_of {r : PySem.W.OpenRow} {q : Program} {M : Nat} {loose : List Str} {w : World} {H : PySem.W.Hook} {ob : PySem.W.SharedT → H.α}
    (a : RunP r M w (fun s => HandSHeadRun.looksF r.prog (PySem.W.boot_heap w.params) s.abs) true)
    (b : RunP r M w (fun s => HandSHeadRun.seenQ q loose (importedModules r.prog.main.body) (fun s => PySem.W.xlAt q [] s && PySem.W.recOk r.records s) s.abs) (PySem.W.openGood q loose))
    (c : RunP r M w ob (H.val w)) : HandSHeadRun.RunEq r q H ob M loose w := by
  intro os
  have a := a os
  have b := b os
  have c := c os
  revert a b c
  generalize HandSHeadRun.endF (HandSHeadRun.stepQ (HandSHeadRun.denQ HandSHeadRun.tabQ) r.prog w) M r.prog w os = x
  intro a b c
  cases x with
  | none => cases a
  | some s =>
    have a := Option.some.inj a
    have b := Option.some.inj b
    have c := Option.some.inj c
    show some (_, _, _) = some (_, _, _)
    congr 1
    exact Prod.ext a (Prod.ext b c)
def seenE (m a : Nat) : Bool := Nat.beq (Nat.land (Nat.shiftRight m a) 1) 1
def addE : List Addr → List Addr → Nat → (List Addr → Nat → List Addr) → List Addr
  | [], acc, m, k => k acc m
  | a :: r, acc, m, k => match seenE m a with
    | true => addE r acc m k
    | false => addE r (a :: acc) (Nat.lor m (Nat.shiftLeft 1 a)) k
def levE (g : Addr → Option Obj) : Nat → List Addr → List Addr → Nat → List Addr
  | 0, fr, all, _ => all ++ fr
  | n + 1, fr, all, m => addE (fr.flatMap fun a => match g a with
    | some o => He.refsD o
    | none => []) [] m fun new m' => levE g n new (all ++ fr) m'
def asE (g : Addr → Option Obj) (n : Nat) : List Addr := levE g n [mainGlobals] [] (Nat.shiftLeft 1 mainGlobals)
abbrev frM (g : Addr → Option Obj) (n : Nat) : PySem.W.Frag := He.frT g (cStatics :: asE g n)
def obsM (n : Nat) (ds : List DefA) (file : Str) (tf : List He.Defn) (ex : PySem.W.Frag → Bool) (g : Addr → Option Obj) : AlN :=
  (ds.map (fun d => fnS (frM g n) (d.at_ (frM g n))), (ds.all fun d => d.ok (frM g n) file) && (ex (frM g n) && He.tabsB g tf (frM g n)))
theorem saysM_of {n : Nat} {ds : List DefA} {file : Str} {tf : List He.Defn} {ex : PySem.W.Frag → Bool} {h : Heap} (e : obsM n ds file tf ex h.get? = valN ds) : SaysN ds file tf ex h (frM h.get? n) := by
  have e1 : ds.map (fun d => fnS (frM h.get? n) (d.at_ (frM h.get? n))) = ds.map DefA.val := congrArg (fun z : AlN => z.1) e
  have e2 : ((ds.all fun d => d.ok (frM h.get? n) file) && (ex (frM h.get? n) && He.tabsB h.get? tf (frM h.get? n))) = true := congrArg (fun z : AlN => z.2) e
  obtain ⟨h0, e3⟩ := He.ba e2
  obtain ⟨h1, h2⟩ := He.ba e3
  have key : ∀ p ∈ tf, PySem.W.codeHdIn (frM h.get? n) (He.cT (frM h.get? n) p).1 (He.cT (frM h.get? n) p).2 = true ∧ ∃ o, h.get? (He.cT (frM h.get? n) p).2 = some o ∧ He.emptyTab o = true := fun p hp => by
    obtain ⟨h3, h4⟩ := He.ba (List.all_eq_true.mp h2 p hp)
    refine ⟨h3, ?_⟩
    cases q : h.get? (He.cT (frM h.get? n) p).2 with
    | none => rw [q] at h4; cases h4
    | some o => rw [q] at h4; exact ⟨o, rfl, h4⟩
  exact ⟨fun d hd => List.map_inj_left.mp e1 d hd, fun d hd => List.all_eq_true.mp h0 d hd, h1, fun p hp => (key p hp).1, fun p hp => by
    obtain ⟨_, o, q, z⟩ := key p hp
    exact He.frT_none q z, fun p hp => by
    obtain ⟨_, o, q, z⟩ := key p hp
    rw [q, He.emptyTab_eq z]⟩
def hookM (n : Nat) (ds : List DefA) (file : Str) (tf : List He.Defn) (ex : PySem.W.Frag → Bool) : PySem.W.Hook where
  α := AlN
  obs := fun s => obsM n ds file tf ex s.heap.get?
  val := fun _ => valN ds
  says := fun _ h => ∃ K : PySem.W.Frag, K.In h ∧ SaysN ds file tf ex h K
  of := fun _ _ e => ⟨_, He.frT_in, saysM_of e⟩
  keeps := fun _ _ _ ⟨K, hK, c⟩ k => ⟨K, PySem.W.Frag.In.keeps hK k, ⟨c.fn, c.ok, c.more, c.hd, c.out, fun p hp => k _ _ (c.empty p hp)⟩⟩
theorem obsM_eq {n : Nat} {ds : List DefA} {file : Str} {tf : List He.Defn} {ex : PySem.W.Frag → Bool} {g : Addr → Option Obj} {s : Shared} (h : ∀ a, g a = s.heap.get? a) : obsM n ds file tf ex g = (hookM n ds file tf ex).obs s := by
  have e : g = s.heap.get? := funext h
  rw [e] <;> rfl
theorem obsM_join {n : Nat} {d1 d2 : List DefA} {file : Str} {tf : List He.Defn} {ex : PySem.W.Frag → Bool} {g : Addr → Option Obj}
    (a : obsM n d1 file tf (fun _ => true) g = valN d1) (b : obsM n d2 file tf ex g = valN d2) : obsM n (d1 ++ d2) file tf ex g = valN (d1 ++ d2) := by
  unfold obsM valN at a b ⊢
  have a4 := congrArg Prod.fst a
  have a5 := congrArg Prod.snd a
  have b4 := congrArg Prod.fst b
  have b5 := congrArg Prod.snd b
  dsimp only at a4 a5 b4 b5
  rw [Bool.and_eq_true] at a5 b5
  rw [List.map_append, List.map_append, List.all_append, a4, b4, a5.1, b5.1, b5.2]
  rfl
theorem runM_join {r : PySem.W.OpenRow} {n M : Nat} {d1 d2 : List DefA} {file : Str} {tf : List He.Defn} {ex : PySem.W.Frag → Bool} {w : World}
    (h1 : RunP r M w (fun s => obsM n d1 file tf (fun _ => true) (HandSHeadRun.getT s)) (valN d1))
    (h2 : RunP r M w (fun s => obsM n d2 file tf ex (HandSHeadRun.getT s)) (valN d2)) :
    RunP r M w (fun s => obsM n (d1 ++ d2) file tf ex (HandSHeadRun.getT s)) (valN (d1 ++ d2)) := by
  intro os
  have a := h1 os
  have b := h2 os
  revert a b
  generalize HandSHeadRun.endF (HandSHeadRun.stepQ (HandSHeadRun.denQ HandSHeadRun.tabQ) r.prog w) M r.prog w os = x
  intro a b
  cases x with
  | none => cases a
  | some s => exact congrArg some (obsM_join (Option.some.inj a) (Option.some.inj b))
end Nk
namespace Nk
open PySem PySem.Spec PyProof.Rows L2
def fns : List DefA := [
  ⟨fun K => (He.ma K (He.ga K "BadName") "__init__"), "__init__", "BadName.__init__", s_BadName_init, (some fun K => He.ga K "BadName"), []⟩,
  ⟨fun K => (He.ma K (He.ga K "BadNumber") "__init__"), "__init__", "BadNumber.__init__", s_BadNumber_init, (some fun K => He.ga K "BadNumber"), []⟩,
  ⟨fun K => (He.ma K (He.ga K "BadTable") "__init__"), "__init__", "BadTable.__init__", s_BadTable_init, (some fun K => He.ga K "BadTable"), []⟩,
  ⟨fun K => (He.ma K (He.ga K "BadText") "__init__"), "__init__", "BadText.__init__", s_BadText_init, (some fun K => He.ga K "BadText"), []⟩,
  ⟨fun K => (He.ga K "is_integer"), "is_integer", "is_integer", s_is_integer, none, []⟩,
  ⟨fun K => (He.ga K "is_within"), "is_within", "is_within", s_is_within, none, []⟩,
  ⟨fun K => (He.ga K "is_number"), "is_number", "is_number", s_is_number, none, []⟩,
  ⟨fun K => (He.ga K "is_name"), "is_name", "is_name", s_is_name, none, []⟩,
  ⟨fun K => (He.ga K "number_in"), "number_in", "number_in", s_number_in, none, []⟩,
  ⟨fun K => (He.ga K "is_name_pair"), "is_name_pair", "is_name_pair", s_is_name_pair, none, []⟩,
  ⟨fun K => (He.ma K (He.ga K "Words") "__init__"), "__init__", "Words.__init__", s_Words_init, none, [He.Dv.int 0]⟩,
  ⟨fun K => (He.ma K (He.ga K "Words") "refuse"), "refuse", "Words.refuse", s_Words_refuse, none, [He.Dv.non]⟩,
  ⟨fun K => (He.ma K (He.ga K "Words") "is_over"), "is_over", "Words.is_over", s_Words_is_over, none, []⟩,
  ⟨fun K => (He.ma K (He.ga K "Words") "upcoming"), "upcoming", "Words.upcoming", s_Words_upcoming, none, []⟩,
  ⟨fun K => (He.ma K (He.ga K "Words") "skip"), "skip", "Words.skip", s_Words_skip, none, []⟩,
  ⟨fun K => (He.ma K (He.ga K "Words") "take_name"), "take_name", "Words.take_name", s_Words_take_name, none, []⟩,
  ⟨fun K => (He.ma K (He.ga K "Words") "take_number"), "take_number", "Words.take_number", s_Words_take_number, none, [He.Dv.non]⟩,
  ⟨fun K => (He.ma K (He.ga K "Words") "is_lone"), "is_lone", "Words.is_lone", s_Words_is_lone, none, []⟩,
  ⟨fun K => (He.ma K (He.ga K "Words") "close"), "close", "Words.close", s_Words_close, none, []⟩,
  ⟨fun K => (He.ga K "ascending_pairs"), "ascending_pairs", "ascending_pairs", s_ascending_pairs, none, []⟩,
  ⟨fun K => (He.ga K "things_of"), "things_of", "things_of", s_things_of, none, []⟩,
  ⟨fun K => (He.ga K "take_things"), "take_things", "take_things", s_take_things, none, []⟩,
  ⟨fun K => (He.ma K (He.ga K "Standing") "__init__"), "__init__", "Standing.__init__", s_Standing_init, none, []⟩,
  ⟨fun K => (smOf K (He.ga K "Standing") "none"), "none", "Standing.none", s_Standing_none, none, []⟩,
  ⟨fun K => (cmOf K (He.ga K "Standing") "read"), "read", "Standing.read", s_Standing_read, none, []⟩,
  ⟨fun K => (getOf K (He.ga K "Standing") "parts"), "parts", "Standing.parts", s_Standing_parts, none, []⟩,
  ⟨fun K => (He.ma K (He.ga K "Standing") "__eq__"), "__eq__", "Standing.__eq__", s_Standing_eq, none, []⟩,
  ⟨fun K => (He.ma K (He.ga K "Standing") "__str__"), "__str__", "Standing.__str__", s_Standing_str, none, []⟩,
  ⟨fun K => (He.ga K "_law_pen"), "_law_pen", "_law_pen", s__law_pen, none, []⟩,
  ⟨fun K => (He.ga K "_law_draw"), "_law_draw", "_law_draw", s__law_draw, none, []⟩,
  ⟨fun K => (He.ga K "_law_pick"), "_law_pick", "_law_pick", s__law_pick, none, []⟩,
  ⟨fun K => (He.ga K "_law_word"), "_law_word", "_law_word", s__law_word, none, []⟩,
  ⟨fun K => (He.ga K "_law_table"), "_law_table", "_law_table", s__law_table, none, []⟩,
  ⟨fun K => (He.ga K "_law_text"), "_law_text", "_law_text", s__law_text, none, []⟩,
  ⟨fun K => (He.ga K "_law_bent"), "_law_bent", "_law_bent", s__law_bent, none, []⟩,
  ⟨fun K => (He.ga K "_law_is_name"), "_law_is_name", "_law_is_name", s__law_is_name, none, []⟩,
  ⟨fun K => (He.ga K "_law_is_number"), "_law_is_number", "_law_is_number", s__law_is_number, none, []⟩,
  ⟨fun K => (He.ga K "_law_due"), "_law_due", "_law_due", s__law_due, none, []⟩,
  ⟨fun K => (He.ga K "_law_read_right"), "_law_read_right", "_law_read_right", s__law_read_right, none, []⟩,
  ⟨fun K => (He.ga K "_law_heard"), "_law_heard", "_law_heard", s__law_heard, none, []⟩,
  ⟨fun K => (He.ga K "law"), "law", "law", s_law, none, []⟩]
def lits : List He.Fa := [.free "super", .glo "is_integer", .free "isinstance", .free "int", .free "bool", .glo "is_within", .glo "is_number", .int "MOST_NUMBER" 999999999999999999999999999999999999999999999999999999999999, .glo "is_name", .free "str", .free "len", .int "MOST_LETTERS" 8, .free "all", .str "LETTERS" "abcdefghijklmnopqrstuvwxyz", .glo "number_in", .int "MOST_FIGURES" 60, .str "FIGURES" "0123456789", .glo "is_name_pair", .free "tuple", .glo "BadText", .glo "ascending_pairs", .free "sorted", .free "set", .glo "things_of", .free "dict", .glo "BadTable", .glo "BadName", .glo "BadNumber", .glo "take_things", .glo "Standing", .glo "Words", .glo "_law_pen", .free "list", .glo "_law_draw", .free "abs", .glo "_law_pick", .glo "_law_word", .free "range", .glo "_law_table", .glo "_law_text", .glo "_law_bent", .glo "_law_is_name", .glo "_law_is_number", .glo "_law_due", .glo "NextError", .glo "_law_read_right", .glo "_law_heard", .glo "law"]
def bls (K : PySem.W.Frag) : List Bool := [
  clsInB K (He.ga K "BadName"),
  supB K (He.ga K "BadName"),
  He.eqO (PySem.W.findIn K (.ref (He.ga K "BadName")) "value") (some none),
  clsInB K (He.ga K "BadNumber"),
  supB K (He.ga K "BadNumber"),
  He.eqO (PySem.W.findIn K (.ref (He.ga K "BadNumber")) "value") (some none),
  clsInB K (He.ga K "BadTable"),
  supB K (He.ga K "BadTable"),
  He.eqO (PySem.W.findIn K (.ref (He.ga K "BadTable")) "value") (some none),
  clsInB K (He.ga K "BadText"),
  supB K (He.ga K "BadText"),
  He.eqO (PySem.W.findIn K (.ref (He.ga K "BadText")) "line") (some none),
  He.eqO (PySem.W.findIn K (.ref (He.ga K "BadText")) "word") (some none),
  (He.Fa.cls "Standing").ok K,
  insB K (He.ga K "Standing"),
  decide (PySem.W.kitOne K (.ref (He.ga K "Standing")) (.type "str") = some false),
  He.eqO (PySem.W.findIn K (.ref (He.ga K "BadText")) "__init__") (some (some (.ref (He.ma K (He.ga K "BadText") "__init__")))),
  decide (PySem.W.typeIn K (.ref (He.ma K (He.ga K "BadText") "__init__")) = some (.type "function")),
  (He.Fa.cls "Words").ok K,
  (He.Fa.noat "Words" "told").ok K,
  (He.Fa.noat "Words" "line_index").ok K,
  (He.Fa.noat "Words" "next_index").ok K,
  (He.Fa.meth "Words" "is_over").ok K,
  (He.Fa.meth "Words" "refuse").ok K,
  (He.Fa.meth "Words" "upcoming").ok K,
  (He.Fa.meth "Words" "skip").ok K,
  He.eqO (PySem.W.findIn K (.ref (He.ga K "BadTable")) "__init__") (some (some (.ref (He.ma K (He.ga K "BadTable") "__init__")))),
  decide (PySem.W.typeIn K (.ref (He.ma K (He.ga K "BadTable") "__init__")) = some (.type "function")),
  He.eqO (PySem.W.findIn K (.ref (He.ga K "BadName")) "__init__") (some (some (.ref (He.ma K (He.ga K "BadName") "__init__")))),
  decide (PySem.W.typeIn K (.ref (He.ma K (He.ga K "BadName") "__init__")) = some (.type "function")),
  He.eqO (PySem.W.findIn K (.ref (He.ga K "BadNumber")) "__init__") (some (some (.ref (He.ma K (He.ga K "BadNumber") "__init__")))),
  decide (PySem.W.typeIn K (.ref (He.ma K (He.ga K "BadNumber") "__init__")) = some (.type "function")),
  (He.Fa.meth "Words" "is_lone").ok K,
  (He.Fa.meth "Words" "take_name").ok K,
  (He.Fa.meth "Words" "take_number").ok K,
  (He.Fa.noat "Standing" "own_things").ok K,
  (He.Fa.mkr "Standing").ok K,
  (He.Fa.mkr "Words").ok K,
  (He.Fa.meth "Words" "close").ok K,
  (tys.all fun t => decide (PySem.W.kitOne K (.type t) (.ref (He.ga K "Standing")) = some false)),
  decide (PySem.W.kitOne K (.ref (He.ga K "Standing")) (.ref (He.ga K "Standing")) = some true),
  propB K (He.ga K "Standing") "parts",
  decide (PySem.W.exmOne K (.ref (He.ga K "BadName")) (.ref (He.ga K "BadText")) = some false),
  decide (PySem.W.exmOne K (.ref (He.ga K "BadNumber")) (.ref (He.ga K "BadText")) = some false),
  decide (PySem.W.exmOne K (.ref (He.ga K "BadTable")) (.ref (He.ga K "BadText")) = some false),
  decide (PySem.W.exmOne K (.ref (He.ga K "BadText")) (.ref (He.ga K "BadText")) = some true),
  xfB K (He.ga K "BadText"),
  decide (PySem.W.exmOne K (.ref (He.ga K "BadName")) (.ref (He.ga K "NextError")) = some true),
  decide (PySem.W.exmOne K (.ref (He.ga K "BadNumber")) (.ref (He.ga K "NextError")) = some true),
  decide (PySem.W.exmOne K (.ref (He.ga K "BadTable")) (.ref (He.ga K "NextError")) = some true),
  decide (PySem.W.exmOne K (.ref (He.ga K "BadText")) (.ref (He.ga K "NextError")) = some true),
  true && decide ((He.cT K ("law", none)).2 ≠ (He.cT K ("_law_read_right", none)).2),
  creadB K (He.ga K "Standing"),
  cmB K (He.ga K "Standing") "read",
  eqCB K (He.ga K "Standing"),
  PySem.W.notFirst K (He.ga K "Standing") (.ref (He.ga K "Standing")),
  ownMB K (He.ga K "Standing") "__str__",
  true && decide ((He.cT K ("_law_read_right", none)).2 ≠ (He.cT K ("law", none)).2),
  cfB K (He.ga K "Standing") "none" (smOf K (He.ga K "Standing") "none")]
def lawK (K : PySem.W.Frag) : Bool := (lits.all fun f => f.ok K) && (bls K).all id
def tfs : List He.Defn := [("_law_read_right", none), ("law", none)]
abbrev Rw : PySem.W.OpenRow := PySem.W.OpenLaw.row PySem.Challenge.rw_nextkind_k28_standings_written_and_read
abbrev FL : Str := "/claim/cut.py"
abbrev hk : PySem.W.Hook := hookM 5 fns FL tfs lawK
def ob (s : PySem.W.SharedT) : AlN := obsM 5 fns FL tfs lawK (HandSHeadRun.getT s)
theorem ob_eq (s : PySem.W.SharedT) : ob s = hk.obs s.abs := obsM_eq (HandSHeadRun.getT_eq s)
def loose : List Str := (["_wall", "NextError", "BadName", "BadNumber", "BadTable", "NotThere", "BadText", "LETTERS", "FIGURES", "MOST_LETTERS", "MOST_FIGURES", "MOST_NUMBER", "is_integer", "is_within", "is_number", "is_name", "number_in", "is_name_pair", "Words", "ascending_pairs", "things_of", "take_things", "Standing", "_law_pen", "_law_draw", "_law_pick", "_law_word", "_law_heard", "_law_table", "_law_text"] : List Str) ++ (["_law_bent", "_law_is_name", "_law_is_number", "_law_due", "_law_read_right"] : List Str)
theorem hrunA (w : World) : RunP Rw 9000 w (fun s => HandSHeadRun.looksF Rw.prog (PySem.W.boot_heap w.params) s.abs) true := by
  intro os
  kernel_rfl
theorem hrunB (w : World) : RunP Rw 9000 w (fun s => HandSHeadRun.seenQ (PySem.W.view Rw.prog [40]) loose (importedModules Rw.prog.main.body) (fun s => PySem.W.xlAt (PySem.W.view Rw.prog [40]) [] s && PySem.W.recOk Rw.records s) s.abs) (PySem.W.openGood (PySem.W.view Rw.prog [40]) loose) := by
  intro os
  kernel_rfl
theorem hrunC (w : World) : RunP Rw 9000 w (fun s => obsM 5 (fns.take 20) FL tfs (fun _ => true) (HandSHeadRun.getT s)) (valN (fns.take 20)) := by
  intro os
  kernel_rfl
theorem hrunE (w : World) : RunP Rw 9000 w (fun s => obsM 5 (fns.drop 20) FL tfs (fun _ => true) (HandSHeadRun.getT s)) (valN (fns.drop 20)) := by
  intro os
  kernel_rfl
theorem hrunD (w : World) : RunP Rw 9000 w (fun s => obsM 5 [] FL tfs lawK (HandSHeadRun.getT s)) (valN []) := by
  intro os
  kernel_rfl
theorem hrunX (w : World) : RunP Rw 9000 w ob (valN fns) := by
  have h := runM_join (hrunC w) (runM_join (hrunE w) (hrunD w))
  rw [List.append_nil, List.take_append_drop] at h
  exact h
theorem run (w : World) : HandSHeadRun.RunEq Rw (PySem.W.view Rw.prog [40]) hk ob 9000 loose w := run_of (hrunA w) (hrunB w) (hrunX w)
end Nk
namespace Sh
open PySem PySem.Spec PyProof.Rows L2 Nk
class TabSet where
  TS : PySem.W.Frag → List (Addr × Str)
inductive D where
  | non | bl (b : Bool) | int (i : Int) | str (x : Str) | ty (n : String) | cls (c : String)
  | tup (xs : List D) | lst (xs : List D) | obj (c : String) (fs : List (Str × D)) | exc (c : String) (fs : List (Str × D))
  | dk (kvs : List (Key × D)) | dt (kvs : List (List Key × D)) | ref (n : Nat) | scr (xs : List D) | adr (a : Addr) | fk (kvs : List (Key × D)) | ft (kvs : List (List Key × D)) | tpl (xs : List D)
  deriving Inhabited
inductive Cell where
  | lst (xs : List D) | ins (c : String) (fs : List (Str × D)) | dk (kvs : List (Key × D)) | dt (kvs : List (List Key × D)) | fk (kvs : List (Key × D)) | ft (kvs : List (List Key × D))
  deriving Inhabited
abbrev Store := List Cell
inductive Sl where
  | no | val (d : D) | own (c : Cell)
  deriving Inhabited
abbrev En := List Sl
structure Exn where
  c : String
  fs : List (Str × D)
inductive R (α : Type) where
  | ok (a : α) (S : Store) | er (x : Exn) (S : Store) | no
def R.bind {α β : Type} (r : R α) (k : α → Store → R β) : R β := match r with
  | .ok a S => k a S
  | .er x S => .er x S
  | .no => .no
section
variable {α β : Type} {a : α} {S : Store} {k : α → Store → R β} {x : Exn}
@[simp] theorem ok_bind : (R.ok a S).bind k = k a S := rfl
@[simp] theorem er_bind : (R.er x S : R α).bind k = .er x S := rfl
@[simp] theorem no_bind : (R.no : R α).bind k = .no := rfl
@[simp] theorem ite_bind {c : Prop} [Decidable c] {r s : R α} : (if c then r else s).bind k = if c then r.bind k else s.bind k := by split <;> rfl
end
def R.of {α : Type} (S : Store) : Option α → R α
  | some a => .ok a S
  | none => .no
@[simp] theorem of_some {α : Type} {a : α} {S : Store} : R.of S (some a) = .ok a S := rfl
@[simp] theorem of_none {α : Type} {S : Store} : R.of S (none : Option α) = .no := rfl
inductive RS where
  | nx (e : En) (S : Store) | rt (d : D) (S : Store) | bk (e : En) (S : Store) | ct (e : En) (S : Store) | er (x : Exn) (e : En) (S : Store) | no
structure Wo where
  K : PySem.W.Frag
  Z : Addr → Prop
  m : List Addr
  H : Hp
def KpL (K : PySem.W.Frag) (a : Addr) (xs : List V) : Prop := ∃ (o : Obj) (its : Array Value) (n : Nat), K.lookup a = some o ∧ o.cls = .type "list" ∧ o.dict = none ∧ o.data = .seq its n ∧ its.size ≤ sizeLine ∧ Vals xs its.toList
def TrL (w : Wo) (a : Addr) (xs : List V) : Prop := ¬ w.Z a ∧ w.H a = some (.lst xs) ∧ xs.length ≤ sizeLine
def TrT (w : Wo) (a : Addr) (xs : List V) : Prop := (¬ w.Z a ∧ w.H a = some (.tup xs)) ∧ xs.length ≤ sizeLine
def TrS (w : Wo) (a : Addr) (xs : List V) : Prop := ((¬ w.Z a ∧ Rd w.H a (.lst xs)) ∨ KpL w.K a xs) ∧ xs.length ≤ sizeLine
theorem TrS.sq {w : Wo} {a : Addr} {xs : List V} (h : TrS w a xs) : SqL w.K w.H a xs := h.1.imp And.right id
theorem TrL.sq {w : Wo} {a : Addr} {xs : List V} (h : TrL w a xs) : SqL w.K w.H a xs := .inl (.inl h.2.1)
theorem TrT.sq {w : Wo} {a : Addr} {xs : List V} (h : TrT w a xs) : SqT w.K w.H a xs := .inl (.inl h.1.2)
theorem TrT.plain {w : Wo} {a : Addr} {xs : List V} (h : TrT w a xs) : w.H a = some (.tup xs) := h.1.2
def KFit (k : Key) : Prop := ∀ x, k = Sum.inr x → x.length ≤ sizeLine
def TFit (f : List Key) : Prop := (∀ k ∈ f, KFit k) ∧ f.length ≤ sizeLine
mutual
def Rep (w : Wo) : D → V → Prop
  | .non, v => v = .non
  | .bl b, v => v = .bl b
  | .int i, v => v = .int i
  | .str x, v => v = .str x ∧ x.length ≤ sizeLine
  | .ty n, v => v = .ty n
  | .cls c, v => v = .ref (He.ga w.K c)
  | .tup ds, v => ∃ a vs, v = .ref a ∧ TrT w a vs ∧ Reps w ds vs
  | .lst ds, v => ∃ a vs, v = .ref a ∧ TrL w a vs ∧ Reps w ds vs
  | .obj c fs, v => ∃ a dx gs, v = .ref a ∧ ¬ w.Z a ∧ w.H a = some (.ins (He.ga w.K c) dx gs) ∧ RepF w fs gs
  | .exc c fs, v => ∃ a d gs, v = .ref a ∧ ¬ w.Z a ∧ w.H a = some (exK (.ref (He.ga w.K c)) (some d) a) ∧ ¬ w.Z d ∧ w.H d = some (.xd gs) ∧ RepF w fs gs
  | .dk kvs, v => ∃ a vs, v = .ref a ∧ ¬ w.Z a ∧ w.H a = some (.dK vs) ∧ RepK w kvs vs
  | .dt kvs, v => ∃ a vs, v = .ref a ∧ ¬ w.Z a ∧ w.H a = some (.dT vs) ∧ RepT w kvs vs
  | .ref n, v => ∃ a, v = .ref a ∧ w.m[n]? = some a
  | .scr ds, v => ∃ a vs, v = .ref a ∧ TrS w a vs ∧ Reps w ds vs
  | .adr a, v => v = .ref a
  | .fk kvs, v => ∃ a o vs, v = .ref a ∧ ¬ w.Z a ∧ w.H a = some (.frz o (.dK vs)) ∧ RepK w kvs vs
  | .ft kvs, v => ∃ a o vs, v = .ref a ∧ ¬ w.Z a ∧ w.H a = some (.frz o (.dT vs)) ∧ RepT w kvs vs
  | .tpl ds, v => ∃ a o vs, v = .ref a ∧ ¬ w.Z a ∧ w.H a = some (.frz o (.tup vs)) ∧ (o.cls = .type "tuple" ∧ o.dict = none ∧ vs.length ≤ sizeLine) ∧ Reps w ds vs
def Reps (w : Wo) : List D → List V → Prop
  | [], vs => vs = []
  | d :: ds, vs => ∃ v r, vs = v :: r ∧ Rep w d v ∧ Reps w ds r
def RepF (w : Wo) : List (Str × D) → List (Str × V) → Prop
  | [], vs => vs = []
  | (f, d) :: ds, vs => ∃ v r, vs = (f, v) :: r ∧ Rep w d v ∧ RepF w ds r
def RepK (w : Wo) : List (Key × D) → List (Key × V) → Prop
  | [], vs => vs = []
  | (f, d) :: ds, vs => ∃ v r, vs = (f, v) :: r ∧ (KFit f ∧ Rep w d v) ∧ RepK w ds r
def RepT (w : Wo) : List (List Key × D) → List (List Key × V) → Prop
  | [], vs => vs = []
  | (f, d) :: ds, vs => ∃ v r, vs = (f, v) :: r ∧ (TFit f ∧ Rep w d v) ∧ RepT w ds r
end
structure Le (w w' : Wo) : Prop where
  K : w'.K = w.K
  z : ∀ a o, w.H a = some o → (∀ ps, o ≠ .tbl ps) → ¬ w.Z a → ¬ w'.Z a
  m : ∀ (n : Nat) (a : Addr), w.m[n]? = some a → w'.m[n]? = some a
  keep : ∀ a o, w.H a = some o → (∀ ps, o ≠ .tbl ps) → ¬ w.Z a → w'.H a = some o
theorem Le.refl (w : Wo) : Le w w := ⟨rfl, fun _ _ _ _ h => h, fun _ _ h => h, fun _ _ h _ _ => h⟩
theorem Le.trans {w1 w2 w3 : Wo} (h : Le w1 w2) (g : Le w2 w3) : Le w1 w3 :=
  ⟨g.K.trans h.K, fun a o e n z => g.z a o (h.keep a o e n z) n (h.z a o e n z), fun n a e => g.m n a (h.m n a e), fun a o e n z => g.keep a o (h.keep a o e n z) n (h.z a o e n z)⟩
theorem Rd.le {w w' : Wo} {a : Addr} {u : HO} (l : Le w w') (hu : ∀ ps, u ≠ .tbl ps) (z : ¬ w.Z a) (h : Rd w.H a u) : ¬ w'.Z a ∧ Rd w'.H a u := by
  rcases h with h | ⟨o, h⟩
  · exact ⟨l.z _ _ h hu z, .inl (l.keep _ _ h hu z)⟩
  · exact ⟨l.z _ _ h (fun _ q => by cases q) z, .inr ⟨o, l.keep _ _ h (fun _ q => by cases q) z⟩⟩
theorem TrL.le {w w' : Wo} {a : Addr} {xs : List V} (l : Le w w') (h : TrL w a xs) : TrL w' a xs := by
  obtain ⟨z, h, n⟩ := h
  exact ⟨l.z _ _ h (fun _ q => by cases q) z, l.keep _ _ h (fun _ q => by cases q) z, n⟩
theorem TrT.le {w w' : Wo} {a : Addr} {xs : List V} (l : Le w w') (h : TrT w a xs) : TrT w' a xs := by
  obtain ⟨h, n⟩ := h
  obtain ⟨z, h⟩ := h
  exact ⟨⟨l.z _ _ h (fun _ q => by cases q) z, l.keep _ _ h (fun _ q => by cases q) z⟩, n⟩
theorem TrS.le {w w' : Wo} {a : Addr} {xs : List V} (l : Le w w') (h : TrS w a xs) : TrS w' a xs := by
  obtain ⟨h, n⟩ := h
  refine ⟨?_, n⟩
  rcases h with ⟨z, h⟩ | h
  · exact .inl (Rd.le l (fun _ q => by cases q) z h)
  · exact .inr (l.K ▸ h)
mutual
theorem Rep.le {w w' : Wo} (l : Le w w') : ∀ (d : D) {v : V}, Rep w d v → Rep w' d v
  | .non, _, h => by unfold Rep at h ⊢; exact h
  | .bl _, _, h => by unfold Rep at h ⊢; exact h
  | .int _, _, h => by unfold Rep at h ⊢; exact h
  | .str _, _, h => by unfold Rep at h ⊢; exact h
  | .ty _, _, h => by unfold Rep at h ⊢; exact h
  | .cls _, _, h => by unfold Rep at h ⊢; rw [l.K]; exact h
  | .tup ds, _, h => by unfold Rep at h ⊢; obtain ⟨a, vs, e, t, r⟩ := h; exact ⟨a, vs, e, t.le l, Reps.le l ds r⟩
  | .lst ds, _, h => by unfold Rep at h ⊢; obtain ⟨a, vs, e, t, r⟩ := h; exact ⟨a, vs, e, t.le l, Reps.le l ds r⟩
  | .obj c fs, _, h => by
    unfold Rep at h ⊢
    obtain ⟨a, dx, gs, e, z, t, r⟩ := h
    exact ⟨a, dx, gs, e, l.z _ _ t (fun _ q => by cases q) z, by rw [l.K]; exact l.keep _ _ t (fun _ q => by cases q) z, RepF.le l fs r⟩
  | .exc c fs, _, h => by
    unfold Rep at h ⊢
    obtain ⟨a, d, gs, e, z, t, z2, t2, r⟩ := h
    exact ⟨a, d, gs, e, l.z _ _ t (fun _ q => by cases q) z, by rw [l.K]; exact l.keep _ _ t (fun _ q => by cases q) z, l.z _ _ t2 (fun _ q => by cases q) z2, l.keep _ _ t2 (fun _ q => by cases q) z2, RepF.le l fs r⟩
  | .dk kvs, _, h => by
    unfold Rep at h ⊢
    obtain ⟨a, vs, e, z, t, r⟩ := h
    exact ⟨a, vs, e, l.z _ _ t (fun _ q => by cases q) z, l.keep _ _ t (fun _ q => by cases q) z, RepK.le l kvs r⟩
  | .dt kvs, _, h => by
    unfold Rep at h ⊢
    obtain ⟨a, vs, e, z, t, r⟩ := h
    exact ⟨a, vs, e, l.z _ _ t (fun _ q => by cases q) z, l.keep _ _ t (fun _ q => by cases q) z, RepT.le l kvs r⟩
  | .ref n, _, h => by unfold Rep at h ⊢; obtain ⟨a, e, t⟩ := h; exact ⟨a, e, l.m _ _ t⟩
  | .adr _, _, h => by unfold Rep at h ⊢; exact h
  | .fk kvs, _, h => by
    unfold Rep at h ⊢
    obtain ⟨a, o, vs, e, z, t, r⟩ := h
    exact ⟨a, o, vs, e, l.z _ _ t (fun _ q => by cases q) z, l.keep _ _ t (fun _ q => by cases q) z, RepK.le l kvs r⟩
  | .ft kvs, _, h => by
    unfold Rep at h ⊢
    obtain ⟨a, o, vs, e, z, t, r⟩ := h
    exact ⟨a, o, vs, e, l.z _ _ t (fun _ q => by cases q) z, l.keep _ _ t (fun _ q => by cases q) z, RepT.le l kvs r⟩
  | .scr ds, _, h => by
    unfold Rep at h ⊢
    obtain ⟨a, vs, e, t, r⟩ := h
    exact ⟨a, vs, e, t.le l, Reps.le l ds r⟩
  | .tpl ds, _, h => by
    unfold Rep at h ⊢
    obtain ⟨a, o, vs, e, z, t, g, r⟩ := h
    exact ⟨a, o, vs, e, l.z _ _ t (fun _ q => by cases q) z, l.keep _ _ t (fun _ q => by cases q) z, g, Reps.le l ds r⟩
theorem Reps.le {w w' : Wo} (l : Le w w') : ∀ (ds : List D) {vs : List V}, Reps w ds vs → Reps w' ds vs
  | [], _, h => by unfold Reps at h ⊢; exact h
  | d :: ds, _, h => by unfold Reps at h ⊢; obtain ⟨v, r, e, a, b⟩ := h; exact ⟨v, r, e, Rep.le l d a, Reps.le l ds b⟩
theorem RepF.le {w w' : Wo} (l : Le w w') : ∀ (ds : List (Str × D)) {vs : List (Str × V)}, RepF w ds vs → RepF w' ds vs
  | [], _, h => by unfold RepF at h ⊢; exact h
  | (f, d) :: ds, _, h => by unfold RepF at h ⊢; obtain ⟨v, r, e, a, b⟩ := h; exact ⟨v, r, e, Rep.le l d a, RepF.le l ds b⟩
theorem RepK.le {w w' : Wo} (l : Le w w') : ∀ (ds : List (Key × D)) {vs : List (Key × V)}, RepK w ds vs → RepK w' ds vs
  | [], _, h => by unfold RepK at h ⊢; exact h
  | (f, d) :: ds, _, h => by unfold RepK at h ⊢; obtain ⟨v, r, e, a, b⟩ := h; exact ⟨v, r, e, ⟨a.1, Rep.le l d a.2⟩, RepK.le l ds b⟩
theorem RepT.le {w w' : Wo} (l : Le w w') : ∀ (ds : List (List Key × D)) {vs : List (List Key × V)}, RepT w ds vs → RepT w' ds vs
  | [], _, h => by unfold RepT at h ⊢; exact h
  | (f, d) :: ds, _, h => by unfold RepT at h ⊢; obtain ⟨v, r, e, a, b⟩ := h; exact ⟨v, r, e, ⟨a.1, Rep.le l d a.2⟩, RepT.le l ds b⟩
end
end Sh
namespace Sh
open PySem PySem.Spec PyProof.Rows L2 Nk
variable [TabSet]
def zf (B : Addr → Prop) (m : List Addr) (ow : List (Option Addr)) : Addr → Prop := fun a => B a ∨ a ∈ m ∨ some a ∈ ow
abbrev wo (K : PySem.W.Frag) (B : Addr → Prop) (m : List Addr) (ow : List (Option Addr)) (H : Hp) : Wo := ⟨K, zf B m ow, m, H⟩
def CRep (w : Wo) (a : Addr) : Cell → Prop
  | .lst ds => ∃ vs, w.H a = some (.lst vs) ∧ vs.length ≤ sizeLine ∧ Reps w ds vs
  | .ins c fs => ∃ dx gs, w.H a = some (.ins (He.ga w.K c) dx gs) ∧ RepF w fs gs
  | .dk kvs => ∃ vs, w.H a = some (.dK vs) ∧ RepK w kvs vs
  | .dt kvs => ∃ vs, w.H a = some (.dT vs) ∧ RepT w kvs vs
  | .fk kvs => ∃ vs o, w.H a = some (.frz o (.dK vs)) ∧ RepK w kvs vs
  | .ft kvs => ∃ vs o, w.H a = some (.frz o (.dT vs)) ∧ RepT w kvs vs
theorem CRep.le {w w' : Wo} {a : Addr} (l : Le w w') (k : ∀ o, w.H a = some o → (∀ ps, o ≠ .tbl ps) → w'.H a = some o) : ∀ {c : Cell}, CRep w a c → CRep w' a c
  | .lst ds, ⟨vs, h, n, r⟩ => ⟨vs, k _ h (fun _ q => by cases q), n, Reps.le l ds r⟩
  | .ins c fs, ⟨dx, gs, h, r⟩ => ⟨dx, gs, by rw [l.K]; exact k _ h (fun _ q => by cases q), RepF.le l fs r⟩
  | .dk kvs, ⟨vs, h, r⟩ => ⟨vs, k _ h (fun _ q => by cases q), RepK.le l kvs r⟩
  | .dt kvs, ⟨vs, h, r⟩ => ⟨vs, k _ h (fun _ q => by cases q), RepT.le l kvs r⟩
  | .fk kvs, ⟨vs, o, h, r⟩ => ⟨vs, o, k _ h (fun _ q => by cases q), RepK.le l kvs r⟩
  | .ft kvs, ⟨vs, o, h, r⟩ => ⟨vs, o, k _ h (fun _ q => by cases q), RepT.le l kvs r⟩
theorem CRep.some {w : Wo} {a : Addr} : ∀ {c : Cell}, CRep w a c → ∃ o, w.H a = some o ∧ (∀ ps, o ≠ .tbl ps) ∧ ∀ φ, o ≠ .ext φ
  | .lst ds, ⟨vs, h, _, r⟩ => ⟨_, h, (fun _ q => by cases q), (fun _ q => by cases q)⟩
  | .ins c fs, ⟨dx, gs, h, r⟩ => ⟨_, h, (fun _ q => by cases q), (fun _ q => by cases q)⟩
  | .dk kvs, ⟨vs, h, r⟩ => ⟨_, h, (fun _ q => by cases q), (fun _ q => by cases q)⟩
  | .dt kvs, ⟨vs, h, r⟩ => ⟨_, h, (fun _ q => by cases q), (fun _ q => by cases q)⟩
  | .fk kvs, ⟨vs, o, h, r⟩ => ⟨_, h, (fun _ q => by cases q), (fun _ q => by cases q)⟩
  | .ft kvs, ⟨vs, o, h, r⟩ => ⟨_, h, (fun _ q => by cases q), (fun _ q => by cases q)⟩
theorem tabs_keep {T : List (Addr × Str)} {H H' : Hp} {a : Addr} (t : LamX.Tabs T H) (ha : ∃ o, H a = some o ∧ (∀ ps, o ≠ .tbl ps) ∧ ∀ φ, o ≠ .ext φ) (keep : ∀ x o, x ≠ a → H x = some o → H' x = some o) : LamX.Tabs T H' := fun p hp => by
  obtain ⟨o, ho, n1, n2⟩ := ha
  obtain ⟨ps, h1, h2, h3⟩ := t p hp
  refine ⟨ps, keep _ _ (fun z => by rw [z, ho] at h1; exact n1 ps (Option.some.inj h1)) h1, h2, fun pos cv hc => ?_⟩
  obtain ⟨c, e1, e2⟩ := h3 pos cv hc
  exact ⟨c, e1, keep _ _ (fun z => by rw [z, ho] at e2; exact n2 _ (Option.some.inj e2)) e2⟩
def Fr (H : Hp) (a : Addr) : Prop := ∀ o, H a = some o → ∃ ps, o = .tbl ps
theorem Fr.none {H : Hp} {a : Addr} (h : H a = Option.none) : Fr H a := fun o e => by rw [h] at e; cases e
theorem Fr.no {H : Hp} {a : Addr} {o : HO} (f : Fr H a) (e : H a = some o) (n : ∀ ps, o ≠ .tbl ps) : False := let ⟨ps, z⟩ := f o e; n ps z
theorem Fr.same {H H' : Hp} {a : Addr} (s : Same H H') (f : Fr H' a) : Fr H a := fun o e => f o (s a o e)
theorem Fr.ne {H : Hp} {a b : Addr} {o : HO} (f : Fr H b) (e : H a = some o) (n : ∀ ps, o ≠ .tbl ps) : a ≠ b := fun z => f.no (z ▸ e) n
theorem Fr.upd {H : Hp} {p x : Addr} {o : HO} (ho : ∀ ps, o ≠ .tbl ps) (f : Fr (L2.upd H p o) x) : Fr H x := fun u e => by
  by_cases z : x = p
  · subst z; exact absurd upd_same (fun z => f.no z ho)
  · exact f u (by rw [upd_ne z]; exact e)
theorem CRep.noT {w : Wo} {a : Addr} : ∀ {c : Cell}, CRep w a c → ∀ xs, w.H a ≠ Option.some (.tup xs)
  | .lst ds, ⟨vs, h, _, r⟩, _, z => by rw [h] at z; cases z
  | .ins c fs, ⟨dx, gs, h, r⟩, _, z => by rw [h] at z; cases z
  | .dk kvs, ⟨vs, h, r⟩, _, z => by rw [h] at z; cases z
  | .dt kvs, ⟨vs, h, r⟩, _, z => by rw [h] at z; cases z
  | .fk kvs, ⟨vs, o, h, r⟩, _, z => by rw [h] at z; cases z
  | .ft kvs, ⟨vs, o, h, r⟩, _, z => by rw [h] at z; cases z
structure Cells (K : PySem.W.Frag) (B : Addr → Prop) (m : List Addr) (ow : List (Option Addr)) (H : Hp) (S : Store) : Prop where
  hB : ∀ a, B a → ¬ Fr H a
  nd : m.Nodup
  no : ∀ a, a ∈ m → some a ∉ ow
  nB : ∀ a, a ∈ m ∨ some a ∈ ow → ¬ B a
  od : ∀ (i j : Nat) (a : Addr), ow[i]? = some (some a) → ow[j]? = some (some a) → i = j
  oh : ∀ a, some a ∈ ow → ¬ Fr H a
  len : m.length = S.length
  cs : ∀ (n : Nat) (a : Addr) (c : Cell), m[n]? = some a → S[n]? = some c → CRep (wo K B m ow H) a c
  tb : LamX.Tabs (TabSet.TS K) H
  nt : ∀ a, zf B m ow a → ∀ xs, H a ≠ some (.tup xs)
structure Fut (m : List Addr) (H : Hp) (m' : List Addr) (H' : Hp) : Prop where
  pre : ∃ r, m' = m ++ r ∧ ∀ a ∈ r, Fr H a
  keep : ∀ a o, H a = some o → (∀ ps, o ≠ .tbl ps) → a ∉ m → H' a = some o
  dom : ∀ a, Fr H' a → Fr H a
theorem Fut.refl (m : List Addr) (H : Hp) : Fut m H m H := ⟨⟨[], by simp, by simp⟩, fun _ _ h _ _ => h, fun _ h => h⟩
theorem Fut.trans {m1 m2 m3 : List Addr} {H1 H2 H3 : Hp} (h : Fut m1 H1 m2 H2) (g : Fut m2 H2 m3 H3) : Fut m1 H1 m3 H3 := by
  obtain ⟨⟨r, rfl, hr⟩, k, d⟩ := h
  obtain ⟨⟨r', rfl, hr'⟩, k', d'⟩ := g
  refine ⟨⟨r ++ r', by simp, fun a ha => ?_⟩, fun a o e n hn => ?_, fun a e => d a (d' a e)⟩
  · rcases List.mem_append.mp ha with ha | ha
    · exact hr a ha
    · exact d a (hr' a ha)
  · refine k' a o (k a o e n hn) n fun hm => ?_
    rcases List.mem_append.mp hm with hm | hm
    · exact hn hm
    · exact (hr a hm).no e n
theorem Fut.same {m : List Addr} {H H' : Hp} (s : Same H H') : Fut m H m H' := ⟨⟨[], by simp, by simp⟩, fun a o h _ _ => s a o h, fun a h => h.same s⟩
theorem Fut.le {K : PySem.W.Frag} {B : Addr → Prop} {m m' : List Addr} {ow : List (Option Addr)} {H H' : Hp} (f : Fut m H m' H') : Le (wo K B m ow H) (wo K B m' ow H') := by
  obtain ⟨⟨r, rfl, hr⟩, k, d⟩ := f
  refine ⟨rfl, fun a o e n z => ?_, fun n a e => ?_, fun a o e n z => k a o e n fun hm => z (.inr (.inl hm))⟩
  · rintro (q | q | q)
    · exact z (.inl q)
    · rcases List.mem_append.mp q with q | q
      · exact z (.inr (.inl q))
      · exact (hr a q).no e n
    · exact z (.inr (.inr q))
  · show (m ++ r)[n]? = some a
    have h : m[n]? = some a := e
    rw [List.getElem?_append_left (List.getElem?_eq_some_iff.mp h).1]
    exact h
theorem Cells.ntK {K : PySem.W.Frag} {B : Addr → Prop} {m : List Addr} {ow : List (Option Addr)} {H H' : Hp} {S : Store} (c : Cells K B m ow H S) (k : ∀ a o, H a = some o → (∀ ps, o ≠ .tbl ps) → zf B m ow a → H' a = some o) : ∀ a, zf B m ow a → ∀ xs, H' a ≠ some (.tup xs) := fun a z xs e => by
  have hf : ¬ Fr H a := by
    rcases z with z | z | z
    · exact c.hB a z
    · obtain ⟨n, hn⟩ := List.mem_iff_getElem?.mp z
      have hl : n < S.length := by rw [← c.len]; exact (List.getElem?_eq_some_iff.mp hn).1
      obtain ⟨o, h1, h2, _⟩ := (c.cs n a _ hn (List.getElem?_eq_getElem hl)).some
      exact fun f => f.no h1 h2
    · exact c.oh a z
  refine hf fun o ho => Classical.byContradiction fun nn => ?_
  have h2 := k a o ho (fun ps q => nn ⟨ps, q⟩) z
  rw [h2] at e
  cases e
  exact c.nt a z xs ho
theorem Cells.ntK1 {K : PySem.W.Frag} {B : Addr → Prop} {m : List Addr} {ow : List (Option Addr)} {H H' : Hp} {S : Store} {p : Addr} (c : Cells K B m ow H S) (k : ∀ a o, a ≠ p → H a = some o → H' a = some o) : ∀ a, zf B m ow a → a ≠ p → ∀ xs, H' a ≠ some (.tup xs) := fun a z n xs e => by
  have hf : ¬ Fr H a := by
    rcases z with z | z | z
    · exact c.hB a z
    · obtain ⟨n, hn⟩ := List.mem_iff_getElem?.mp z
      have hl : n < S.length := by rw [← c.len]; exact (List.getElem?_eq_some_iff.mp hn).1
      obtain ⟨o, h1, h2, _⟩ := (c.cs n a _ hn (List.getElem?_eq_getElem hl)).some
      exact fun f => f.no h1 h2
    · exact c.oh a z
  refine hf fun o ho => Classical.byContradiction fun nn => ?_
  have h2 := k a o n ho
  rw [h2] at e
  cases e
  exact c.nt a z xs ho
theorem Cells.same {K : PySem.W.Frag} {B : Addr → Prop} {m : List Addr} {ow : List (Option Addr)} {H H' : Hp} {S : Store} (c : Cells K B m ow H S) (s : Same H H') : Cells K B m ow H' S :=
  ⟨fun a b h => c.hB a b (h.same s), c.nd, c.no, c.nB, c.od, fun a b h => c.oh a b (h.same s), c.len, fun n a x h1 h2 => (c.cs n a x h1 h2).le (Fut.same s).le fun o e _ => s _ _ e, c.tb.ext s, c.ntK fun a o e _ _ => s _ _ e⟩
def SlR (w : Wo) (σ : L2.St) (ow : List (Option Addr)) (i : Nat) : Sl → Prop
  | .no => True
  | .val d => ∃ v, σ[i]? = some (some v) ∧ Rep w d v
  | .own c => ∃ a, σ[i]? = some (some (.ref a)) ∧ ow[i]? = some (some a) ∧ CRep w a c
structure Bs where
  B : Addr → Prop
  m0 : List Addr
  H0 : Hp
  /-- the object that an __init__ makes -/
  sf : Option Addr := none
class BasePred where
  Φ : Bs → Prop
  grow : ∀ b p, Fr b.H0 p → Φ b → Φ ⟨fun x => b.B x ∨ x = p, b.m0, b.H0, b.sf⟩
structure At [BasePred] (K : PySem.W.Frag) (b : Bs) (m : List Addr) (ow : List (Option Addr)) (H : Hp) (σ : L2.St) (e : En) (S : Store) : Prop where
  cells : Cells K b.B m ow H S
  len : σ.length = e.length ∧ ow.length = e.length
  slots : ∀ (i : Nat) (s : Sl), e[i]? = some s → SlR (wo K b.B m ow H) σ ow i s
  fut : Fut b.m0 b.H0 m H
  new : ∀ a, some a ∈ ow → Fr b.H0 a
  oe : ∀ (i : Nat) (a : Addr), ow[i]? = some (some a) → ∃ c, e[i]? = some (Sl.own c)
  sf : ∀ a, b.sf = some a → σ[0]? = some (some (.ref a)) ∧ ow[0]? = some (some a) ∧ ∃ c fs, e[0]? = some (Sl.own (.ins c fs))
  ph : BasePred.Φ b
variable [BasePred]
section
variable {K : PySem.W.Frag} {b : Bs} {m m' : List Addr} {ow : List (Option Addr)} {H H' : Hp} {σ : L2.St} {e : En} {S S' : Store}
theorem At.go (t : At K b m ow H σ e S) (f : Fut m H m' H') (c : Cells K b.B m' ow H' S') : At K b m' ow H' σ e S' := by
  refine ⟨c, t.len, fun i s hs => ?_, t.fut.trans f, t.new, t.oe, t.sf, t.ph⟩
  have h := t.slots i s hs
  cases s with
  | no => exact True.intro
  | val d => obtain ⟨v, h1, h2⟩ := h; exact ⟨v, h1, Rep.le f.le d h2⟩
  | own x =>
    obtain ⟨a, h1, h2, h3⟩ := h
    refine ⟨a, h1, h2, h3.le f.le fun o e n => f.keep a o e n fun hm => t.cells.no a hm (List.mem_of_getElem? h2)⟩
theorem At.same (t : At K b m ow H σ e S) (s : Same H H') : At K b m ow H' σ e S := t.go (Fut.same s) (t.cells.same s)
end
def ExR (w : Wo) (x : Exn) (c : Value) (d : Option Addr) : Prop := c = .ref (He.ga w.K x.c) ∧ ∃ a gs, d = some a ∧ ¬ w.Z a ∧ w.H a = some (.xd gs) ∧ RepF w x.fs gs
theorem ExR.le {w w' : Wo} {x : Exn} {c : Value} {d : Option Addr} (l : Le w w') (h : ExR w x c d) : ExR w' x c d := by
  obtain ⟨e, a, gs, ed, z, h, r⟩ := h
  exact ⟨by rw [l.K]; exact e, a, gs, ed, l.z _ _ h (fun _ q => by cases q) z, l.keep _ _ h (fun _ q => by cases q) z, RepF.le l _ r⟩
section
variable (K : PySem.W.Frag) (B : Addr → Prop) (ow : List (Option Addr))
def Post {α β : Type} (m : List Addr) (H : Hp) (RP : Wo → β → α → Prop) (W : Value → Option Addr → Hp → Prop) (Q : α → Hp → Prop) : R β → Prop
  | .ok y S' => ∀ a m' H', Fut m H m' H' → Cells K B m' ow H' S' → RP (wo K B m' ow H') y a → Q a H'
  | .er x S' => ∀ c d m' H', Fut m H m' H' → Cells K B m' ow H' S' → ExR (wo K B m' ow H') x c d → W c d H'
  | .no => False
end
section
variable {K : PySem.W.Frag} {B : Addr → Prop} {ow : List (Option Addr)} {m m' : List Addr} {H H' : Hp} {α β γ δ : Type} {RP : Wo → β → α → Prop} {RP2 : Wo → δ → γ → Prop} {W : Value → Option Addr → Hp → Prop} {Q : α → Hp → Prop} {Q2 : γ → Hp → Prop}
theorem Post.go {r : R β} (h : Post K B ow m H RP W Q r) (f : Fut m H m' H') : Post K B ow m' H' RP W Q r := by
  cases r with
  | ok y S' => exact fun a m2 H2 f2 => h a m2 H2 (f.trans f2)
  | er x S' => exact fun c d m2 H2 f2 => h c d m2 H2 (f.trans f2)
  | no => exact h
theorem Post.bind {r : R β} {k : β → Store → R δ} (h : Post K B ow m H RP2 W Q2 (r.bind k)) (g : ∀ y S' a m' H', Fut m H m' H' → Cells K B m' ow H' S' → RP (wo K B m' ow H') y a → Post K B ow m' H' RP2 W Q2 (k y S') → Q a H') : Post K B ow m H RP W Q r := by
  cases r with
  | ok y S' => exact fun a m2 H2 f2 c2 r2 => g y S' a m2 H2 f2 c2 r2 (Post.go h f2)
  | er x S' => exact h
  | no => exact h
theorem Post.imp {r : R β} {Q' : α → Hp → Prop} (h : Post K B ow m H RP W Q r) (g : ∀ a H', Q a H' → Q' a H') : Post K B ow m H RP W Q' r := by
  cases r with
  | ok y S' => exact fun a m2 H2 f2 c2 r2 => g a H2 (h a m2 H2 f2 c2 r2)
  | er x S' => exact h
  | no => exact h
end
abbrev Sx (α : Type) := En → Store → R α
def RB : Wo → Bool → Bool → Prop := fun _ x y => y = x
section
variable (K : PySem.W.Frag) (X : Cx) (W : WX)
structure Ev (ex : Expr) (f : Sx D) : Prop where
  run : ∃ te, PE X ex te ∧ ∀ b m ow H σ e S Q, At K b m ow H σ e S → Post K b.B ow m H Rep (fun c d => W c d σ) Q (f e S) → te σ H Q
structure Et (ex : Expr) (f : Sx Bool) : Prop where
  run : ∃ tt, PT X ex tt ∧ ∀ b m ow H σ e S Q, At K b m ow H σ e S → Post K b.B ow m H RB (fun c d => W c d σ) Q (f e S) → tt σ H Q
structure Ew (ex : Expr) (f : Sx Bool) : Prop where
  run : ∃ tt, PW X ex tt ∧ ∀ b m ow H σ e S Q, At K b m ow H σ e S → Post K b.B ow m H RB (fun c d => W c d σ) Q (f e S) → tt σ H Q
structure Ea (es : List Expr) (f : Sx (List D)) : Prop where
  run : ∃ ta, PA X es ta ∧ ∀ b m ow H σ e S Q, At K b m ow H σ e S → Post K b.B ow m H Reps (fun c d => W c d σ) Q (f e S) → ta σ H Q
end
abbrev Sy := En → Store → RS
def Ends1 (K : PySem.W.Frag) (b : Bs) (w : Wo) (N : L2.St → Hp → Prop) (e' : En) (S' : Store) : Prop := ∀ σ' m' ow' H', At K b m' ow' H' σ' e' S' → Le w (wo K b.B m' ow' H') → N σ' H'
def PostS (K : PySem.W.Frag) (b : Bs) (w : Wo) (W : WX) (D : Ends) : RS → Prop
  | .nx e' S' => Ends1 K b w D.nx e' S'
  | .bk e' S' => Ends1 K b w D.bk e' S'
  | .ct e' S' => Ends1 K b w D.ct e' S'
  | .rt d S' => ∀ v m' ow' H', Cells K b.B m' ow' H' S' → Fut b.m0 b.H0 m' H' → (∀ a, some a ∈ ow' → Fr b.H0 a) → Rep (wo K b.B m' ow' H') d v → D.rt v H'
  | .er x e' S' => ∀ c d σ' m' ow' H', At K b m' ow' H' σ' e' S' → Le w (wo K b.B m' ow' H') → ExR (wo K b.B m' ow' H') x c d → W c d σ' H'
  | .no => False
section
variable (K : PySem.W.Frag) (X : Cx) (W : WX)
structure Es (st : Stmt) (f : Sy) : Prop where
  run : ∃ ts, PS X st ts ∧ ∀ b m ow H σ e S D, At K b m ow H σ e S → PostS K b (wo K b.B m ow H) W D (f e S) → ts D σ H
structure Ess (st : List Stmt) (f : Sy) : Prop where
  run : ∃ ts, PSs X st ts ∧ ∀ b m ow H σ e S D, At K b m ow H σ e S → PostS K b (wo K b.B m ow H) W D (f e S) → ts D σ H
end
section
variable {K : PySem.W.Frag} {b : Bs} {w w' : Wo} {W : WX} {D D' : Ends}
theorem Ends1.le {N : L2.St → Hp → Prop} {e : En} {S : Store} (h : Ends1 K b w N e S) (l : Le w w') : Ends1 K b w' N e S := fun σ' m' ow' H' t l' => h σ' m' ow' H' t (l.trans l')
theorem PostS.le {r : RS} (h : PostS K b w W D r) (l : Le w w') : PostS K b w' W D r := by
  cases r with
  | nx e' S' => exact Ends1.le h l
  | bk e' S' => exact Ends1.le h l
  | ct e' S' => exact Ends1.le h l
  | rt d S' => exact h
  | er x e' S' => exact fun c d σ' m' ow' H' t l' => h c d σ' m' ow' H' t (l.trans l')
  | no => exact h
end
def RS.seq (r : RS) (k : En → Store → RS) : RS := match r with
  | .nx e S => k e S
  | r => r
@[simp] theorem seq_nx {e : En} {S : Store} {k : En → Store → RS} : (RS.nx e S).seq k = k e S := rfl
@[simp] theorem seq_rt {d : D} {S : Store} {k : En → Store → RS} : (RS.rt d S).seq k = .rt d S := rfl
@[simp] theorem seq_bk {e : En} {S : Store} {k : En → Store → RS} : (RS.bk e S).seq k = .bk e S := rfl
@[simp] theorem seq_ct {e : En} {S : Store} {k : En → Store → RS} : (RS.ct e S).seq k = .ct e S := rfl
@[simp] theorem seq_er {x : Exn} {e : En} {S : Store} {k : En → Store → RS} : (RS.er x e S).seq k = .er x e S := rfl
@[simp] theorem seq_no {k : En → Store → RS} : RS.no.seq k = .no := rfl
@[simp] theorem ite_seq {c : Prop} [Decidable c] {r s : RS} {k : En → Store → RS} : (if c then r else s).seq k = if c then r.seq k else s.seq k := by split <;> rfl
def R.run {α : Type} (r : R α) (e : En) (k : α → Store → RS) : RS := match r with
  | .ok a S => k a S
  | .er x S => .er x e S
  | .no => .no
@[simp] theorem run_ok {α : Type} {a : α} {S : Store} {e : En} {k : α → Store → RS} : (R.ok a S).run e k = k a S := rfl
@[simp] theorem run_er {α : Type} {x : Exn} {S : Store} {e : En} {k : α → Store → RS} : (R.er x S : R α).run e k = .er x e S := rfl
@[simp] theorem run_no {α : Type} {e : En} {k : α → Store → RS} : (R.no : R α).run e k = .no := rfl
@[simp] theorem ite_run {α : Type} {c : Prop} [Decidable c] {r s : R α} {e : En} {k : α → Store → RS} : (if c then r else s).run e k = if c then r.run e k else s.run e k := by split <;> rfl
@[simp] theorem bind_run {α β : Type} {r : R α} {g : α → Store → R β} {e : En} {k : β → Store → RS} : (r.bind g).run e k = r.run e fun a S => (g a S).run e k := by cases r <;> rfl
@[simp] theorem run_seq {α : Type} {r : R α} {e : En} {k : α → Store → RS} {g : En → Store → RS} : (r.run e k).seq g = r.run e fun a S => (k a S).seq g := by cases r <;> rfl
@[simp] theorem bind_bind {α β γ : Type} {r : R α} {g : α → Store → R β} {k : β → Store → R γ} : (r.bind g).bind k = r.bind fun a S => (g a S).bind k := by cases r <;> rfl
@[simp] theorem seq_seq {r : RS} {g k : En → Store → RS} : (r.seq g).seq k = r.seq fun e S => (g e S).seq k := by cases r <;> rfl
theorem PostS.run {K : PySem.W.Frag} {b : Bs} {W : WX} {D : Ends} {m : List Addr} {ow : List (Option Addr)} {H : Hp} {σ : L2.St} {e : En} {S : Store} {α β : Type} {RP : Wo → β → α → Prop} {r : R β} {k : β → Store → RS} {Q : α → Hp → Prop}
    (t : At K b m ow H σ e S) (h : PostS K b (wo K b.B m ow H) W D (r.run e k))
    (g : ∀ y S' a m' H', At K b m' ow H' σ e S' → Fut m H m' H' → RP (wo K b.B m' ow H') y a → PostS K b (wo K b.B m' ow H') W D (k y S') → Q a H') : Post K b.B ow m H RP (fun c d => W c d σ) Q r := by
  cases r with
  | ok y S' => exact fun a m' H' f c r => g y S' a m' H' (t.go f c) f r (PostS.le h f.le)
  | er x S' => exact fun c d m' H' f cl r => h c d σ m' ow H' (t.go f cl) f.le r
  | no => exact h
end Sh
namespace Sh
open PySem PySem.Spec PyProof.Rows L2 Nk
variable [TabSet]
section
variable {w w' : Wo}
theorem reps_len : ∀ {ds : List D} {vs : List V}, Reps w ds vs → vs.length = ds.length
  | [], _, h => by unfold Reps at h; rw [h]; rfl
  | d :: ds, _, h => by unfold Reps at h; obtain ⟨v, r, rfl, _, h⟩ := h; simp [reps_len h]
theorem reps_get : ∀ {ds : List D} {vs : List V} {i : Nat} {d : D}, Reps w ds vs → ds[i]? = some d → ∃ v, vs[i]? = some v ∧ Rep w d v
  | [], _, _, _, _, e => by simp at e
  | x :: ds, _, 0, d, h, e => by unfold Reps at h; obtain ⟨v, r, rfl, a, h⟩ := h; simp at e; subst e; exact ⟨v, rfl, a⟩
  | x :: ds, _, i + 1, d, h, e => by unfold Reps at h; obtain ⟨v, r, rfl, a, h⟩ := h; simpa using reps_get h (by simpa using e)
theorem reps_nil : Reps w [] [] := by unfold Reps; rfl
theorem reps_cons {d : D} {v : V} {ds : List D} {vs : List V} (a : Rep w d v) (b : Reps w ds vs) : Reps w (d :: ds) (v :: vs) := by unfold Reps; exact ⟨v, vs, rfl, a, b⟩
theorem reps_app : ∀ {ds : List D} {vs : List V} {es : List D} {us : List V}, Reps w ds vs → Reps w es us → Reps w (ds ++ es) (vs ++ us)
  | [], _, _, _, h, g => by unfold Reps at h; rw [h]; exact g
  | d :: ds, _, _, _, h, g => by unfold Reps at h; obtain ⟨v, r, rfl, a, h⟩ := h; exact reps_cons a (reps_app h g)
theorem reps_take : ∀ {ds : List D} {vs : List V} (n : Nat), Reps w ds vs → Reps w (ds.take n) (vs.take n)
  | [], _, n, h => by unfold Reps at h; rw [h]; simp; exact reps_nil
  | d :: ds, _, 0, h => by simp; exact reps_nil
  | d :: ds, _, n + 1, h => by unfold Reps at h; obtain ⟨v, r, rfl, a, h⟩ := h; exact reps_cons a (reps_take n h)
theorem reps_drop : ∀ {ds : List D} {vs : List V} (n : Nat), Reps w ds vs → Reps w (ds.drop n) (vs.drop n)
  | [], _, n, h => by unfold Reps at h; rw [h]; simp; exact reps_nil
  | d :: ds, _, 0, h => h
  | d :: ds, _, n + 1, h => by unfold Reps at h; obtain ⟨v, r, rfl, a, h⟩ := h; exact reps_drop n h
theorem reps_flat {ds : List D} {vs : List V} (h : Reps w ds vs) : ∀ n, Reps w (List.replicate n ds).flatten (List.replicate n vs).flatten
  | 0 => reps_nil
  | n + 1 => by simpa [List.replicate_succ] using reps_app h (reps_flat h n)
theorem reps_set {d : D} {v : V} (a : Rep w d v) : ∀ {ds : List D} {vs : List V} (i : Nat), Reps w ds vs → Reps w (ds.set i d) (vs.set i v)
  | [], _, i, h => by unfold Reps at h; rw [h]; exact reps_nil
  | x :: ds, _, 0, h => by unfold Reps at h; obtain ⟨u, r, rfl, _, h⟩ := h; exact reps_cons a h
  | x :: ds, _, i + 1, h => by unfold Reps at h; obtain ⟨u, r, rfl, b, h⟩ := h; exact reps_cons b (reps_set a i h)
theorem reps_ints : ∀ (ns : List Int), Reps w (ns.map D.int) (ns.map V.int)
  | [] => reps_nil
  | n :: r => reps_cons (by unfold Rep; rfl) (reps_ints r)
theorem repF_get : ∀ {fs : List (Str × D)} {gs : List (Str × V)} {f : Str} {d : D}, RepF w fs gs → fs.lookup f = some d → ∃ v, gs.lookup f = some v ∧ Rep w d v
  | [], _, _, _, _, e => by simp at e
  | (g, x) :: fs, _, f, d, h, e => by
    unfold RepF at h
    obtain ⟨v, r, rfl, a, h⟩ := h
    simp only [List.lookup_cons] at e ⊢
    cases q : f == g with
    | true => rw [q] at e; exact ⟨v, rfl, by cases e; exact a⟩
    | false => rw [q] at e; exact repF_get h e
theorem repF_none : ∀ {fs : List (Str × D)} {gs : List (Str × V)} {f : Str}, RepF w fs gs → fs.lookup f = none → gs.lookup f = none
  | [], _, _, h, e => by unfold RepF at h; rw [h]; rfl
  | (g, x) :: fs, _, f, h, e => by
    unfold RepF at h
    obtain ⟨v, r, rfl, a, h⟩ := h
    simp only [List.lookup_cons] at e ⊢
    cases q : f == g with
    | true => rw [q] at e; cases e
    | false => rw [q] at e; exact repF_none h e
theorem repF_len : ∀ {fs : List (Str × D)} {gs : List (Str × V)}, RepF w fs gs → gs.length = fs.length
  | [], _, h => by unfold RepF at h; rw [h]; rfl
  | (g, x) :: fs, _, h => by unfold RepF at h; obtain ⟨v, r, rfl, _, h⟩ := h; simp [repF_len h]
end
abbrev Wo.at (w : Wo) (H : Hp) : Wo := { w with H := H }
theorem Le.same {w : Wo} {H' : Hp} (s : Same w.H H') : Le w (w.at H') := ⟨rfl, fun _ _ _ _ h => h, fun _ _ h => h, fun a o h _ _ => s a o h⟩
def Fr2 (H : Hp) (a : Addr) : Prop := ∀ o, H a = some o → (∃ ps, o = .tbl ps) ∨ ∃ xs, o = .tup xs
theorem Fr2.none {H : Hp} {a : Addr} (h : H a = Option.none) : Fr2 H a := fun o e => by rw [h] at e; cases e
theorem Fr2.tup {H : Hp} {a : Addr} {xs : List V} (h : H a = some (.tup xs)) : Fr2 H a := fun o e => by rw [h] at e; cases e; exact .inr ⟨_, rfl⟩
theorem Fr.two {H : Hp} {a : Addr} (f : Fr H a) : Fr2 H a := fun o e => .inl (f o e)
def Wo.Full (w : Wo) : Prop := ∀ a, w.Z a → ¬ Fr2 w.H a
theorem Cells.full {K : PySem.W.Frag} {B : Addr → Prop} {m : List Addr} {ow : List (Option Addr)} {H : Hp} {S : Store} (c : Cells K B m ow H S) : (wo K B m ow H).Full := by
  intro a h f
  have hf : ¬ Fr H a := by
    rcases h with h | h | h
    · exact c.hB a h
    · obtain ⟨n, hn⟩ := List.mem_iff_getElem?.mp h
      have hl := (List.getElem?_eq_some_iff.mp hn).1
      obtain ⟨o, e, n1, _⟩ := (c.cs n a (S[n]'(by rw [← c.len]; exact hl)) hn (List.getElem?_eq_getElem _)).some
      exact fun z => z.no e n1
    · exact c.oh a h
  exact hf fun o e => (f o e).elim id fun ⟨xs, q⟩ => (c.nt a h xs (q ▸ e)).elim
theorem Cells.fullF {K : PySem.W.Frag} {B : Addr → Prop} {m : List Addr} {ow : List (Option Addr)} {H : Hp} {S : Store} (c : Cells K B m ow H S) (a : Addr) (h : zf B m ow a) : ¬ Fr H a := fun z => c.full a h z.two
theorem rep_tup {w : Wo} (f : w.Full) {p : Addr} {vs : List V} {ds : List D} (hp : w.H p = none) (hl : vs.length ≤ sizeLine) (r : Reps w ds vs) : Rep (w.at (upd w.H p (.tup vs))) (.tup ds) (.ref p) := by
  have s : Same w.H (upd w.H p (.tup vs)) := same_mut (Same.refl _) hp
  unfold Rep
  exact ⟨p, vs, rfl, ⟨⟨fun z => f p z (.none hp), upd_same⟩, hl⟩, Reps.le (Le.same s) ds r⟩
theorem rep_lst {w : Wo} (f : w.Full) {p : Addr} {vs : List V} {ds : List D} (hp : w.H p = none) (hl : vs.length ≤ sizeLine) (r : Reps w ds vs) : Rep (w.at (upd w.H p (.lst vs))) (.lst ds) (.ref p) := by
  have s : Same w.H (upd w.H p (.lst vs)) := same_mut (Same.refl _) hp
  unfold Rep
  exact ⟨p, vs, rfl, ⟨fun z => f p z (.none hp), upd_same, hl⟩, Reps.le (Le.same s) ds r⟩
def Pz (w : Wo) (Q : VK) : Option D → Prop
  | some d => ∀ v H', Same w.H H' → Rep (w.at H') d v → Q v H'
  | none => False
theorem Pz.ite {w : Wo} {Q : VK} {d : D} {c : Prop} [Decidable c] (h : Pz w Q (if c then some d else none)) : c ∧ Pz w Q (some d) := by
  split at h
  · exact ⟨by assumption, h⟩
  · exact h.elim
theorem Pz.here {w : Wo} {Q : VK} {d : D} {v : V} (h : Pz w Q (some d)) (r : Rep w d v) : Q v w.H := h v w.H (Same.refl _) r
structure OpS (K : PySem.W.Frag) (X : Cx) (f : Value → Value → Sem Value) (o : D → D → Option D) : Prop where
  run : ∃ r, OpR X f r ∧ ∀ (w : Wo), w.K = K → w.Full → ∀ x y dx dy Q, Rep w dx x → Rep w dy y → Pz w Q (o dx dy) → r x y w.H Q
structure IxS (K : PySem.W.Frag) (X : Cx) (o : D → D → Option D) : Prop where
  run : ∃ r, IxR X r ∧ ∀ (w : Wo), w.K = K → w.Full → ∀ x y dx dy Q, Rep w dx x → Rep w dy y → Pz w Q (o dx dy) → r x y w.H Q
structure CallS (K : PySem.W.Frag) (X : Cx) (f : Value) (o : List D → Option D) : Prop where
  run : ∃ r, CallR X f r ∧ ∀ (w : Wo), w.K = K → w.Full → ∀ xs ds Q, Reps w ds xs → Pz w Q (o ds) → r xs w.H Q
def alt2 (o p : D → D → Option D) (x : D) (y : D) : Option D := match o x y with
  | some d => some d
  | none => p x y
def alt1 {α : Type} (o p : α → Option D) (x : α) : Option D := match o x with
  | some d => some d
  | none => p x
section
variable {K : PySem.W.Frag} {X : Cx}
theorem OpS.or {f : Value → Value → Sem Value} {o p : D → D → Option D} (h : OpS K X f o) (g : OpS K X f p) : OpS K X f (alt2 o p) := by
  obtain ⟨r1, a1, b1⟩ := h.run
  obtain ⟨r2, a2, b2⟩ := g.run
  refine ⟨_, op_alt a1 a2, fun w hw hf x y dx dy Q rx ry q => ?_⟩
  unfold alt2 at q
  cases e : o dx dy with
  | some d => rw [e] at q; exact .inl (b1 w hw hf x y dx dy Q rx ry (by rw [e]; exact q))
  | none => rw [e] at q; exact .inr (b2 w hw hf x y dx dy Q rx ry q)
theorem IxS.or {o p : D → D → Option D} (h : IxS K X o) (g : IxS K X p) : IxS K X (alt2 o p) := by
  obtain ⟨r1, a1, b1⟩ := h.run
  obtain ⟨r2, a2, b2⟩ := g.run
  refine ⟨_, a1.or a2, fun w hw hf x y dx dy Q rx ry q => ?_⟩
  unfold alt2 at q
  cases e : o dx dy with
  | some d => rw [e] at q; exact .inl (b1 w hw hf x y dx dy Q rx ry (by rw [e]; exact q))
  | none => rw [e] at q; exact .inr (b2 w hw hf x y dx dy Q rx ry q)
theorem CallS.or {f : Value} {o p : List D → Option D} (h : CallS K X f o) (g : CallS K X f p) : CallS K X f (alt1 o p) := by
  obtain ⟨r1, a1, b1⟩ := h.run
  obtain ⟨r2, a2, b2⟩ := g.run
  refine ⟨fun xs H Q => r1 xs H Q ∨ r2 xs H Q, fun pins s σ H xs us Q I r h => h.elim (a1 pins s σ H xs us Q I r) (a2 pins s σ H xs us Q I r), fun w hw hf xs ds Q rx q => ?_⟩
  unfold alt1 at q
  cases e : o ds with
  | some d => rw [e] at q; exact .inl (b1 w hw hf xs ds Q rx (by rw [e]; exact q))
  | none => rw [e] at q; exact .inr (b2 w hw hf xs ds Q rx q)
theorem OpS.weak {f : Value → Value → Sem Value} {o p : D → D → Option D} (h : OpS K X f o) (g : ∀ x y d, p x y = some d → o x y = some d) : OpS K X f p := by
  obtain ⟨r1, a1, b1⟩ := h.run
  refine ⟨r1, a1, fun w hw hf x y dx dy Q rx ry q => ?_⟩
  cases e : p dx dy with
  | some d => exact b1 w hw hf x y dx dy Q rx ry (by rw [g _ _ _ e]; rw [e] at q; exact q)
  | none => rw [e] at q; exact q.elim
end
def oI (C : Int → Int → Prop) [∀ i j, Decidable (C i j)] (g : Int → Int → D) : D → D → Option D
  | .int i, .int j => if C i j then some (g i j) else none
  | _, _ => none
def oI0 (g : Int → Int → D) : D → D → Option D
  | .int i, .int j => some (g i j)
  | _, _ => none
section
variable {K : PySem.W.Frag} {X : Cx} {f : Value → Value → Sem Value}
theorem ops_I0 {g : Int → Int → V} {g' : Int → Int → D} (h : OpR X f (rI0 g)) (hg : ∀ w i j, Rep w (g' i j) (g i j)) : OpS K X f (oI0 g') := by
  refine ⟨_, h, fun w hw hf x y dx dy Q rx ry q => ?_⟩
  cases dx <;> cases dy <;> try exact (q : False).elim
  unfold Rep at rx ry
  subst rx ry
  exact ⟨_, _, rfl, rfl, q.here (hg w _ _)⟩
theorem ops_I {C : Int → Int → Prop} [∀ i j, Decidable (C i j)] {g : Int → Int → V} {g' : Int → Int → D} (h : OpR X f (rI C g)) (hg : ∀ w i j, Rep w (g' i j) (g i j)) : OpS K X f (oI C g') := by
  refine ⟨_, h, fun w hw hf x y dx dy Q rx ry q => ?_⟩
  cases dx <;> cases dy <;> try exact (q : False).elim
  unfold Rep at rx ry
  subst rx ry
  obtain ⟨c, q⟩ := Pz.ite q
  exact ⟨_, _, rfl, rfl, c, q.here (hg w _ _)⟩
theorem rep_int {w : Wo} {i : Int} : Rep w (.int i) (.int i) := by unfold Rep; rfl
theorem rep_bl {w : Wo} {i : Bool} : Rep w (.bl i) (.bl i) := by unfold Rep; rfl
theorem rep_non {w : Wo} : Rep w .non .non := by unfold Rep; rfl
theorem rep_str {w : Wo} {x : Str} (h : x.length ≤ sizeLine) : Rep w (.str x) (.str x) := by unfold Rep; exact ⟨rfl, h⟩
end
instance {i j : Int} : Decidable (CMul i j) := inferInstanceAs (Decidable (_ ∨ _))
instance {i j : Int} : Decidable (CMulW i j) := inferInstanceAs (Decidable (_ < _))
instance {i j : Int} : Decidable (CDivW i j) := inferInstanceAs (Decidable (_ ∧ _))
instance {i j : Int} : Decidable (CPow i j) := inferInstanceAs (Decidable (_ ∧ _ ∧ _))
def oStr (C : Str → Str → Prop) [∀ i j, Decidable (C i j)] (g : Str → Str → D) : D → D → Option D
  | .str x, .str y => if C x y then some (g x y) else none
  | _, _ => none
def oCatL : D → D → Option D
  | .lst x, .lst y => if x.length + y.length ≤ sizeLine then some (.lst (x ++ y)) else none
  | _, _ => none
def oCatT : D → D → Option D
  | .tup x, .tup y => if x.length + y.length ≤ sizeLine then some (.tup (x ++ y)) else none
  | _, _ => none
def okK (n : Int) : Bool := match n with
  | .ofNat k => Nat.ble k 9223372036854775807
  | .negSucc k => Nat.ble k 9223372036854775807
theorem of_okK {n : Int} (h : okK n = true) : -(2 ^ 63) ≤ n ∧ n < 2 ^ 63 := by
  cases n with
  | ofNat k =>
    have h2 : k ≤ 9223372036854775807 := Nat.le_of_ble_eq_true h
    exact ⟨by simp only [Int.ofNat_eq_natCast]; omega, by simp only [Int.ofNat_eq_natCast]; omega⟩
  | negSucc k => 
    have h2 : k ≤ 9223372036854775807 := Nat.le_of_ble_eq_true h
    exact ⟨by rw [Int.negSucc_eq]; omega, by rw [Int.negSucc_eq]; omega⟩
theorem okK_of {n : Int} (h : -(2 ^ 63) ≤ n) (h2 : n < 2 ^ 63) : okK n = true := by
  cases n with
  | ofNat k =>
    simp only [Int.ofNat_eq_natCast] at h2
    exact Nat.ble_eq_true_of_le (by omega)
  | negSucc k => 
    rw [Int.negSucc_eq] at h
    exact Nat.ble_eq_true_of_le (by omega)
def oRep : D → D → Option D
  | .lst x, .int k => if okK k = true ∧ x.length * k.toNat ≤ sizeLine then some (.lst (List.replicate k.toNat x).flatten) else none
  | _, _ => none
def dAdd : D → D → Option D := alt2 (oI0 fun i j => .int (i + j)) (alt2 (oStr (fun x y => x.length + y.length ≤ sizeLine) fun x y => .str (x ++ y)) (alt2 oCatL oCatT))
def dSub : D → D → Option D := oI0 fun i j => .int (i - j)
def dMul : D → D → Option D := alt2 (oI CMul fun i j => .int (i * j)) (alt2 (oI CMulW fun i j => .int (i * j)) oRep)
def dFdiv : D → D → Option D := oI CDivW fun i j => .int (i / j)
def dMod : D → D → Option D := oI (fun _ j => 0 < j) fun i j => .int (i % j)
def dPow : D → D → Option D := oI CPow fun i j => .int (i ^ j.toNat)
section
variable {K : PySem.W.Frag} {X : Cx} (hK : X.K = K)
include hK
theorem ops_add : OpS K X (binaryOp .Add) dAdd := by
  subst hK
  refine (ops_I0 op_add fun _ _ _ => rep_int).or (.or ?_ (.or ?_ ?_))
  · refine ⟨_, op_add_str, fun w hw hf x y dx dy Q rx ry q => ?_⟩
    cases dx <;> cases dy <;> try exact (q : False).elim
    unfold Rep at rx ry
    obtain ⟨rfl, rx⟩ := rx
    obtain ⟨rfl, ry⟩ := ry
    obtain ⟨h, q⟩ := Pz.ite q
    exact ⟨_, _, rfl, rfl, h, q.here (rep_str (by rw [str_len]; exact h))⟩
  · refine ⟨_, op_cat, fun w hw hf x y dx dy Q rx ry q => ?_⟩
    cases dx <;> cases dy <;> try exact (q : False).elim
    unfold Rep at rx ry
    obtain ⟨a, vs, rfl, ⟨_, ha, _⟩, rx⟩ := rx
    obtain ⟨b, us, rfl, ⟨_, hb, _⟩, ry⟩ := ry
    obtain ⟨h, q⟩ := Pz.ite q
    rw [← reps_len rx, ← reps_len ry] at h
    exact ⟨a, b, vs, us, rfl, rfl, ha, hb, h, fun p hp => q _ _ (same_mut (Same.refl _) hp) (rep_lst hf hp (by simpa using h) (reps_app rx ry))⟩
  · refine ⟨_, op_catA, fun w hw hf x y dx dy Q rx ry q => ?_⟩
    cases dx <;> cases dy <;> try exact (q : False).elim
    obtain ⟨h, q⟩ := Pz.ite q
    have rx0 := rx
    have ry0 := ry
    unfold Rep at rx ry
    obtain ⟨a, vs, rfl, ta, rx⟩ := rx
    obtain ⟨b, us, rfl, tb, ry⟩ := ry
    rw [← reps_len rx, ← reps_len ry] at h
    refine ⟨a, b, vs, us, rfl, rfl, hw ▸ ta.sq, hw ▸ tb.sq, h, fun e => ?_, fun _ e => ?_, fun _ _ p hp => q _ _ (same_mut (Same.refl _) hp) (rep_tup hf hp (by simpa using h) (reps_app rx ry))⟩
    · have e2 := reps_len rx
      rw [e] at e2
      rw [List.length_eq_zero_iff.mp e2.symm, List.nil_append] at q
      exact q.here ry0
    · have e2 := reps_len ry
      rw [e] at e2
      rw [List.length_eq_zero_iff.mp e2.symm, List.append_nil] at q
      exact q.here rx0
theorem ops_sub : OpS K X (binaryOp .Sub) dSub := ops_I0 op_sub fun _ _ _ => rep_int
theorem ops_mul : OpS K X (binaryOp .Mult) dMul := by
  refine (ops_I op_mul fun _ _ _ => rep_int).or (.or (ops_I op_mulW fun _ _ _ => rep_int) ?_)
  refine ⟨_, op_rep, fun w hw hf x y dx dy Q rx ry q => ?_⟩
  cases dx <;> cases dy <;> try exact (q : False).elim
  unfold Rep at rx ry
  obtain ⟨a, vs, rfl, ⟨_, ha, _⟩, rx⟩ := rx
  subst ry
  obtain ⟨⟨h0, h3⟩, q⟩ := Pz.ite q
  obtain ⟨h1, h2⟩ := of_okK h0
  rw [← reps_len rx] at h3
  exact ⟨a, _, vs, rfl, rfl, ha, h1, h2, h3, fun p hp => q _ _ (same_mut (Same.refl _) hp) (rep_lst hf hp (by simp [List.length_flatten, List.map_replicate, Nat.mul_comm] at h3 ⊢; exact h3) (reps_flat rx _))⟩
theorem ops_fdiv : OpS K X (binaryOp .FloorDiv) dFdiv := ops_I op_fdivW fun _ _ _ => rep_int
theorem ops_mod : OpS K X (binaryOp .Mod) dMod := ops_I op_mod fun _ _ _ => rep_int
theorem ops_pow : OpS K X (binaryOp .Pow) dPow := ops_I op_pow fun _ _ _ => rep_int
end
mutual
def D.py : D → Option PyData
  | .non => some .none
  | .bl b => some (.bool b)
  | .int i => some (.int i)
  | .str x => some (.str x)
  | .tup ds => (D.pys ds).map .tuple
  | .lst ds => (D.pys ds).map .list
  | _ => none
def D.pys : List D → Option (List PyData)
  | [] => some []
  | d :: ds => match D.py d, D.pys ds with
    | some p, some ps => some (p :: ps)
    | _, _ => none
end
mutual
theorem rep_dp {w : Wo} : ∀ (d : D) {v : V} {p : PyData}, Rep w d v → d.py = some p → Dp w.K w.H v p ∧ p.plain = true
  | .non, v, p, r, e => by unfold Rep at r; unfold D.py at e; cases e; subst r; exact ⟨.non, rfl⟩
  | .bl _, v, p, r, e => by unfold Rep at r; unfold D.py at e; cases e; subst r; exact ⟨.bl _, rfl⟩
  | .int _, v, p, r, e => by unfold Rep at r; unfold D.py at e; cases e; subst r; exact ⟨.int _, rfl⟩
  | .str _, v, p, r, e => by unfold Rep at r; unfold D.py at e; cases e; obtain ⟨rfl, _⟩ := r; exact ⟨.str _, rfl⟩
  | .tup ds, v, p, r, e => by
    unfold Rep at r
    unfold D.py at e
    obtain ⟨a, vs, rfl, t, r⟩ := r
    cases q : D.pys ds with
    | none => rw [q] at e; cases e
    | some ps =>
      rw [q] at e
      cases e
      obtain ⟨h, g⟩ := reps_dp ds r q
      exact ⟨.tup t.sq h, g⟩
  | .lst ds, v, p, r, e => by
    unfold Rep at r
    unfold D.py at e
    obtain ⟨a, vs, rfl, t, r⟩ := r
    cases q : D.pys ds with
    | none => rw [q] at e; cases e
    | some ps =>
      rw [q] at e
      cases e
      obtain ⟨h, g⟩ := reps_dp ds r q
      exact ⟨.lst t.sq h, g⟩
  | .ty _, v, p, r, e => by unfold D.py at e; cases e
  | .cls _, v, p, r, e => by unfold D.py at e; cases e
  | .obj _ _, v, p, r, e => by unfold D.py at e; cases e
  | .exc _ _, v, p, r, e => by unfold D.py at e; cases e
  | .dk _, v, p, r, e => by unfold D.py at e; cases e
  | .dt _, v, p, r, e => by unfold D.py at e; cases e
  | .ref _, v, p, r, e => by unfold D.py at e; cases e
  | .scr _, v, p, r, e => by unfold D.py at e; cases e
  | .adr _, v, p, r, e => by unfold D.py at e; cases e
  | .fk _, v, p, r, e => by unfold D.py at e; cases e
  | .ft _, v, p, r, e => by unfold D.py at e; cases e
  | .tpl _, v, p, r, e => by unfold D.py at e; cases e
theorem reps_dp {w : Wo} : ∀ (ds : List D) {vs : List V} {ps : List PyData}, Reps w ds vs → D.pys ds = some ps → DpAll w.K w.H vs ps ∧ PyData.plainAll ps = true
  | [], vs, ps, r, e => by unfold Reps at r; unfold D.pys at e; cases e; subst r; exact ⟨.nil, rfl⟩
  | d :: ds, vs, ps, r, e => by
    unfold Reps at r
    unfold D.pys at e
    obtain ⟨v, us, rfl, a, r⟩ := r
    cases q1 : D.py d with
    | none => rw [q1] at e; cases e
    | some p =>
      cases q2 : D.pys ds with
      | none => rw [q1, q2] at e; cases e
      | some qs =>
        rw [q1, q2] at e
        cases e
        obtain ⟨h1, g1⟩ := rep_dp d a q1
        obtain ⟨h2, g2⟩ := reps_dp ds r q2
        exact ⟨.cons h1 h2, by show (PyData.plain p && PyData.plainAll qs) = true; rw [g1, g2]; rfl⟩
end
def dEqP (neg : Bool) (x : D) (y : D) : Option D := match x.py, y.py with
  | some p, some q => if p.depth ≤ 60 then some (.bl (if neg then !PyData.eqv p q else PyData.eqv p q)) else none
  | _, _ => none
def dEq : D → D → Option D := dEqP false
def dNe : D → D → Option D := dEqP true
def oB0 (g : Int → Int → Bool) : D → D → Option D := oI0 fun i j => .bl (g i j)
def oSB (g : Str → Str → Bool) : D → D → Option D
  | .str x, .str y => some (.bl (g x y))
  | _, _ => none
def dLt : D → D → Option D := alt2 (oB0 fun i j => decide (i < j)) (oSB fun i j => decide (i.cps.toList < j.cps.toList))
def dLe : D → D → Option D := alt2 (oB0 fun i j => decide (i ≤ j)) (oSB fun i j => !decide (j.cps.toList < i.cps.toList))
def dGt : D → D → Option D := alt2 (oB0 fun i j => decide (j < i)) (oSB fun i j => decide (j.cps.toList < i.cps.toList))
def dGe : D → D → Option D := alt2 (oB0 fun i j => decide (j ≤ i)) (oSB fun i j => !decide (i.cps.toList < j.cps.toList))
def D.isN : D → Bool
  | .non => true
  | _ => false
def dIs : D → D → Option D
  | x, .non => some (.bl x.isN)
  | _, _ => none
def dNot : D → D → Option D
  | x, .non => some (.bl (!x.isN))
  | _, _ => none
def D.sign : D → Option Nat
  | .str x => if x.cps.size = 1 then x.cps[0]? else none
  | _ => none
def dInS (neg : Bool) : D → D → Option D
  | x, .str z => match x.sign with
    | some c => some (.bl (if neg then !decide (c ∈ z.cps.toList) else decide (c ∈ z.cps.toList)))
    | none => none
  | _, _ => none
def dInL (neg : Bool) : D → D → Option D
  | x, .lst ys => match x.py, D.pys ys with
    | some p, some qs => if SeqAt.shaped p = true ∧ SeqAt.shaped (.list qs) = true then some (.bl (if neg then !qs.any fun z => PyData.eqv z p else qs.any fun z => PyData.eqv z p)) else none
    | _, _ => none
  | _, _ => none
def D.flat : D → Bool
  | .non | .bl _ | .int _ | .str _ => true
  | _ => false
def D.eqF : D → D → Bool
  | .non, .non => true
  | .bl a, .bl b => a == b
  | .bl a, .int b => (if a then 1 else 0) == b
  | .int a, .bl b => a == (if b then 1 else 0)
  | .int a, .int b => a == b
  | .str a, .str b => a == b
  | _, _ => false
def dInT (neg : Bool) : D → D → Option D
  | x, .tup ys => if x.flat && ys.all D.flat then some (.bl (if neg then !ys.any fun y => D.eqF y x else ys.any fun y => D.eqF y x)) else none
  | _, _ => none
def dIn : D → D → Option D := alt2 (dInS false) (alt2 (dInL false) (dInT false))
def dNin : D → D → Option D := alt2 (dInS true) (alt2 (dInL true) (dInT true))
section
variable {K : PySem.W.Frag} {X : Cx} (hK : X.K = K)
include hK
theorem ops_eqP (hu : X.A.units + 64 < cLine) : OpS K X (compareOp .Eq) dEq := by
  subst hK
  refine ⟨_, op_eqP hu, fun w hw hf x y dx dy Q rx ry q => ?_⟩
  unfold dEq dEqP at q
  split at q
  · rename_i p p' e1 e2
    obtain ⟨h, q⟩ := Pz.ite q
    obtain ⟨a1, b1⟩ := rep_dp _ rx e1
    obtain ⟨a2, b2⟩ := rep_dp _ ry e2
    rw [hw] at a1 a2
    exact ⟨p, p', a1, a2, b1, b2, h, q.here rep_bl⟩
  · exact (q : False).elim
theorem ops_neP (hu : X.A.units + 64 < cLine) : OpS K X (compareOp .NotEq) dNe := by
  subst hK
  refine ⟨_, op_neP hu, fun w hw hf x y dx dy Q rx ry q => ?_⟩
  unfold dNe dEqP at q
  split at q
  · rename_i p p' e1 e2
    obtain ⟨h, q⟩ := Pz.ite q
    obtain ⟨a1, b1⟩ := rep_dp _ rx e1
    obtain ⟨a2, b2⟩ := rep_dp _ ry e2
    rw [hw] at a1 a2
    exact ⟨p, p', a1, a2, b1, b2, h, q.here rep_bl⟩
  · exact (q : False).elim
theorem ops_SB {f : Value → Value → Sem Value} {g : Str → Str → Bool} (h : OpR X f (fun x y H Q => ∃ i j, x = .str i ∧ y = .str j ∧ Q (.bl (g i j)) H)) : OpS K X f (oSB g) := by
  refine ⟨_, h, fun w hw hf x y dx dy Q rx ry q => ?_⟩
  cases dx <;> cases dy <;> try exact (q : False).elim
  unfold Rep at rx ry
  obtain ⟨rfl, rx⟩ := rx
  obtain ⟨rfl, ry⟩ := ry
  exact ⟨_, _, rfl, rfl, Pz.here q rep_bl⟩
theorem ops_lt : OpS K X (compareOp .Lt) dLt := (ops_I0 op_lt fun _ _ _ => rep_bl).or (ops_SB hK op_lt_str)
theorem ops_le : OpS K X (compareOp .LtE) dLe := (ops_I0 op_le fun _ _ _ => rep_bl).or (ops_SB hK op_le_str)
theorem ops_gt : OpS K X (compareOp .Gt) dGt := (ops_I0 op_gt fun _ _ _ => rep_bl).or (ops_SB hK op_gt_str)
theorem ops_ge : OpS K X (compareOp .GtE) dGe := (ops_I0 op_ge fun _ _ _ => rep_bl).or (ops_SB hK op_ge_str)
omit hK in
theorem rep_isN {w : Wo} {d : D} {v : V} (r : Rep w d v) : d.isN = decide (v = .non) := by
  cases d <;> unfold Rep at r <;> unfold D.isN
  case non => rw [r]; rfl
  case bl => rw [r]; rfl
  case int => rw [r]; rfl
  case str => rw [r.1]; rfl
  case ty => rw [r]; rfl
  case cls => rw [r]; rfl
  case adr => rw [r]; rfl
  all_goals (obtain ⟨a, h⟩ := r; first | (obtain ⟨_, h, _⟩ := h; rw [h]; rfl) | (obtain ⟨_, _, h, _⟩ := h; rw [h]; rfl) | (obtain ⟨h, _⟩ := h; rw [h]; rfl))
theorem ops_is : OpS K X (compareOp .Is) dIs := by
  refine ⟨_, op_isN, fun w hw hf x y dx dy Q rx ry q => ?_⟩
  cases dy <;> try exact (q : False).elim
  unfold Rep at ry
  refine ⟨ry, ?_⟩
  rw [← rep_isN rx]
  exact Pz.here q rep_bl
theorem ops_not : OpS K X (compareOp .IsNot) dNot := by
  refine ⟨_, op_notN, fun w hw hf x y dx dy Q rx ry q => ?_⟩
  cases dy <;> try exact (q : False).elim
  unfold Rep at ry
  refine ⟨ry, ?_⟩
  rw [← rep_isN rx]
  exact Pz.here q rep_bl
omit hK in
theorem sign_at {w : Wo} {d : D} {v : V} {c : Nat} (r : Rep w d v) (h : d.sign = some c) : v = .str ⟨#[c]⟩ := by
  cases d <;> unfold D.sign at h <;> try cases h
  rename_i x
  unfold Rep at r
  obtain ⟨rfl, _⟩ := r
  by_cases e : x.cps.size = 1
  · have h : (if x.cps.size = 1 then x.cps[0]? else none) = some c := h
    rw [if_pos e] at h
    obtain ⟨x⟩ := x
    congr
    refine Array.ext (by simpa using e) fun i h1 h2 => ?_
    have hi : i = 0 := by have e : x.size = 1 := e; omega
    subst hi
    have h : x[0]? = some c := h
    rw [Array.getElem?_eq_getElem h1] at h
    exact Option.some.inj h
  · have h : (if x.cps.size = 1 then x.cps[0]? else none) = some c := h
    rw [if_neg e] at h
    cases h
omit hK in
theorem flat_at {w : Wo} {d : D} {v : V} (r : Rep w d v) (h : d.flat = true) : flatV v = true := by
  cases d <;> unfold D.flat at h <;> try cases h
  all_goals unfold Rep at r
  · rw [r]; rfl
  · rw [r]; rfl
  · rw [r]; rfl
  · rw [r.1]; rfl
omit hK in
theorem eqF_at {w : Wo} {d e : D} {v u : V} (r : Rep w d v) (r2 : Rep w e u) (h : d.flat = true) (h2 : e.flat = true) : D.eqF d e = eqV v u := by
  cases d <;> unfold D.flat at h <;> (try cases h) <;> cases e <;> unfold D.flat at h2 <;> (try cases h2) <;> unfold Rep at r r2 <;> first | (rw [r, r2]; rfl) | (rw [r.1, r2]; rfl) | (rw [r, r2.1]; rfl) | (rw [r.1, r2.1]; rfl)
omit hK in
theorem inV_at {w : Wo} {d : D} {v : V} (r : Rep w d v) (h : d.flat = true) : ∀ {ys : List D} {us : List V}, Reps w ys us → ys.all D.flat = true → us.all flatV = true ∧ inV v us = ys.any fun y => D.eqF y d
  | [], _, q, _ => by unfold Reps at q; rw [q]; exact ⟨rfl, rfl⟩
  | y :: ys, _, q, h2 => by
    unfold Reps at q
    obtain ⟨u, us, rfl, a, q⟩ := q
    simp only [List.all_cons, Bool.and_eq_true] at h2
    obtain ⟨h3, h4⟩ := inV_at r h q h2.2
    refine ⟨by simp only [List.all_cons, Bool.and_eq_true]; exact ⟨flat_at a h2.1, h3⟩, ?_⟩
    unfold inV at h4 ⊢
    rw [List.any_cons, List.any_cons, h4, eqF_at a r h2.1 h]
theorem ops_in (hu : X.A.units + 65 < cLine) : OpS K X (compareOp .In) dIn := by
  subst hK
  refine .or ?_ (.or ?_ ?_)
  · refine ⟨_, op_in_sign, fun w hw hf x y dx dy Q rx ry q => ?_⟩
    cases dy <;> try exact (q : False).elim
    rename_i z
    unfold Rep at ry
    unfold dInS at q
    cases e : dx.sign with
    | none => simp only [e] at q; exact (q : False).elim
    | some c => simp only [e] at q; exact ⟨c, z, sign_at rx e, ry.1, Pz.here q rep_bl⟩
  · refine ⟨_, op_inD hu, fun w hw hf x y dx dy Q rx ry q => ?_⟩
    cases dy <;> try exact (q : False).elim
    rename_i ys
    unfold dInL at q
    dsimp only at q
    split at q
    · rename_i p qs e1 e2
      obtain ⟨h, q⟩ := Pz.ite q
      obtain ⟨a1, b1⟩ := rep_dp _ rx e1
      obtain ⟨a2, b2⟩ := rep_dp (.lst ys) (p := .list qs) ry (by unfold D.py; rw [e2]; rfl)
      rw [hw] at a1 a2
      exact ⟨p, qs, a1, a2, h.1, h.2, Pz.here q rep_bl⟩
    · exact (q : False).elim
  · refine ⟨_, op_in_seq, fun w hw hf x y dx dy Q rx ry q => ?_⟩
    cases dy <;> try exact (q : False).elim
    obtain ⟨h, q⟩ := Pz.ite q
    rw [Bool.and_eq_true] at h
    unfold Rep at ry
    obtain ⟨a, us, rfl, t, ry⟩ := ry
    obtain ⟨h3, h4⟩ := inV_at rx h.1 ry h.2
    refine ⟨a, us, rfl, .inr (hw ▸ t.sq), flat_at rx h.1, h3, ?_⟩
    rw [h4]
    exact Pz.here q rep_bl
theorem ops_nin (hu : X.A.units + 65 < cLine) : OpS K X (compareOp .NotIn) dNin := by
  subst hK
  refine .or ?_ (.or ?_ ?_)
  · refine ⟨_, op_notIn_sign, fun w hw hf x y dx dy Q rx ry q => ?_⟩
    cases dy <;> try exact (q : False).elim
    rename_i z
    unfold Rep at ry
    unfold dInS at q
    cases e : dx.sign with
    | none => simp only [e] at q; exact (q : False).elim
    | some c => simp only [e] at q; exact ⟨c, z, sign_at rx e, ry.1, Pz.here q rep_bl⟩
  · refine ⟨_, op_notInD hu, fun w hw hf x y dx dy Q rx ry q => ?_⟩
    cases dy <;> try exact (q : False).elim
    rename_i ys
    unfold dInL at q
    dsimp only at q
    split at q
    · rename_i p qs e1 e2
      obtain ⟨h, q⟩ := Pz.ite q
      obtain ⟨a1, b1⟩ := rep_dp _ rx e1
      obtain ⟨a2, b2⟩ := rep_dp (.lst ys) (p := .list qs) ry (by unfold D.py; rw [e2]; rfl)
      rw [hw] at a1 a2
      exact ⟨p, qs, a1, a2, h.1, h.2, Pz.here q rep_bl⟩
    · exact (q : False).elim
  · refine ⟨_, op_notIn_seq, fun w hw hf x y dx dy Q rx ry q => ?_⟩
    cases dy <;> try exact (q : False).elim
    obtain ⟨h, q⟩ := Pz.ite q
    rw [Bool.and_eq_true] at h
    unfold Rep at ry
    obtain ⟨a, us, rfl, t, ry⟩ := ry
    obtain ⟨h3, h4⟩ := inV_at rx h.1 ry h.2
    refine ⟨a, us, rfl, .inr (hw ▸ t.sq), flat_at rx h.1, h3, ?_⟩
    simp only [if_true]
    rw [h4]
    exact Pz.here q rep_bl
end
end Sh
namespace Sh
open PySem PySem.Spec PyProof.Rows L2 Nk
variable [TabSet] [BasePred]
theorem Post.val {K : PySem.W.Frag} {B : Addr → Prop} {ow : List (Option Addr)} {m : List Addr} {H : Hp} {W : Value → Option Addr → Hp → Prop} {Q : VK} {d : D} {S : Store} {v : V} (h : Post K B ow m H Rep W Q (.ok d S)) (c : Cells K B m ow H S) (r : Rep (wo K B m ow H) d v) : Q v H := h v m H (Fut.refl m H) c r
theorem Post.pz {K : PySem.W.Frag} {B : Addr → Prop} {ow : List (Option Addr)} {m : List Addr} {H : Hp} {W : Value → Option Addr → Hp → Prop} {Q : VK} {S : Store} {o : Option D} (h : Post K B ow m H Rep W Q (R.of S o)) (c : Cells K B m ow H S) : Pz (wo K B m ow H) Q o := by
  cases o with
  | none => exact h
  | some d => exact fun v H' s r => h v m H' (Fut.same s) (c.same s) r
def eVar (i : Nat) (e : En) (S : Store) : R D := match e[i]? with
  | some (.val d) => .ok d S
  | _ => .no
def eC (d : D) (_ : En) (S : Store) : R D := .ok d S
def eBin (o : D → D → Option D) (f g : Sx D) (e : En) (S : Store) : R D := (f e S).bind fun x S1 => (g e S1).bind fun y S2 => R.of S2 (o x y)
def eUn (o : D → Option D) (f : Sx D) (e : En) (S : Store) : R D := (f e S).bind fun x S1 => R.of S1 (o x)
def D.b : D → Option Bool
  | .bl b => some b
  | _ => none
def tVal (f : Sx D) (e : En) (S : Store) : R Bool := (f e S).bind fun x S1 => R.of S1 x.b
def tNt (f : Sx Bool) (e : En) (S : Store) : R Bool := (f e S).bind fun b S1 => .ok (!b) S1
def tAd (f g : Sx Bool) (e : En) (S : Store) : R Bool := (f e S).bind fun b S1 => if b then g e S1 else .ok false S1
def tOo (f g : Sx Bool) (e : En) (S : Store) : R Bool := (f e S).bind fun b S1 => if b then .ok true S1 else g e S1
def eNt (f : Sx D) (e : En) (S : Store) : R D := (tVal f e S).bind fun b S1 => .ok (.bl (!b)) S1
def eAd (f g : Sx D) (e : En) (S : Store) : R D := (tVal f e S).bind fun b S1 => if b then g e S1 else .ok (.bl false) S1
def eIf (t : Sx Bool) (f g : Sx D) (e : En) (S : Store) : R D := (t e S).bind fun b S1 => if b then f e S1 else g e S1
def eChain (o p : D → D → Option D) (f g h : Sx D) (e : En) (S : Store) : R D := (f e S).bind fun x S1 => (g e S1).bind fun y S2 => (R.of S2 ((o x y).bind D.b)).bind fun b S3 => if b then (h e S3).bind fun z S4 => R.of S4 (p y z) else .ok (.bl false) S3
def aNil (_ : En) (S : Store) : R (List D) := .ok [] S
def aCons (f : Sx D) (g : Sx (List D)) (e : En) (S : Store) : R (List D) := (f e S).bind fun x S1 => (g e S1).bind fun xs S2 => .ok (x :: xs) S2
def eTup (g : Sx (List D)) (e : En) (S : Store) : R D := (g e S).bind fun xs S1 => if xs.length ≤ sizeLine then .ok (.tup xs) S1 else .no
def eLst (g : Sx (List D)) (e : En) (S : Store) : R D := (g e S).bind fun xs S1 => if xs.length ≤ sizeLine then .ok (.lst xs) S1 else .no
def eCall (o : List D → Option D) (g : Sx (List D)) (e : En) (S : Store) : R D := (g e S).bind fun xs S1 => R.of S1 (o xs)
def D.ix : D → D → Option D := alt2 (fun | .lst xs, .int i => atI xs i | _, _ => none) (alt2 (fun | .tup xs, .int i => atI xs i | _, _ => none) (fun | .str z, .int i => (atI z.cps.toList i).map fun c => .str ⟨#[c]⟩ | _, _ => none))
def eIx (f g : Sx D) (e : En) (S : Store) : R D := (f e S).bind fun x S1 => (g e S1).bind fun y S2 => match x with
  | .ref n => match S2[n]?, y with
    | some (.lst xs), .int i => R.of S2 (atI xs i)
    | _, _ => .no
  | _ => R.of S2 (D.ix x y)
section
variable {K : PySem.W.Frag} {X : Cx} {W : WX} {ex ex2 ex3 : Expr} {f g h : Sx D} {t u : Sx Bool} {a : Sx (List D)} {pos : Pos} {i : Nat} {x : Str}
theorem x_var (hN : X.N[i]? = some x) (hv : Vis X.env.scope x) (hd : (x == ("__debug__" : Str)) = false := by decide) (hcd : (x == ("__classdict__" : Str)) = false := by decide) : Ev K X W (.Name x pos) (eVar i) := by
  refine ⟨_, pe_var hN hv hd hcd, fun b m ow H σ e S Q t q => ?_⟩
  unfold eVar at q
  cases he : e[i]? with
  | none => rw [he] at q; exact q.elim
  | some s =>
    cases s with
    | val d =>
      rw [he] at q
      obtain ⟨v, h1, h2⟩ := t.slots i _ he
      exact ⟨v, h1, q.val t.cells h2⟩
    | no => rw [he] at q; exact q.elim
    | own c => rw [he] at q; exact q.elim
theorem x_c {v : V} {d : D} (hp : PE X ex (tC v)) (hr : ∀ w, Rep w d v) : Ev K X W ex (eC d) := ⟨_, hp, fun b m ow H σ e S Q t q => q.val t.cells (hr _)⟩
theorem x_int {i : Int} {j pos} : Ev K X W (.Constant (.int i) j pos) (eC (.int i)) := x_c pe_int fun _ => rep_int
theorem x_bl {i : Bool} {j pos} : Ev K X W (.Constant (.bool i) j pos) (eC (.bl i)) := x_c pe_bl fun _ => rep_bl
theorem x_non {j pos} : Ev K X W (.Constant .none j pos) (eC .non) := x_c pe_non fun _ => rep_non
theorem x_str {z : Str} {j pos} (hz : decide (z.length ≤ sizeLine) = true := by decide +kernel) : Ev K X W (.Constant (.str z) j pos) (eC (.str z)) := x_c pe_str fun _ => rep_str (of_decide_eq_true hz)
theorem x_gc {x : Str} {v : V} {d : D} (hg : Gl X x) (h : ∃ u, X.mg x = some u ∧ RelV v u) (hr : ∀ w, Rep w d v) (hd : (x == ("__debug__" : Str)) = false := by decide) : Ev K X W (.Name x pos) (eC d) := x_c (pe_gc hg h hd) hr
theorem x_cls {x : Str} {c : String} (hK : X.K = K) (hg : Gl X x) (hm : X.mg x = some (.ref (He.ga K c))) (hd : (x == ("__debug__" : Str)) = false := by decide) : Ev K X W (.Name x pos) (eC (.cls c)) :=
  ⟨_, pe_glob (v := .ref (He.ga K c)) hg hm rfl hd, fun b m ow H σ e S Q t q => q.val t.cells (by unfold Rep; rfl)⟩
theorem x_op {op : Operator} {o : D → D → Option D} (ho : OpS K X (binaryOp op) o) (hf : Ev K X W ex f) (hg : Ev K X W ex2 g) : Ev K X W (.BinOp ex op ex2 pos) (eBin o f g) := by
  obtain ⟨ta, p1, h1⟩ := hf.run
  obtain ⟨tb, p2, h2⟩ := hg.run
  obtain ⟨r, p3, h3⟩ := ho.run
  refine ⟨_, pe_op p3 p1 p2, fun b m ow H σ e S Q t q => h1 b m ow H σ e S _ t (Post.bind q fun x S1 v m1 H1 f1 c1 rx q => h2 b m1 ow H1 σ e S1 _ (t.go f1 c1) (Post.bind q fun y S2 u m2 H2 f2 c2 ry q => ?_))⟩
  exact h3 _ rfl c2.full v u x y Q (Rep.le f2.le x rx) ry (q.pz c2)
theorem x_cmp {op : CmpOp} {o : D → D → Option D} (ho : OpS K X (compareOp op) o) (hf : Ev K X W ex f) (hg : Ev K X W ex2 g) (hm : behindInMarks op ex2 = false) : Ev K X W (.Compare ex [op] [ex2] pos) (eBin o f g) := by
  obtain ⟨ta, p1, h1⟩ := hf.run
  obtain ⟨tb, p2, h2⟩ := hg.run
  obtain ⟨r, p3, h3⟩ := ho.run
  refine ⟨_, pe_cmpR p3 p1 p2 hm, fun b m ow H σ e S Q t q => h1 b m ow H σ e S _ t (Post.bind q fun x S1 v m1 H1 f1 c1 rx q => h2 b m1 ow H1 σ e S1 _ (t.go f1 c1) (Post.bind q fun y S2 u m2 H2 f2 c2 ry q => ?_))⟩
  exact h3 _ rfl c2.full v u x y Q (Rep.le f2.le x rx) ry (q.pz c2)
theorem rep_b {w : Wo} {x : D} {v : V} {k : Bool} (r : Rep w x v) (h : x.b = some k) : v = .bl k := by
  cases x <;> unfold D.b at h <;> try cases h
  unfold Rep at r
  exact r
theorem Post.tst {B : Addr → Prop} {ow : List (Option Addr)} {m : List Addr} {H : Hp} {Wp : Value → Option Addr → Hp → Prop} {Q : Bool → Hp → Prop} {S : Store} {x : D} {v : V} (h : Post K B ow m H RB Wp Q (R.of S x.b)) (c : Cells K B m ow H S) (r : Rep (wo K B m ow H) x v) : ∃ k, v = .bl k ∧ Q k H := by
  cases e : x.b with
  | none => rw [e] at h; exact h.elim
  | some k => rw [e] at h; exact ⟨k, rep_b r e, h k m H (Fut.refl m H) c rfl⟩
theorem t_val (hf : Ev K X W ex f) (he : ∀ whole, isTrue ex X.env whole = (do let v ← whole; standAt ex.pos; holding [v] (truthy v)) := by intro _; rfl) : Et K X W ex (tVal f) := by
  obtain ⟨ta, p1, h1⟩ := hf.run
  exact ⟨_, pt_val p1 he, fun b m ow H σ e S Q t q => h1 b m ow H σ e S _ t (Post.bind q fun x S1 v m1 H1 f1 c1 rx q => q.tst c1 rx)⟩
theorem t_cmp {op : CmpOp} {o : D → D → Option D} (ho : OpS K X (compareOp op) o) (hf : Ev K X W ex f) (hg : Ev K X W ex2 g) (hm : behindInMarks op ex2 = false) : Et K X W (.Compare ex [op] [ex2] pos) (tVal (eBin o f g)) := by
  obtain ⟨ta, p1, h1⟩ := hf.run
  obtain ⟨tb, p2, h2⟩ := hg.run
  obtain ⟨r, p3, h3⟩ := ho.run
  refine ⟨_, pt_cmpR p3 p1 p2 hm, fun b m ow H σ e S Q t q => ?_⟩
  unfold tVal eBin at q
  simp only [bind_bind] at q
  refine h1 b m ow H σ e S _ t (Post.bind q fun x S1 v m1 H1 f1 c1 rx q => h2 b m1 ow H1 σ e S1 _ (t.go f1 c1) (Post.bind q fun y S2 u m2 H2 f2 c2 ry q => ?_))
  refine h3 _ rfl c2.full v u x y _ (Rep.le f2.le x rx) ry ?_
  refine Post.pz (W := fun c d => W c d σ) (S := S2) (Post.bind q fun z S3 v3 m3 H3 f3 c3 rz q => q.tst c3 rz) c2
theorem t_not (hf : Et K X W ex t) : Et K X W (.UnaryOp .Not ex pos) (tNt t) := by
  obtain ⟨ta, p1, h1⟩ := hf.run
  exact ⟨_, pt_not p1, fun b m ow H σ e S Q t q => h1 b m ow H σ e S _ t (Post.bind q fun x S1 v m1 H1 f1 c1 rx q => q _ m1 H1 (Fut.refl _ _) c1 (by rw [show v = x from rx]; rfl))⟩
theorem w_pt (h : Ew K X W ex t) : Et K X W ex t := by
  obtain ⟨ta, p1, h1⟩ := h.run
  exact ⟨_, p1.pt, h1⟩
theorem w_and1 (hf : Et K X W ex t) : Ew K X W (.BoolOp .And [ex] pos) t := by
  obtain ⟨ta, p1, h1⟩ := hf.run
  exact ⟨_, pw_and1 p1, h1⟩
theorem w_or1 (hf : Et K X W ex t) : Ew K X W (.BoolOp .Or [ex] pos) t := by
  obtain ⟨ta, p1, h1⟩ := hf.run
  exact ⟨_, pw_or1 p1, h1⟩
theorem w_and {rest : List Expr} (hf : Et K X W ex t) (hg : Ew K X W (.BoolOp .And (ex2 :: rest) pos) u) : Ew K X W (.BoolOp .And (ex :: ex2 :: rest) pos) (tAd t u) := by
  obtain ⟨ta, p1, h1⟩ := hf.run
  obtain ⟨tb, p2, h2⟩ := hg.run
  refine ⟨_, pw_and p1 p2, fun b m ow H σ e S Q t q => h1 b m ow H σ e S _ t (Post.bind q fun x S1 v m1 H1 f1 c1 rx q => ?_)⟩
  obtain rfl : v = x := rx
  cases v with
  | true => rw [if_pos rfl] at q ⊢; exact h2 b m1 ow H1 σ e S1 _ (t.go f1 c1) q
  | false => rw [if_neg Bool.false_ne_true] at q ⊢; exact q _ m1 H1 (Fut.refl _ _) c1 rfl
theorem w_or {rest : List Expr} (hf : Et K X W ex t) (hg : Ew K X W (.BoolOp .Or (ex2 :: rest) pos) u) : Ew K X W (.BoolOp .Or (ex :: ex2 :: rest) pos) (tOo t u) := by
  obtain ⟨ta, p1, h1⟩ := hf.run
  obtain ⟨tb, p2, h2⟩ := hg.run
  refine ⟨_, pw_or p1 p2, fun b m ow H σ e S Q t q => h1 b m ow H σ e S _ t (Post.bind q fun x S1 v m1 H1 f1 c1 rx q => ?_)⟩
  obtain rfl : v = x := rx
  cases v with
  | false => rw [if_neg Bool.false_ne_true] at q ⊢; exact h2 b m1 ow H1 σ e S1 _ (t.go f1 c1) q
  | true => rw [if_pos rfl] at q ⊢; exact q _ m1 H1 (Fut.refl _ _) c1 rfl
theorem Post.bval {B : Addr → Prop} {ow : List (Option Addr)} {m : List Addr} {H : Hp} {Wp : Value → Option Addr → Hp → Prop} {Q : VK} {S : Store} {x : D} {v : V} {k : Bool → Store → R D} (h : Post K B ow m H Rep Wp Q ((R.of S x.b).bind k)) (r : Rep (wo K B m ow H) x v) : ∃ c, v = .bl c ∧ Post K B ow m H Rep Wp Q (k c S) := by
  cases e : x.b with
  | none => rw [e] at h; exact h.elim
  | some c => rw [e] at h; exact ⟨c, rep_b r e, h⟩
theorem x_not (hf : Ev K X W ex f) : Ev K X W (.UnaryOp .Not ex pos) (eNt f) := by
  obtain ⟨ta, p1, h1⟩ := hf.run
  refine ⟨_, pe_not p1, fun b m ow H σ e S Q t q => ?_⟩
  unfold eNt tVal at q
  simp only [bind_bind] at q
  refine h1 b m ow H σ e S _ t (Post.bind q fun x S1 v m1 H1 f1 c1 rx q => ?_)
  obtain ⟨c, ev, q⟩ := q.bval rx
  exact ⟨c, ev, q.val c1 rep_bl⟩
theorem x_one {op} (hf : Ev K X W ex f) : Ev K X W (.BoolOp op [ex] pos) f := by
  obtain ⟨ta, p1, h1⟩ := hf.run
  exact ⟨_, pe_one p1, h1⟩
theorem x_and {rest : List Expr} (hf : Ev K X W ex f) (hg : Ev K X W (.BoolOp .And (ex2 :: rest) pos) g) : Ev K X W (.BoolOp .And (ex :: ex2 :: rest) pos) (eAd f g) := by
  obtain ⟨ta, p1, h1⟩ := hf.run
  obtain ⟨tb, p2, h2⟩ := hg.run
  refine ⟨_, pe_and p1 p2, fun b m ow H σ e S Q t q => ?_⟩
  unfold eAd tVal at q
  simp only [bind_bind] at q
  refine h1 b m ow H σ e S _ t (Post.bind q fun x S1 v m1 H1 f1 c1 rx q => ?_)
  obtain ⟨c, ev, q⟩ := q.bval rx
  refine ⟨c, ev, ?_⟩
  cases c with
  | true => rw [if_pos rfl] at q ⊢; exact h2 b m1 ow H1 σ e S1 _ (t.go f1 c1) q
  | false => rw [if_neg Bool.false_ne_true] at q ⊢; exact q.val c1 rep_bl
theorem x_if (ht : Et K X W ex t) (hf : Ev K X W ex2 f) (hg : Ev K X W ex3 g) : Ev K X W (.IfExp ex ex2 ex3 pos) (eIf t f g) := by
  obtain ⟨tt, p0, h0⟩ := ht.run
  obtain ⟨ta, p1, h1⟩ := hf.run
  obtain ⟨tb, p2, h2⟩ := hg.run
  refine ⟨_, pe_ifExp p0 p1 p2, fun b m ow H σ e S Q t q => h0 b m ow H σ e S _ t (Post.bind q fun x S1 v m1 H1 f1 c1 rx q => ?_)⟩
  obtain rfl : v = x := rx
  cases v with
  | true => rw [if_pos rfl] at q ⊢; exact h1 b m1 ow H1 σ e S1 _ (t.go f1 c1) q
  | false => rw [if_neg Bool.false_ne_true] at q ⊢; exact h2 b m1 ow H1 σ e S1 _ (t.go f1 c1) q
theorem a_nil : Ea K X W [] aNil := ⟨_, pa_nil, fun b m ow H σ e S Q t q => q [] m H (Fut.refl _ _) t.cells reps_nil⟩
theorem a_cons {es : List Expr} (hf : Ev K X W ex f) (ha : Ea K X W es a) (hs : starEach (ex :: es) X.env = (false, eval ex X.env) :: starEach es X.env := by rfl) : Ea K X W (ex :: es) (aCons f a) := by
  obtain ⟨ta, p1, h1⟩ := hf.run
  obtain ⟨tb, p2, h2⟩ := ha.run
  exact ⟨_, pa_cons p1 p2 hs, fun b m ow H σ e S Q t q => h1 b m ow H σ e S _ t (Post.bind q fun x S1 v m1 H1 f1 c1 rx q => h2 b m1 ow H1 σ e S1 _ (t.go f1 c1) (Post.bind q fun y S2 u m2 H2 f2 c2 ry q =>
    q _ m2 H2 (Fut.refl _ _) c2 (reps_cons (Rep.le f2.le x rx) ry)))⟩
theorem x_tup {es : List Expr} {x1} (ha : Ea K X W es a) : Ev K X W (.Tuple es x1 pos) (eTup a) := by
  obtain ⟨ta, p1, h1⟩ := ha.run
  refine ⟨_, pe_tup p1, fun b m ow H σ e S Q t q => h1 b m ow H σ e S _ t (Post.bind q fun x S1 v m1 H1 f1 c1 rx q => ?_)⟩
  split at q
  · rename_i hl
    rw [← reps_len rx] at hl
    exact ⟨hl, fun p hp => q _ m1 _ (Fut.same (same_mut (Same.refl _) hp)) (c1.same (same_mut (Same.refl _) hp)) (rep_tup c1.full hp hl rx)⟩
  · exact q.elim
theorem x_lst {es : List Expr} (ha : Ea K X W es a) : Ev K X W (.List es pos) (eLst a) := by
  obtain ⟨ta, p1, h1⟩ := ha.run
  refine ⟨_, pe_lst p1, fun b m ow H σ e S Q t q => h1 b m ow H σ e S _ t (Post.bind q fun x S1 v m1 H1 f1 c1 rx q => ?_)⟩
  split at q
  · rename_i hl
    rw [← reps_len rx] at hl
    exact ⟨hl, fun p hp => q _ m1 _ (Fut.same (same_mut (Same.refl _) hp)) (c1.same (same_mut (Same.refl _) hp)) (rep_lst c1.full hp hl rx)⟩
  · exact q.elim
theorem x_chain {op op' : CmpOp} {o p : D → D → Option D} (ho : OpS K X (compareOp op) o) (hp : OpS K X (compareOp op') p) (hf : Ev K X W ex f) (hg : Ev K X W ex2 g) (hh : Ev K X W ex3 h) (hm : lastMarks [op, op'] [ex2, ex3] = false := by with_unfolding_all rfl) : Ev K X W (.Compare ex [op, op'] [ex2, ex3] pos) (eChain o p f g h) := by
  obtain ⟨ta, p1, h1⟩ := hf.run
  obtain ⟨tb, p2, h2⟩ := hg.run
  obtain ⟨tc, p3, h3⟩ := hh.run
  obtain ⟨r, p4, h4⟩ := ho.run
  obtain ⟨r', p5, h5⟩ := hp.run
  refine ⟨_, pe_chain p4 p5 p1 p2 p3 hm, fun b m ow H σ e S Q t q => h1 b m ow H σ e S _ t (Post.bind q fun x S1 v m1 H1 f1 c1 rx q => h2 b m1 ow H1 σ e S1 _ (t.go f1 c1) (Post.bind q fun y S2 u m2 H2 f2 c2 ry q => ?_))⟩
  refine h4 _ rfl c2.full v u x y _ (Rep.le f2.le x rx) ry ?_
  cases e1 : o x y with
  | none => rw [e1] at q; exact q.elim
  | some z =>
    intro v3 H3 s3 rz
    have c3 := c2.same s3
    cases e2 : z.b with
    | none => rw [e1] at q; simp only [Option.bind_some, e2] at q; exact q.elim
    | some k =>
      refine ⟨k, rep_b rz e2, ?_⟩
      rw [e1] at q
      simp only [Option.bind_some, e2, of_some, ok_bind] at q
      have t3 := ((t.go f1 c1).go f2 c2).same s3
      have q := q.go (Fut.same s3)
      cases k with
      | true =>
        rw [if_pos rfl] at q ⊢
        refine h3 b m2 ow H3 σ e S2 _ t3 (Post.bind q fun z S4 v4 m4 H4 f4 c4 rz q => ?_)
        exact h5 _ rfl c4.full u v4 y z Q (Rep.le ((Fut.same s3).trans f4).le y ry) rz (q.pz c4)
      | false =>
        rw [if_neg Bool.false_ne_true] at q ⊢
        exact q.val c3 rep_bl
theorem t_chain {op op' : CmpOp} {o p : D → D → Option D} (ho : OpS K X (compareOp op) o) (hp : OpS K X (compareOp op') p) (hf : Ev K X W ex f) (hg : Ev K X W ex2 g) (hh : Ev K X W ex3 h) (hm : lastMarks [op, op'] [ex2, ex3] = false := by with_unfolding_all rfl) : Et K X W (.Compare ex [op, op'] [ex2, ex3] pos) (tVal (eChain o p f g h)) := by
  obtain ⟨ta, p1, h1⟩ := hf.run
  obtain ⟨tb, p2, h2⟩ := hg.run
  obtain ⟨tc, p3, h3⟩ := hh.run
  obtain ⟨r, p4, h4⟩ := ho.run
  obtain ⟨r', p5, h5⟩ := hp.run
  refine ⟨_, pt_chain p4 p5 p1 p2 p3 hm, fun b m ow H σ e S Q t q => ?_⟩
  unfold tVal eChain at q
  simp only [bind_bind] at q
  refine h1 b m ow H σ e S _ t (Post.bind q fun x S1 v m1 H1 f1 c1 rx q => h2 b m1 ow H1 σ e S1 _ (t.go f1 c1) (Post.bind q fun y S2 u m2 H2 f2 c2 ry q => ?_))
  refine h4 _ rfl c2.full v u x y _ (Rep.le f2.le x rx) ry ?_
  cases e1 : o x y with
  | none => rw [e1] at q; exact q.elim
  | some z =>
    intro v3 H3 s3 rz
    have c3 := c2.same s3
    cases e2 : z.b with
    | none => rw [e1] at q; simp only [Option.bind_some, e2] at q; exact q.elim
    | some k =>
      refine ⟨k, rep_b rz e2, ?_⟩
      rw [e1] at q
      simp only [Option.bind_some, e2, of_some, ok_bind] at q
      have t3 := ((t.go f1 c1).go f2 c2).same s3
      have q := q.go (Fut.same s3)
      cases k with
      | true =>
        rw [if_pos rfl] at q ⊢
        simp only [bind_bind] at q
        refine h3 b m2 ow H3 σ e S2 _ t3 (Post.bind q fun z S4 v4 m4 H4 f4 c4 rz q => ?_)
        exact h5 _ rfl c4.full u v4 y z _ (Rep.le ((Fut.same s3).trans f4).le y ry) rz (Post.pz (W := fun c d => W c d σ) (S := S4) (Post.bind q fun z S3 v3 m3 H3 f3 c3 rz q => q.tst c3 rz) c4)
      | false =>
        rw [if_neg Bool.false_ne_true] at q ⊢
        exact ⟨false, rfl, q _ m2 H3 (Fut.refl _ _) c3 rfl⟩
theorem x_callB {id : String} {o : List D → Option D} {es : List Expr} {p : Pos} (hc : CallS K X (.builtin id) o) (hg : Gl X x) (hm : X.mg x = none) (hv : bootBuiltins x = some (.builtin id)) (ha : Ea K X W (ex :: es) a) (hn : x ≠ "__name__" := by decide) (hdb : (x == ("__debug__" : Str)) = false := by decide)
    (he : starEach (ex :: es) X.env = (false, eval ex X.env) :: starEach es X.env := by rfl) (hpl : (backTo pos (starEach es X.env)).any (·.1) = false := by rfl) : Ev K X W (.Call (.Name x p) (ex :: es) [] pos) (eCall o a) := by
  obtain ⟨ta, p1, h1⟩ := ha.run
  obtain ⟨r, p2, h2⟩ := hc.run
  exact ⟨_, pe_callB p2 hg hm hv p1 hn hdb he hpl, fun b m ow H σ e S Q t q => h1 b m ow H σ e S _ t (Post.bind q fun x S1 v m1 H1 f1 c1 rx q => h2 _ rfl c1.full v x Q rx (q.pz c1))⟩
theorem x_callT {T : String} {o : List D → Option D} {es : List Expr} {p : Pos} (hc : CallS K X (.type T) o) (hg : Gl X x) (hm : X.mg x = none) (hv : bootBuiltins x = some (.type T)) (ha : Ea K X W (ex :: es) a) (hn : x ≠ "__name__" := by decide) (hdb : (x == ("__debug__" : Str)) = false := by decide)
    (he : starEach (ex :: es) X.env = (false, eval ex X.env) :: starEach es X.env := by rfl) (hpl : (backTo pos (starEach es X.env)).any (·.1) = false := by rfl) : Ev K X W (.Call (.Name x p) (ex :: es) [] pos) (eCall o a) := by
  obtain ⟨ta, p1, h1⟩ := ha.run
  obtain ⟨r, p2, h2⟩ := hc.run
  exact ⟨_, pe_callTy p2 hg hm hv p1 hn hdb he hpl, fun b m ow H σ e S Q t q => h1 b m ow H σ e S _ t (Post.bind q fun x S1 v m1 H1 f1 c1 rx q => h2 _ rfl c1.full v x Q rx (q.pz c1))⟩
end
end Sh
namespace Sh
open PySem PySem.Spec PyProof.Rows L2 Nk
variable [TabSet] [BasePred]
section
variable {K : PySem.W.Frag} {b : Bs} {m : List Addr} {ow ow2 : List (Option Addr)} {H H' : Hp} {σ : L2.St} {e : En} {S S' : Store} {i : Nat} {v : V} {d : D} {a : Addr} {B : Addr → Prop}
theorem le_ow (h : ∀ a, some a ∈ ow2 → some a ∈ ow) : Le (wo K B m ow H) (wo K B m ow2 H) :=
  ⟨rfl, fun a o _ _ z => by rintro (q | q | q); exact z (.inl q); exact z (.inr (.inl q)); exact z (.inr (.inr (h a q))), fun _ _ e => e, fun _ _ e _ _ => e⟩
theorem mem_set_none {a : Addr} (h : some a ∈ ow.set i none) : ∃ j : Nat, j ≠ i ∧ ow[j]? = some (some a) := by
  obtain ⟨j, hj⟩ := List.mem_iff_getElem?.mp h
  by_cases e : i = j
  · subst e
    by_cases l : i < ow.length
    · rw [List.getElem?_set_self l] at hj; cases hj
    · rw [List.getElem?_eq_none (by simpa using l)] at hj; cases hj
  · rw [List.getElem?_set_ne e] at hj
    exact ⟨j, fun z => e z.symm, hj⟩
theorem Cells.sub (c : Cells K B m ow H S) (h : ∀ a, some a ∈ ow2 → some a ∈ ow) (od : ∀ (i j : Nat) (a : Addr), ow2[i]? = some (some a) → ow2[j]? = some (some a) → i = j) : Cells K B m ow2 H S :=
  ⟨c.hB, c.nd, fun a ha z => c.no a ha (h a z), fun a ha => c.nB a (ha.imp id (h a)), od, fun a z => c.oh a (h a z), c.len, fun n a x h1 h2 => (c.cs n a x h1 h2).le (le_ow h) fun o e _ => e, c.tb, fun a z => c.nt a (z.imp id fun z => z.imp id (h a))⟩
theorem od_none (c : Cells K B m ow H S) : ∀ (j k : Nat) (a : Addr), (ow.set i none)[j]? = some (some a) → (ow.set i none)[k]? = some (some a) → j = k := by
  have f : ∀ (j : Nat) (a : Addr), (ow.set i none)[j]? = some (some a) → ow[j]? = some (some a) := fun j a hj => by
    by_cases e : i = j
    · subst e
      by_cases l : i < ow.length
      · rw [List.getElem?_set_self l] at hj; cases hj
      · rw [List.getElem?_eq_none (by simpa using l)] at hj; cases hj
    · rwa [List.getElem?_set_ne e] at hj
  exact fun j k a hj hk => c.od j k a (f j a hj) (f k a hk)
theorem sub_none : ∀ a, some a ∈ ow.set i none → some a ∈ ow := fun a h => let ⟨j, _, hj⟩ := mem_set_none h; List.mem_of_getElem? hj
theorem set_none_get {ow : List (Option Addr)} {i j : Nat} {a : Addr} (h : (ow.set i none)[j]? = some (some a)) : i ≠ j ∧ ow[j]? = some (some a) := by
  by_cases e1 : i = j
  · subst e1
    by_cases l : i < ow.length
    · rw [List.getElem?_set_self l] at h; cases h
    · rw [List.getElem?_eq_none (by simpa using l)] at h; cases h
  · rw [List.getElem?_set_ne e1] at h
    exact ⟨e1, h⟩
theorem oe_none {s : Sl} (h : ∀ (i : Nat) (a : Addr), ow[i]? = some (some a) → ∃ c, e[i]? = some (Sl.own c)) : ∀ (j : Nat) (a : Addr), (ow.set i none)[j]? = some (some a) → ∃ c, (e.set i s)[j]? = some (Sl.own c) := fun j a hj => by
  obtain ⟨n, hj⟩ := set_none_get hj
  rw [List.getElem?_set_ne n]
  exact h j a hj
def notOwn (i : Nat) (e : En) : Bool := match e[i]? with
  | some (.own _) => false
  | _ => true
theorem sf_set {s : Sl} {u : Option V} (t : At K b m ow H σ e S) (h : notOwn i e = true) : ∀ a, b.sf = some a → (σ.set i u)[0]? = some (some (.ref a)) ∧ ow[0]? = some (some a) ∧ ∃ c fs, (e.set i s)[0]? = some (Sl.own (.ins c fs)) := fun a ha => by
  obtain ⟨h1, h2, c, fs, h3⟩ := t.sf a ha
  have n : i ≠ 0 := fun z => by
    subst z
    unfold notOwn at h
    rw [h3] at h
    cases h
  exact ⟨by rw [List.getElem?_set_ne n]; exact h1, h2, c, fs, by rw [List.getElem?_set_ne n]; exact h3⟩
theorem oe_set {s : Sl} (t : At K b m ow H σ e S) (h : notOwn i e = true) : ∀ (j : Nat) (a : Addr), ow[j]? = some (some a) → ∃ c, (e.set i s)[j]? = some (Sl.own c) := fun j a hj => by
  obtain ⟨c, hc⟩ := t.oe j a hj
  have n : i ≠ j := fun z => by
    subst z
    unfold notOwn at h
    rw [hc] at h
    cases h
  exact ⟨c, by rw [List.getElem?_set_ne n]; exact hc⟩
theorem At.set' (t : At K b m ow H σ e S) (h : notOwn i e = true) (r : Rep (wo K b.B m ow H) d v) : At K b m ow H (σ.set i (some v)) (e.set i (.val d)) S := by
  refine ⟨t.cells, by simpa using t.len, fun j s hs => ?_, t.fut, t.new, oe_set t h, sf_set t h, t.ph⟩
  by_cases e1 : i = j
  · subst e1
    by_cases l : i < e.length
    · rw [List.getElem?_set_self l] at hs
      cases hs
      exact ⟨v, List.getElem?_set_self (by rw [t.len.1]; exact l), r⟩
    · rw [List.getElem?_eq_none (by simpa using l)] at hs; cases hs
  · rw [List.getElem?_set_ne e1] at hs
    have h := t.slots j s hs
    cases s with
    | no => exact True.intro
    | val d' => obtain ⟨u, h1, h2⟩ := h; exact ⟨u, by rw [List.getElem?_set_ne e1]; exact h1, h2⟩
    | own x => obtain ⟨u, h1, h2, h3⟩ := h; exact ⟨u, by rw [List.getElem?_set_ne e1]; exact h1, h2, h3⟩
theorem At.clear' (t : At K b m ow H σ e S) (h : notOwn i e = true) (u : Option V) : At K b m ow H (σ.set i u) (e.set i .no) S := by
  refine ⟨t.cells, by simpa using t.len, fun j s hs => ?_, t.fut, t.new, oe_set t h, sf_set t h, t.ph⟩
  by_cases e1 : i = j
  · subst e1
    by_cases l : i < e.length
    · rw [List.getElem?_set_self l] at hs
      cases hs
      exact True.intro
    · rw [List.getElem?_eq_none (by simpa using l)] at hs; cases hs
  · rw [List.getElem?_set_ne e1] at hs
    have h := t.slots j s hs
    cases s with
    | no => exact True.intro
    | val d' => obtain ⟨u, h1, h2⟩ := h; exact ⟨u, by rw [List.getElem?_set_ne e1]; exact h1, h2⟩
    | own x => obtain ⟨u, h1, h2, h3⟩ := h; exact ⟨u, by rw [List.getElem?_set_ne e1]; exact h1, h2, h3⟩
def Cell.tree : Cell → D
  | .lst ds => .lst ds
  | .ins c fs => .obj c fs
  | .dk kvs => .dk kvs
  | .dt kvs => .dt kvs
  | .fk kvs => .fk kvs
  | .ft kvs => .ft kvs
theorem crep_tree {w : Wo} {c : Cell} (h : CRep w a c) (z : ¬ w.Z a) : Rep w c.tree (.ref a) := by
  cases c with
  | lst ds => obtain ⟨vs, h, l, r⟩ := h; unfold Cell.tree Rep; exact ⟨a, vs, rfl, ⟨z, h, l⟩, r⟩
  | ins c fs => obtain ⟨dx, gs, h, r⟩ := h; unfold Cell.tree Rep; exact ⟨a, dx, gs, rfl, z, h, r⟩
  | dk kvs => obtain ⟨vs, h, r⟩ := h; unfold Cell.tree Rep; exact ⟨a, vs, rfl, z, h, r⟩
  | dt kvs => obtain ⟨vs, h, r⟩ := h; unfold Cell.tree Rep; exact ⟨a, vs, rfl, z, h, r⟩
  | fk kvs => obtain ⟨vs, o, h, r⟩ := h; unfold Cell.tree Rep; exact ⟨a, o, vs, rfl, z, h, r⟩
  | ft kvs => obtain ⟨vs, o, h, r⟩ := h; unfold Cell.tree Rep; exact ⟨a, o, vs, rfl, z, h, r⟩
theorem own_z (c : Cells K B m ow H S) (h : ow[i]? = some (some a)) : ¬ zf B m (ow.set i none) a := by
  rintro (q | q | q)
  · exact c.nB a (.inr (List.mem_of_getElem? h)) q
  · exact c.no a q (List.mem_of_getElem? h)
  · obtain ⟨j, hj, e⟩ := mem_set_none q
    exact hj (c.od j i a e h)
theorem At.frz {c : Cell} (t : At K b m ow H σ e S) (q : e[i]? = some (.own c)) (hc : ∀ k fs, c ≠ .ins k fs) : ∃ ow', At K b m ow' H σ (e.set i (.val c.tree)) S ∧ Le (wo K b.B m ow H) (wo K b.B m ow' H) := by
  obtain ⟨a, h1, h2, h3⟩ := t.slots i _ q
  refine ⟨ow.set i none, ?_, le_ow sub_none⟩
  have h4 : CRep (wo K b.B m (ow.set i none) H) a c := h3.le (le_ow sub_none) fun o e _ => e
  have h5 := crep_tree h4 (own_z t.cells h2)
  refine ⟨t.cells.sub sub_none (od_none t.cells), by simpa using t.len, fun j s hs => ?_, t.fut, fun a ha => t.new a (sub_none a ha), oe_none t.oe, fun x hx => ?_, t.ph⟩
  · by_cases e1 : i = j
    · subst e1
      rw [List.getElem?_set_self (List.getElem?_eq_some_iff.mp q).1] at hs
      cases hs
      exact ⟨_, h1, h5⟩
    · rw [List.getElem?_set_ne e1] at hs
      have h := t.slots j s hs
      cases s with
      | no => exact True.intro
      | val d' => obtain ⟨u, h1, h2⟩ := h; exact ⟨u, h1, Rep.le (le_ow sub_none) d' h2⟩
      | own x => obtain ⟨u, h1, h2, h3⟩ := h; exact ⟨u, h1, by rw [List.getElem?_set_ne e1]; exact h2, h3.le (le_ow sub_none) fun o e _ => e⟩
  · obtain ⟨g1, g2, k, fs, g3⟩ := t.sf x hx
    have n : i ≠ 0 := fun z => by
      subst z
      rw [q] at g3
      exact hc k fs (Sl.own.inj (Option.some.inj g3))
    exact ⟨g1, by rw [List.getElem?_set_ne n]; exact g2, k, fs, by rw [List.getElem?_set_ne n]; exact g3⟩
theorem At.own {c : Cell} (t : At K b m ow H σ e S) (z : ¬ zf b.B m ow a) (h0 : Fr b.H0 a) (cl : Cells K (fun x => b.B x ∨ x = a) m ow H S) (r : CRep (wo K (fun x => b.B x ∨ x = a) m ow H) a c) (sl : ∀ (j : Nat) (s : Sl), j ≠ i → e[j]? = some s → SlR (wo K (fun x => b.B x ∨ x = a) m ow H) σ ow j s) (hi : i < e.length) (hno : notOwn i e = true) :
    At K b m (ow.set i (some a)) H (σ.set i (some (.ref a))) (e.set i (.own c)) S ∧ Le (wo K (fun x => b.B x ∨ x = a) m ow H) (wo K b.B m (ow.set i (some a)) H) := by
  have mem : ∀ x, some x ∈ ow.set i (some a) → x = a ∨ some x ∈ ow := fun x hx => by
    rcases List.mem_or_eq_of_mem_set hx with h | h
    · exact .inr h
    · exact .inl (Option.some.inj h)
  have hio : i < ow.length := by rw [t.len.2]; exact hi
  have get : ∀ (j : Nat) (x : Addr), (ow.set i (some a))[j]? = some (some x) → (j = i ∧ x = a) ∨ (j ≠ i ∧ ow[j]? = some (some x)) := fun j x hx => by
    by_cases e1 : i = j
    · subst e1
      rw [List.getElem?_set_self hio] at hx
      cases hx
      exact .inl ⟨rfl, rfl⟩
    · rw [List.getElem?_set_ne e1] at hx
      exact .inr ⟨fun z => e1 z.symm, hx⟩
  have le : Le (wo K (fun x => b.B x ∨ x = a) m ow H) (wo K b.B m (ow.set i (some a)) H) := ⟨rfl, fun x o _ _ q => by
    rintro (h | h | h)
    · exact q (.inl (.inl h))
    · exact q (.inr (.inl h))
    · rcases mem x h with h | h
      · exact q (.inl (.inr h))
      · exact q (.inr (.inr h)), fun _ _ h => h, fun _ _ h _ _ => h⟩
  refine ⟨⟨⟨fun x hx => cl.hB x (.inl hx), cl.nd, fun x hx q => ?_, fun x hx q => ?_, fun j k x hj hk => ?_, fun x hx => ?_, cl.len, fun n x c h1 h2 => (cl.cs n x c h1 h2).le le fun o e _ => e, cl.tb, fun x z => z.elim (fun h => cl.nt x (.inl (.inl h))) fun h => h.elim (fun h => cl.nt x (.inr (.inl h))) fun h => (mem x h).elim (fun h => cl.nt x (.inl (.inr h))) fun h => cl.nt x (.inr (.inr h))⟩, by simpa using t.len, fun j s hs => ?_, t.fut, fun x hx => ?_, fun j x hj => ?_, fun x hx => ?_, t.ph⟩, le⟩
  · rcases mem x q with q | q
    · subst q; exact z (.inr (.inl hx))
    · exact cl.no x hx q
  · rcases hx with hx | hx
    · exact t.cells.nB x (.inl hx) q
    · rcases mem x hx with h | h
      · subst h; exact z (.inl q)
      · exact t.cells.nB x (.inr h) q
  · rcases get j x hj with ⟨rfl, rfl⟩ | ⟨e1, h1⟩ <;> rcases get k _ hk with ⟨rfl, h⟩ | ⟨e2, h2⟩
    · rfl
    · exact (z (.inr (.inr (List.mem_of_getElem? h2)))).elim
    · subst h; exact (z (.inr (.inr (List.mem_of_getElem? h1)))).elim
    · exact cl.od j k x h1 h2
  · rcases mem x hx with h | h
    · subst h; exact cl.hB x (.inr rfl)
    · exact cl.oh x h
  · by_cases e1 : i = j
    · subst e1
      rw [List.getElem?_set_self hi] at hs
      cases hs
      exact ⟨a, List.getElem?_set_self (by rw [t.len.1]; exact hi), List.getElem?_set_self hio, r.le le fun o e _ => e⟩
    · rw [List.getElem?_set_ne e1] at hs
      have h := sl j s (fun q => e1 q.symm) hs
      cases s with
      | no => exact True.intro
      | val d' => obtain ⟨u, h1, h2⟩ := h; exact ⟨u, by rw [List.getElem?_set_ne e1]; exact h1, Rep.le le d' h2⟩
      | own x => obtain ⟨u, h1, h2, h3⟩ := h; exact ⟨u, by rw [List.getElem?_set_ne e1]; exact h1, by rw [List.getElem?_set_ne e1]; exact h2, h3.le le fun o e _ => e⟩
  · rcases mem x hx with h | h
    · subst h; exact h0
    · exact t.new x h
  · rcases get j x hj with ⟨rfl, _⟩ | ⟨n, h⟩
    · exact ⟨c, List.getElem?_set_self hi⟩
    · rw [List.getElem?_set_ne (fun q => n q.symm)]
      exact t.oe j x h
  · obtain ⟨g1, g2, k, fs, g3⟩ := t.sf x hx
    have n : i ≠ 0 := fun z => by
      subst z
      unfold notOwn at hno
      rw [g3] at hno
      cases hno
    exact ⟨by rw [List.getElem?_set_ne n]; exact g1, by rw [List.getElem?_set_ne n]; exact g2, k, fs, by rw [List.getElem?_set_ne n]; exact g3⟩
theorem At.own_upd {c c' : Cell} (t : At K b m ow H σ e S) (ho : ow[i]? = some (some a)) (he : e[i]? = some (.own c)) (hs : σ[i]? = some (some (.ref a))) (keep : ∀ x o, x ≠ a → H x = some o → H' x = some o) (dom : ∀ x, Fr H' x → Fr H x) (r : CRep (wo K b.B m ow H') a c') (hk : ∀ k fs, c = .ins k fs → ∃ k' fs', c' = .ins k' fs') :
    At K b m ow H' σ (e.set i (.own c')) S ∧ Le (wo K b.B m ow H) (wo K b.B m ow H') := by
  have am : some a ∈ ow := List.mem_of_getElem? ho
  have ho1 : ∃ o, H a = some o ∧ (∀ ps, o ≠ .tbl ps) ∧ ∀ φ, o ≠ .ext φ := by
    obtain ⟨a', g1, g2, g3⟩ := t.slots i _ he
    rw [ho] at g2
    cases g2
    exact g3.some
  have le : Le (wo K b.B m ow H) (wo K b.B m ow H') := ⟨rfl, fun _ _ _ _ h => h, fun _ _ h => h, fun x o h _ z => keep x o (fun q => z (by rw [q]; exact .inr (.inr am))) h⟩
  refine ⟨⟨⟨fun x hx q => t.cells.hB x hx (dom x q), t.cells.nd, t.cells.no, t.cells.nB, t.cells.od, fun x hx q => t.cells.oh x hx (dom x q), t.cells.len, fun n x c h1 h2 => (t.cells.cs n x c h1 h2).le le fun o e _ => keep x o (fun q => t.cells.no x (List.mem_of_getElem? h1) (by rw [q]; exact am)) e, tabs_keep t.cells.tb ho1 keep, fun x z xs hx => if e : x = a then r.noT xs (e ▸ hx) else t.cells.ntK1 keep x z e xs hx⟩, by simpa using t.len, fun j s hj => ?_, ?_, t.new, fun j x hj => ?_, fun x hx => ?_, t.ph⟩, le⟩
  · by_cases e1 : i = j
    · subst e1
      rw [List.getElem?_set_self (List.getElem?_eq_some_iff.mp he).1] at hj
      cases hj
      exact ⟨a, hs, ho, r⟩
    · rw [List.getElem?_set_ne e1] at hj
      have h := t.slots j s hj
      cases s with
      | no => exact True.intro
      | val d' => obtain ⟨u, h1, h2⟩ := h; exact ⟨u, h1, Rep.le le d' h2⟩
      | own x => obtain ⟨u, h1, h2, h3⟩ := h; exact ⟨u, h1, h2, h3.le le fun o e _ => keep u o (fun q => e1 (t.cells.od i j u (by rw [q]; exact ho) h2)) e⟩
  · obtain ⟨pre, kp, dm⟩ := t.fut
    refine ⟨pre, fun x o h n hm => keep x o (fun q => ?_) (kp x o h n hm), fun x h => dm x (dom x h)⟩
    have := t.new a am
    rw [← q] at this
    exact this.no h n
  · by_cases e1 : i = j
    · subst e1
      exact ⟨c', List.getElem?_set_self (List.getElem?_eq_some_iff.mp he).1⟩
    · rw [List.getElem?_set_ne e1]
      exact t.oe j x hj
  · obtain ⟨g1, g2, k, fs, g3⟩ := t.sf x hx
    refine ⟨g1, g2, ?_⟩
    by_cases n : i = 0
    · subst n
      rw [he] at g3
      obtain ⟨k', fs', e'⟩ := hk k fs (Sl.own.inj (Option.some.inj g3))
      exact ⟨k', fs', by rw [List.getElem?_set_self (List.getElem?_eq_some_iff.mp he).1, e']⟩
    · exact ⟨k, fs, by rw [List.getElem?_set_ne n]; exact g3⟩
theorem Cells.put {n : Nat} {c' : Cell} (t : Cells K B m ow H S) (hm : m[n]? = some a) (keep : ∀ x o, x ≠ a → H x = some o → H' x = some o) (dom : ∀ x, Fr H' x → Fr H x) (r : CRep (wo K B m ow H') a c') :
    Cells K B m ow H' (S.set n c') ∧ Fut m H m H' := by
  have am : a ∈ m := List.mem_of_getElem? hm
  have fut : Fut m H m H' := ⟨⟨[], by simp, by simp⟩, fun x o h _ z => keep x o (fun q => z (by rw [q]; exact am)) h, dom⟩
  refine ⟨⟨fun x hx q => t.hB x hx (dom x q), t.nd, t.no, t.nB, t.od, fun x hx q => t.oh x hx (dom x q), by simpa using t.len, fun k x c h1 h2 => ?_, tabs_keep t.tb (t.cs n a _ hm (List.getElem?_eq_getElem (by rw [← t.len]; exact (List.getElem?_eq_some_iff.mp hm).1))).some keep, fun x z xs hx => if e : x = a then r.noT xs (e ▸ hx) else t.ntK1 keep x z e xs hx⟩, fut⟩
  by_cases e1 : n = k
  · subst e1
    rw [hm] at h1
    cases h1
    rw [List.getElem?_set_self (by rw [← t.len]; exact (List.getElem?_eq_some_iff.mp hm).1)] at h2
    cases h2
    exact r
  · rw [List.getElem?_set_ne e1] at h2
    refine (t.cs k x c h1 h2).le fut.le fun o e _ => keep x o (fun q => e1 ?_) e
    subst q
    exact (List.getElem?_inj (List.getElem?_eq_some_iff.mp hm).1 t.nd).mp (hm.trans h1.symm)
end
end Sh
namespace Sh
open PySem PySem.Spec PyProof.Rows L2 Nk
variable [TabSet] [BasePred]
abbrev Tg := D → En → Option En
def gN (i : Nat) (d : D) (e : En) : Option En := if notOwn i e then some (e.set i (.val d)) else none
def gsNil (ds : List D) (e : En) : Option En := match ds with
  | [] => some e
  | _ => none
def gsCons (g : Tg) (gs : List D → En → Option En) (ds : List D) (e : En) : Option En := match ds with
  | d :: ds => (g d e).bind (gs ds)
  | [] => none
def gT (gs : List D → En → Option En) (d : D) (e : En) : Option En := match d with
  | .tup ds => gs ds e
  | _ => none
def ItR (w : Wo) (ds : List D) (J : It) : Prop := ∃ (G : Hp → Prop) (Y : Nat → Hp → V → Hp → Prop), Walk J ds.length G Y ∧ (∀ w', Le w w' → G w'.H) ∧ ∀ i d w' v H', ds[i]? = some d → Le w w' → w'.Full → Y i w'.H v H' → Same w'.H H' ∧ Rep (w'.at H') d v
section
variable (K : PySem.W.Frag) (X : Cx) (W : WX)
structure Eg (us : List Nat) (tg : Expr) (g : Tg) : Prop where
  run : ∃ t, PG X tg t ∧ ∀ b m ow H σ e S d v (N : L2.St → Hp → Prop), At K b m ow H σ e S → Rep (wo K b.B m ow H) d v → (match g d e with
    | some e' => ∀ σ', At K b m ow H σ' e' S → wipe σ' us = wipe σ us → N σ' H
    | none => False) → t v σ H N
structure Egs (us : List Nat) (tg : List Expr) (g : List D → En → Option En) : Prop where
  run : ∃ t, PGs X tg t ∧ ∀ b m ow H σ e S ds vs (N : L2.St → Hp → Prop), At K b m ow H σ e S → Reps (wo K b.B m ow H) ds vs → (match g ds e with
    | some e' => ∀ σ', At K b m ow H σ' e' S → wipe σ' us = wipe σ us → N σ' H
    | none => False) → t vs σ H N
structure Ei (tg iter : Expr) (f : Sx (List D)) : Prop where
  run : ∃ wi, PI X tg iter wi ∧ ∀ b m ow H σ e S Q, At K b m ow H σ e S → Post K b.B ow m H ItR (fun c d => W c d σ) Q (f e S) → wi σ H Q
end
def sSeq (f g : Sy) (e : En) (S : Store) : RS := (f e S).seq g
def sNil (e : En) (S : Store) : RS := .nx e S
def sSet (i : Nat) (f : Sx D) (e : En) (S : Store) : RS := (f e S).run e fun d S1 => if notOwn i e then .nx (e.set i (.val d)) S1 else .no
def sDrop (f : Sx D) (e : En) (S : Store) : RS := (f e S).run e fun _ S1 => .nx e S1
def sRet (f : Sx D) (e : En) (S : Store) : RS := (f e S).run e fun d S1 => .rt d S1
def sIf (t : Sx Bool) (f g : Sy) (e : En) (S : Store) : RS := (t e S).run e fun b S1 => if b then f e S1 else g e S1
def RS.turn (r : RS) (k : En → Store → RS) : RS := match r with
  | .nx e S => k e S
  | .ct e S => k e S
  | .bk e S => .nx e S
  | r => r
@[simp] theorem turn_nx {e : En} {S : Store} {k : En → Store → RS} : (RS.nx e S).turn k = k e S := rfl
@[simp] theorem turn_ct {e : En} {S : Store} {k : En → Store → RS} : (RS.ct e S).turn k = k e S := rfl
@[simp] theorem turn_bk {e : En} {S : Store} {k : En → Store → RS} : (RS.bk e S).turn k = .nx e S := rfl
@[simp] theorem turn_rt {d : D} {S : Store} {k : En → Store → RS} : (RS.rt d S).turn k = .rt d S := rfl
@[simp] theorem turn_er {x : Exn} {e : En} {S : Store} {k : En → Store → RS} : (RS.er x e S).turn k = .er x e S := rfl
@[simp] theorem turn_no {k : En → Store → RS} : RS.no.turn k = .no := rfl
@[simp] theorem ite_turn {c : Prop} [Decidable c] {r s : RS} {k : En → Store → RS} : (if c then r else s).turn k = if c then r.turn k else s.turn k := by split <;> rfl
@[simp] theorem run_turn {α : Type} {r : R α} {e : En} {k : α → Store → RS} {g : En → Store → RS} : (r.run e k).turn g = r.run e fun a S => (k a S).turn g := by cases r <;> rfl
def forD (g : Tg) (body : Sy) : List D → Sy
  | [], e, S => .nx e S
  | d :: ds, e, S => match g d e with
    | none => .no
    | some e1 => (body e1 S).turn (forD g body ds)
def sFor (it : Sx (List D)) (g : Tg) (body : Sy) (e : En) (S : Store) : RS := (it e S).run e fun ds S1 => forD g body ds e S1
def whileD (t : Sx Bool) (body : Sy) : Nat → Sy
  | 0, _, _ => .no
  | n + 1, e, S => (t e S).run e fun c S1 => if c then (body e S1).turn (whileD t body n) else .nx e S1
def sWhile (n : Nat) (t : Sx Bool) (body : Sy) : Sy := whileD t body n
section
variable {K : PySem.W.Frag} {X : Cx} {W : WX} {ex ex2 tg iter : Expr} {st : Stmt} {rest body body2 : List Stmt} {f : Sx D} {t : Sx Bool} {a : Sx (List D)} {p q : Sy} {g : Tg} {gs : List D → En → Option En} {pos pos' : Pos} {i : Nat} {x : Str}
theorem ss_nil : Ess K X W [] sNil := ⟨_, pss_nil, fun b m ow H σ e S D t q => q _ m ow H t (Le.refl _)⟩
theorem ss_cons (h : Es K X W st p) (g : Ess K X W rest q) : Ess K X W (st :: rest) (sSeq p q) := by
  obtain ⟨ts, p1, h1⟩ := h.run
  obtain ⟨tu, p2, h2⟩ := g.run
  refine ⟨_, pss_cons p1 p2, fun b m ow H σ e S D t z => h1 b m ow H σ e S _ t ?_⟩
  unfold sSeq at z
  cases r : p e S with
  | nx e' S' => rw [r] at z; exact fun σ' m' ow' H' t' l => h2 b m' ow' H' σ' e' S' D t' (PostS.le z l)
  | rt d S' => rw [r] at z; exact z
  | bk e' S' => rw [r] at z; exact z
  | ct e' S' => rw [r] at z; exact z
  | er x e' S' => rw [r] at z; exact z
  | no => rw [r] at z; exact z.elim
theorem ss_one (h : Es K X W st p) : Ess K X W [st] p := by
  obtain ⟨ts, p1, h1⟩ := h.run
  exact ⟨_, pss_one p1, h1⟩
theorem s_set {pos' : Pos} (hN : X.N.Nodup) (hi : X.N[i]? = some x) (hx : Loc X.env.scope x) (hf : Ev K X W ex f) (hs : swapsWith ex (some (.Name x pos')) pos.line X.env = pure false := by rfl) (hfn : X.fn x = true ∨ X.env.scope.names.lookup x = some .local := by first | exact .inl rfl | exact .inr rfl | assumption) : Es K X W (.Assign [.Name x pos'] ex pos) (sSet i f) := by
  obtain ⟨ta, p1, h1⟩ := hf.run
  refine ⟨_, ps_set hN hi hx p1 hs hfn, fun b m ow H σ e S D t z => h1 b m ow H σ e S _ t (PostS.run t z fun d S' v m' H' t' f' r z => ?_)⟩
  split at z
  · exact z _ m' _ H' (t'.set' (by assumption) r) (Le.refl _)
  · exact z.elim
theorem wipe_get {σ : L2.St} {j : Nat} : ∀ {us : List Nat}, (wipe σ us)[j]? = if j ∈ us ∧ j < σ.length then some none else σ[j]?
  | [] => by simp [wipe]
  | v :: us => by
    unfold wipe
    by_cases e : v = j
    · subst e
      by_cases l : v < σ.length
      · rw [List.getElem?_set_self (by rw [wipe_length]; exact l), if_pos ⟨List.mem_cons_self, l⟩]
      · rw [List.getElem?_eq_none (by rw [List.length_set, wipe_length]; omega), if_neg (fun h => l h.2), List.getElem?_eq_none (by omega)]
    · rw [List.getElem?_set_ne e, wipe_get]
      have : (j ∈ v :: us) ↔ j ∈ us := by simp only [List.mem_cons]; exact ⟨fun h => h.elim (fun q => absurd q.symm e) id, .inr⟩
      simp only [this]
theorem wipe_set {σ : L2.St} {u : Option V} {us : List Nat} (h : i ∈ us) : wipe (σ.set i u) us = wipe σ us := by
  refine List.ext_getElem? fun j => ?_
  rw [wipe_get, wipe_get, List.length_set]
  by_cases c : j ∈ us ∧ j < σ.length
  · rw [if_pos c, if_pos c]
  · rw [if_neg c, if_neg c]
    by_cases e : i = j
    · subst e
      have l : ¬ i < σ.length := fun q => c ⟨h, q⟩
      rw [List.getElem?_eq_none (by rw [List.length_set]; omega), List.getElem?_eq_none (by omega)]
    · rw [List.getElem?_set_ne e]
variable {us : List Nat}
theorem g_name (hN : X.N.Nodup) (hi : X.N[i]? = some x) (hx : Loc X.env.scope x) (hu : i ∈ us := by decide) (hf : X.fn x = true ∨ X.env.scope.names.lookup x = some .local := by first | exact .inl rfl | exact .inr rfl | assumption) : Eg K X us (.Name x pos) (gN i) := by
  refine ⟨_, pg_name hN hi hx hf, fun b m ow H σ e S d v N t r z => ?_⟩
  unfold gN at z
  by_cases h : notOwn i e = true
  · rw [if_pos h] at z
    exact z _ (t.set' h r) (wipe_set hu)
  · rw [if_neg h] at z
    exact z.elim
theorem gs_nil : Egs K X us [] gsNil := by
  refine ⟨gNil, ⟨?_⟩, fun b m ow H σ e S ds vs N t r z => ?_⟩
  · exact (pgs_nil (X := X)).run
  · cases ds with
    | nil => unfold Reps at r; subst r; exact ⟨rfl, z σ t rfl⟩
    | cons d ds => exact z.elim
theorem gs_cons {e2 : List Expr} (h : Eg K X us ex g) (k : Egs K X us e2 gs) (hs : (assignEach (ex :: e2) X.env).map (·.2) = assign ex X.env :: (assignEach e2 X.env).map (·.2) := by rfl) : Egs K X us (ex :: e2) (gsCons g gs) := by
  obtain ⟨t1, p1, h1⟩ := h.run
  obtain ⟨t2, p2, h2⟩ := k.run
  refine ⟨_, pgs_cons p1 p2 hs, fun b m ow H σ e S ds vs N t r z => ?_⟩
  cases ds with
  | nil => exact z.elim
  | cons d ds =>
    unfold Reps at r
    obtain ⟨v, vr, rfl, r1, r2⟩ := r
    refine ⟨v, vr, rfl, h1 b m ow H σ e S d v _ t r1 ?_⟩
    unfold gsCons at z
    simp only at z
    cases q : g d e with
    | none => rw [q] at z; exact z.elim
    | some e1 =>
      rw [q] at z
      refine fun σ' t' l => h2 b m ow H σ' e1 S ds vr N t' r2 ?_
      simp only [Option.bind_some] at z
      cases q2 : gs ds e1 with
      | none => rw [q2] at z; exact z.elim
      | some e2 => rw [q2] at z; exact fun σ2 t2 l2 => z σ2 t2 (l2.trans l)
def GLen (gs : List D → En → Option En) (n : Nat) : Prop := ∀ ds e e', gs ds e = some e' → ds.length = n
theorem gl_nil : GLen gsNil 0 := fun ds e e' h => by cases ds with
  | nil => rfl
  | cons d ds => cases h
theorem gl_cons {n : Nat} (h : GLen gs n) : GLen (gsCons g gs) (n + 1) := fun ds e e' q => by
  cases ds with
  | nil => cases q
  | cons d ds =>
    unfold gsCons at q
    dsimp only at q
    cases z : g d e with
    | none => rw [z] at q; cases q
    | some e1 => rw [z] at q; rw [List.length_cons, h ds e1 e' q]
theorem g_tup {es : List Expr} {k : Nat} {n : Nat} (hK : X.K = K) (hc : X.calm = true) (h : Egs K X us es gs) (hg : GLen gs n) (hn : (assignEach es X.env).length = n := by rfl) (hst : (assignEach es X.env).findIdx? (·.1) = none := by rfl) : Eg K X us (.Tuple es k pos) (gT gs) := by
  subst hK
  obtain ⟨t1, p1, h1⟩ := h.run
  refine ⟨_, pg_tup hc p1 hn hst, fun b m ow H σ e S d v N t r z => ?_⟩
  cases d <;> try exact z.elim
  rename_i ds
  unfold Rep at r
  obtain ⟨a, vs, rfl, tr, r⟩ := r
  cases q : gs ds e with
  | none => simp only [gT, q] at z
  | some e' =>
    refine ⟨a, vs, rfl, tr.sq, by rw [reps_len r]; exact hg _ _ _ q, h1 b m ow H σ e S ds vs N t r ?_⟩
    simp only [gT, q] at z ⊢
    exact z
theorem s_expr (hf : Ev K X W ex f) (hs : swapsWith ex none pos.line X.env = pure false := by rfl) : Es K X W (.Expr ex pos) (sDrop f) := by
  obtain ⟨ta, p1, h1⟩ := hf.run
  exact ⟨_, ps_expr p1 hs, fun b m ow H σ e S D t z => h1 b m ow H σ e S _ t (PostS.run t z fun d S' v m' H' t' f' r z => z σ m' ow H' t' (Le.refl _))⟩
theorem s_ret (hf : Ev K X W ex f) : Es K X W (.Return (some ex) pos) (sRet f) := by
  obtain ⟨ta, p1, h1⟩ := hf.run
  exact ⟨_, ps_ret p1, fun b m ow H σ e S D t z => h1 b m ow H σ e S _ t (PostS.run t z fun d S' v m' H' t' f' r z => z v m' ow H' t'.cells t'.fut t'.new r)⟩
theorem s_if (ht : Et K X W ex t) (h1 : Ess K X W body p) (h2 : Ess K X W body2 q) : Es K X W (.If ex body body2 pos) (sIf t p q) := by
  obtain ⟨tt, p0, h0⟩ := ht.run
  obtain ⟨t1, p1, h1⟩ := h1.run
  obtain ⟨t2, p2, h2⟩ := h2.run
  refine ⟨_, ps_if p0 p1 p2, fun b m ow H σ e S D t z => h0 b m ow H σ e S _ t (PostS.run t z fun c S' v m' H' t' f' r z => ?_)⟩
  obtain rfl : v = c := r
  cases v with
  | true => rw [if_pos rfl] at z ⊢; exact h1 b m' ow H' σ e S' D t' z
  | false => rw [if_neg Bool.false_ne_true] at z ⊢; exact h2 b m' ow H' σ e S' D t' z
theorem turn_post {b : Bs} {w : Wo} {D : Ends} {r : RS} {k : En → Store → RS} {N : L2.St → Hp → Prop} (z : PostS K b w W D (r.turn k))
    (h : ∀ e' S' σ' m' ow' H', At K b m' ow' H' σ' e' S' → Le w (wo K b.B m' ow' H') → PostS K b (wo K b.B m' ow' H') W D (k e' S') → N σ' H') : PostS K b w W { D with nx := N, ct := N, bk := D.nx } r := by
  cases r with
  | nx e' S' => exact fun σ' m' ow' H' t l => h e' S' σ' m' ow' H' t l (PostS.le z l)
  | ct e' S' => exact fun σ' m' ow' H' t l => h e' S' σ' m' ow' H' t l (PostS.le z l)
  | bk e' S' => exact z
  | rt d S' => exact z
  | er x e' S' => exact z
  | no => exact z
theorem s_for {us : List Nat} {it : Sx (List D)} (hp : PassesOwn (model X.prog X.w) X.A X.env X.xe) (hc : X.calm = true) (hi : Ei K X W tg iter it) (hg : Eg K X us tg g) (hb : Ess K X W body p) (hs : ∀ x, foldedSetIterable iter X.env x = pure x := by intro _; rfl) : Es K X W (.For tg iter body [] pos) (sFor it g p) := by
  obtain ⟨wi, p0, h0⟩ := hi.run
  obtain ⟨tg', p1, h1⟩ := hg.run
  obtain ⟨tb, p2, h2⟩ := hb.run
  refine ⟨_, ps_for hp hc p0 p1 p2 hs, fun b m ow H σ e S D t z => h0 b m ow H σ e S _ t (PostS.run t z fun ds S1 J m1 H1 t1 f1 r z => ?_)⟩
  obtain ⟨G, Y, wk, hG, hY⟩ := r
  refine for_it wk (fun i σ' H' => ∃ m' ow' e' S', At K b m' ow' H' σ' e' S' ∧ Le (wo K b.B m1 ow H1) (wo K b.B m' ow' H') ∧ PostS K b (wo K b.B m' ow' H') W D (forD g p (ds.drop i) e' S')) ⟨m1, ow, e, S1, t1, Le.refl _, z⟩ (fun i σ' H' _ ⟨m', ow', e', S', _, l, _⟩ => hG _ l) ?_ ?_
  · rintro i v σ' H' H2 hi ⟨m', ow', e', S', t', l, z⟩ y
    have hd : ds[i]? = some ds[i] := List.getElem?_eq_getElem hi
    obtain ⟨s, r⟩ := hY i ds[i] _ v H2 hd l t'.cells.full y
    rw [List.drop_eq_getElem_cons hi] at z
    have l2 : Le (wo K b.B m' ow' H') (wo K b.B m' ow' H2) := (Fut.same s).le
    refine h1 b m' ow' H2 σ' e' S' ds[i] v _ (t'.same s) r ?_
    unfold forD at z
    cases q : g ds[i] e' with
    | none => rw [q] at z; exact z.elim
    | some e1 =>
      rw [q] at z
      refine fun σ2 t2 l3 => h2 b m' ow' H2 σ2 e1 S' _ t2 ?_
      exact turn_post (PostS.le z l2) fun e3 S3 σ3 m3 ow3 H3 t3 l4 z => ⟨m3, ow3, e3, S3, t3, l.trans (l2.trans l4), z⟩
  · rintro σ' H' ⟨m', ow', e', S', t', l, z⟩
    rw [List.drop_length] at z
    exact z σ' m' ow' H' t' (Le.refl _)
theorem s_while (n : Nat) (hp : PassesOwn (model X.prog X.w) X.A X.env X.xe) (ht : Et K X W ex t) (hb : Ess K X W body p) : Es K X W (.While ex body [] pos) (sWhile n t p) := by
  obtain ⟨tt, p0, h0⟩ := ht.run
  obtain ⟨tb, p2, h2⟩ := hb.run
  refine ⟨_, ps_while hp p0 p2, fun b m ow H σ e S D t' z => ?_⟩
  refine ⟨fun n σ' H' => ∃ m' ow' e' S', At K b m' ow' H' σ' e' S' ∧ PostS K b (wo K b.B m' ow' H') W D (whileD t p n e' S'), ⟨n, m, ow, e, S, t', z⟩, ?_⟩
  rintro k σ' H' ⟨m', ow', e', S', t1, z⟩
  cases k with
  | zero => exact z.elim
  | succ k =>
    unfold whileD at z
    refine h0 b m' ow' H' σ' e' S' _ t1 (PostS.run t1 z fun c S2 v m2 H2 t2 f2 r z => ?_)
    obtain rfl : v = c := r
    cases v with
    | true =>
      rw [if_pos rfl] at z ⊢
      refine ⟨fun σ3 H3 => ∃ m3 ow3 e3 S3, At K b m3 ow3 H3 σ3 e3 S3 ∧ PostS K b (wo K b.B m3 ow3 H3) W D (whileD t p k e3 S3), fun σ3 H3 h => ⟨k, Nat.lt_succ_self k, h⟩, h2 b m2 ow' H2 σ' e' S2 _ t2 ?_⟩
      exact turn_post z fun e3 S3 σ3 m3 ow3 H3 t3 l z => ⟨m3, ow3, e3, S3, t3, z⟩
    | false =>
      rw [if_neg Bool.false_ne_true] at z ⊢
      exact z σ' m2 ow' H2 t2 (Le.refl _)
end
end Sh
namespace Sh
open PySem PySem.Spec PyProof.Rows L2 Nk
variable [TabSet] [BasePred]
def D.items : D → Option (List D)
  | .lst ds => some ds
  | .tup ds => some ds
  | .str z => some (z.cps.toList.map fun c => .str ⟨#[c]⟩)
  | _ => none
def iSq (f : Sx D) (e : En) (S : Store) : R (List D) := (f e S).bind fun x S1 => R.of S1 x.items
def okR (n : Int) : Bool := match n with
  | .ofNat k => Nat.ble k 4611686018427387903
  | .negSucc k => Nat.ble k 4611686018427387903
theorem of_okR {n : Int} (h : okR n = true) : -(2 ^ 62) ≤ n ∧ n < 2 ^ 62 := by
  cases n with
  | ofNat k =>
    have h2 : k ≤ 4611686018427387903 := Nat.le_of_ble_eq_true h
    exact ⟨by simp only [Int.ofNat_eq_natCast]; omega, by simp only [Int.ofNat_eq_natCast]; omega⟩
  | negSucc k => 
    have h2 : k ≤ 4611686018427387903 := Nat.le_of_ble_eq_true h
    exact ⟨by rw [Int.negSucc_eq]; omega, by rw [Int.negSucc_eq]; omega⟩
theorem okR_of {n : Int} (h : -(2 ^ 62) ≤ n) (h2 : n < 2 ^ 62) : okR n = true := by
  cases n with
  | ofNat k =>
    simp only [Int.ofNat_eq_natCast] at h2
    exact Nat.ble_eq_true_of_le (by omega)
  | negSucc k => 
    rw [Int.negSucc_eq] at h
    exact Nat.ble_eq_true_of_le (by omega)
def iRng1 (a : Sx (List D)) (e : En) (S : Store) : R (List D) := (a e S).bind fun xs S1 => match xs with
  | [.int j] => if okR j = true then .ok ((List.range j.toNat).map fun i => .int (i : Nat)) S1 else .no
  | _ => .no
def D.seq : D → Option (List D)
  | .lst ds => some ds
  | .tup ds => some ds
  | _ => none
section
variable {w : Wo}
theorem itr_list {ds : List D} {a : Addr} {vs : List V} (t : TrL w a vs) (r : Reps w ds vs) : ItR w ds (Itl w.K a) := by
  refine ⟨_, _, (reps_len r) ▸ walk_list (K := w.K) (a := a) (xs := vs), fun w' l => l.K ▸ (t.le l).sq, fun i d w' v H' hd l _ y => ?_⟩
  obtain ⟨rfl, hv⟩ := y
  obtain ⟨u, hu, ru⟩ := reps_get r hd
  rw [hv] at hu
  cases hu
  exact ⟨Same.refl _, Rep.le l d ru⟩
theorem itr_tup {ds : List D} {a : Addr} {vs : List V} (t : TrT w a vs) (r : Reps w ds vs) : ItR w ds (Itt w.K a) := by
  refine ⟨_, _, (reps_len r) ▸ walk_tup (K := w.K) (a := a) (xs := vs), fun w' l => l.K ▸ (t.le l).sq, fun i d w' v H' hd l _ y => ?_⟩
  obtain ⟨rfl, hv⟩ := y
  obtain ⟨u, hu, ru⟩ := reps_get r hd
  rw [hv] at hu
  cases hu
  exact ⟨Same.refl _, Rep.le l d ru⟩
theorem itr_str {z : Str} : ItR w (z.cps.toList.map fun c => D.str ⟨#[c]⟩) (Its z) := by
  have e : z.cps.size = (z.cps.toList.map fun c => D.str ⟨#[c]⟩).length := by simp
  refine ⟨_, _, e ▸ walk_str (z := z), fun w' l => True.intro, fun i d w' v H' hd l _ y => ?_⟩
  obtain ⟨rfl, c, hc, rfl⟩ := y
  simp only [List.getElem?_map, Array.getElem?_toList, hc, Option.map_some] at hd
  cases hd
  exact ⟨Same.refl _, rep_str (show (1 : Nat) ≤ sizeLine by decide)⟩
theorem itr_rng {lo : Int} {n : Nat} : ItR w ((List.range n).map fun (i : Nat) => D.int (lo + (i : Nat))) (Itr lo n) := by
  have e : n = ((List.range n).map fun (i : Nat) => D.int (lo + (i : Nat))).length := by simp
  refine ⟨_, _, cast (by rw [← e]) (walk_range (lo := lo) (n := n)), fun w' l => True.intro, fun i d w' v H' hd l _ y => ?_⟩
  obtain ⟨rfl, rfl⟩ := y
  have hi : i < n := by
    have := (List.getElem?_eq_some_iff.mp hd).1
    simpa using this
  simp only [List.getElem?_map, List.getElem?_range hi, Option.map_some] at hd
  cases hd
  exact ⟨Same.refl _, rep_int⟩
end
section
variable {K : PySem.W.Frag} {X : Cx} {W : WX} {ex ex2 tg iter : Expr} {f : Sx D} {t : Sx Bool} {a : Sx (List D)} {g : Tg} {pos p : Pos} {i : Nat} {x : Str}
theorem pi_alt {wi wj : TI} (h1 : PI X tg iter wi) (h2 : PI X tg iter wj) : PI X tg iter (fun σ H R => wi σ H R ∨ wj σ H R) := ⟨fun pins s σ H R I h => h.elim (h1.run pins s σ H R I) (h2.run pins s σ H R I)⟩
theorem i_seq (hK : X.K = K) (hf : Ev K X W iter f) : Ei K X W tg iter (iSq f) := by
  subst hK
  obtain ⟨ta, p1, h1⟩ := hf.run
  refine ⟨_, pi_alt (pi_list p1) (pi_alt (pi_tup p1) (pi_str p1)), fun b m ow H σ e S Q t q => ?_⟩
  unfold iSq at q
  cases r : f e S with
  | no => rw [r] at q; exact q.elim
  | er x S1 =>
    rw [r] at q
    refine .inl (h1 b m ow H σ e S _ t ?_)
    rw [r]
    exact q
  | ok x S1 =>
    rw [r] at q
    cases x <;> try exact q.elim
    · rename_i z
      refine .inr (.inr (h1 b m ow H σ e S _ t ?_))
      rw [r]
      intro v m1 H1 f1 c1 rx
      unfold Rep at rx
      obtain ⟨rfl, _⟩ := rx
      exact ⟨z, rfl, q _ m1 H1 f1 c1 itr_str⟩
    · rename_i ds
      refine .inr (.inl (h1 b m ow H σ e S _ t ?_))
      rw [r]
      intro v m1 H1 f1 c1 rx
      unfold Rep at rx
      obtain ⟨a, vs, rfl, tr, r⟩ := rx
      exact ⟨a, rfl, ⟨vs, tr.sq⟩, q _ m1 H1 f1 c1 (itr_tup tr r)⟩
    · rename_i ds
      refine .inl (h1 b m ow H σ e S _ t ?_)
      rw [r]
      intro v m1 H1 f1 c1 rx
      unfold Rep at rx
      obtain ⟨a, vs, rfl, tr, r⟩ := rx
      exact ⟨a, rfl, ⟨vs, tr.sq⟩, q _ m1 H1 f1 c1 (itr_list tr r)⟩
theorem i_rng1 (hg : Gl X "range") (hm : X.mg "range" = none) (ha : Ea K X W [ex] a) (hs : starEach [ex] X.env = [(false, eval ex X.env)] := by rfl) : Ei K X W tg (.Call (.Name "range" p) [ex] [] pos) (iRng1 a) := by
  obtain ⟨ta, p1, h1⟩ := ha.run
  refine ⟨_, pi_range1 hg hm p1 hs, fun b m ow H σ e S Q t q => h1 b m ow H σ e S _ t (Post.bind q fun xs S1 vs m1 H1 f1 c1 rx q => ?_)⟩
  split at q
  · rename_i j
    unfold Reps at rx
    obtain ⟨v, r, rfl, r1, r2⟩ := rx
    unfold Reps at r2
    unfold Rep at r1
    subst r1 r2
    split at q
    · rename_i hc
      refine ⟨j, rfl, (of_okR hc).1, (of_okR hc).2, q _ m1 H1 (Fut.refl _ _) c1 ?_⟩
      have := itr_rng (w := wo K b.B m1 ow H1) (lo := 0) (n := j.toNat)
      simpa using this
    · exact q.elim
  · exact q.elim
end
section
variable (K : PySem.W.Frag) (B : Addr → Prop) (ow : List (Option Addr))
def PostF (m : List Addr) (H : Hp) (W : Value → Option Addr → Hp → Prop) (Q : VK) : R (List D) → Prop
  | .ok ds S' => ∀ p vs m' H', Fut m H m' H' → Fr H p → Cells K (fun x => B x ∨ x = p) m' ow H' S' → ¬ zf B m' ow p → H' p = some (.lst vs) → vs.length ≤ sizeLine → Reps (wo K (fun x => B x ∨ x = p) m' ow H') ds vs → Q (.ref p) H'
  | .er x S' => ∀ c d m' H', Fut m H m' H' → Cells K B m' ow H' S' → ExR (wo K B m' ow H') x c d → W c d H'
  | .no => False
end
structure Ef (K : PySem.W.Frag) (X : Cx) (W : WX) (ex : Expr) (f : Sx (List D)) : Prop where
  run : ∃ te, PE X ex te ∧ ∀ b m ow H σ e S Q, At K b m ow H σ e S → PostF K b.B ow m H (fun c d => W c d σ) Q (f e S) → te σ H Q
section
variable {K : PySem.W.Frag} {B : Addr → Prop} {ow : List (Option Addr)} {m m' : List Addr} {H H' : Hp} {S : Store} {p : Addr}
theorem le_hid : Le (wo K (fun x => B x ∨ x = p) m ow H) (wo K B m ow H) := ⟨rfl, fun a o _ _ z => by
  rintro (q | q | q)
  · exact z (.inl (.inl q))
  · exact z (.inr (.inl q))
  · exact z (.inr (.inr q)), fun _ _ e => e, fun _ _ e _ _ => e⟩
theorem Cells.unhide (c : Cells K (fun x => B x ∨ x = p) m ow H S) : Cells K B m ow H S :=
  ⟨fun a h => c.hB a (.inl h), c.nd, c.no, fun a h q => c.nB a h (.inl q), c.od, c.oh, c.len, fun n a x h1 h2 => (c.cs n a x h1 h2).le le_hid fun o e _ => e, c.tb, fun a z => c.nt a (z.imp .inl id)⟩
theorem le_hide {o : HO} (hp : H p = none) : Le (wo K B m ow H) (wo K (fun x => B x ∨ x = p) m ow (upd H p o)) := ⟨rfl, fun a u e _ z => by
  rintro ((q | q) | q | q)
  · exact z (.inl q)
  · have e : H a = some u := e
    rw [q, hp] at e
    cases e
  · exact z (.inr (.inl q))
  · exact z (.inr (.inr q)), fun _ _ e => e, fun a u e _ _ => by
    show upd H p o a = some u
    rw [upd_ne (ne_of_none e hp)]
    exact e⟩
theorem Cells.hide {o : HO} (c : Cells K B m ow H S) (hp : H p = none) (hf : ¬ zf B m ow p) (ho : ∀ ps, o ≠ .tbl ps) (hto : ∀ xs, o ≠ .tup xs := by intro _ z; cases z) : Cells K (fun x => B x ∨ x = p) m ow (upd H p o) S := by
  have s : Same H (upd H p o) := same_mut (Same.refl _) hp
  refine ⟨fun a h q => ?_, c.nd, c.no, fun a h q => ?_, c.od, fun a h q => c.oh a h (q.same s), c.len, fun n a x h1 h2 => (c.cs n a x h1 h2).le (le_hide hp) fun o e _ => s _ _ e, c.tb.ext s, fun a z xs hx => if e : a = p then hto xs (by rw [e, upd_same] at hx; exact Option.some.inj hx) else c.ntK (fun x u h _ _ => s x u h) a (z.elim (fun h => h.elim .inl fun h => (e h).elim) .inr) xs hx⟩
  · rcases h with h | h
    · exact c.hB a h (q.same s)
    · exact (h ▸ q : Fr _ p).no upd_same ho
  · rcases q with q | q
    · exact c.nB a h q
    · subst q; exact hf (.inr h)
theorem PostF.go {W : Value → Option Addr → Hp → Prop} {Q : VK} {r : R (List D)} (h : PostF K B ow m H W Q r) (f : Fut m H m' H') : PostF K B ow m' H' W Q r := by
  cases r with
  | ok y S' => exact fun p vs m2 H2 f2 hp => h p vs m2 H2 (f.trans f2) (f.dom p hp)
  | er x S' => exact fun c d m2 H2 f2 => h c d m2 H2 (f.trans f2)
  | no => exact h
theorem PostF.new {W : Value → Option Addr → Hp → Prop} {Q : VK} {ds : List D} {vs : List V} (h : PostF K B ow m H W Q (.ok ds S)) (c : Cells K B m ow H S) (r : Reps (wo K B m ow H) ds vs) (hl : vs.length ≤ sizeLine) (hp : H p = none) : Q (.ref p) (upd H p (.lst vs)) := by
  have hf : ¬ zf B m ow p := fun z => c.full p z (.none hp)
  exact h p vs m _ (Fut.same (same_mut (Same.refl _) hp)) (.none hp) (c.hide hp hf fun _ z => by cases z) hf upd_same hl (Reps.le (le_hide hp) ds r)
end
def eNew (f : Sx (List D)) (e : En) (S : Store) : R D := (f e S).bind fun ds S1 => .ok (.lst ds) S1
def mapA (g : Tg) (t : Sx Bool) (f : Sx D) : List D → List D → En → Store → R (List D)
  | acc, [], _, S => .ok acc S
  | acc, d :: ds, e, S => match g d e with
    | none => .no
    | some e1 => (t e1 S).bind fun c S1 => if c then (f e1 S1).bind fun y S2 => mapA g t f (acc ++ [y]) ds e S2 else mapA g t f acc ds e S1
def clr : List Nat → En → En
  | [], e => e
  | v :: vs, e => (clr vs e).set v .no
def R.clean {α : Type} : R α → R α
  | .ok a S => .ok a S
  | _ => .no
@[simp] theorem clean_ok {α : Type} {a : α} {S : Store} : (R.ok a S).clean = .ok a S := rfl
@[simp] theorem clean_er {α : Type} {x : Exn} {S : Store} : (R.er x S : R α).clean = .no := rfl
@[simp] theorem clean_no {α : Type} : (R.no : R α).clean = .no := rfl
def lComp (vs : List Nat) (it : Sx (List D)) (g : Tg) (t : Sx Bool) (f : Sx D) (e : En) (S : Store) : R (List D) := (it e S).bind fun ds S1 => if ds.length ≤ sizeLine ∧ vs.all (fun v => notOwn v e) = true then (mapA g t f [] ds (clr vs e) S1).clean else .no
def tYesD (_ : En) (S : Store) : R Bool := .ok true S
structure Ets (K : PySem.W.Frag) (X : Cx) (W : WX) (es : List Expr) (f : Sx Bool) : Prop where
  run : ∃ tt, PTs X es tt ∧ ∀ b m ow H σ e S Q, At K b m ow H σ e S → Post K b.B ow m H RB (fun c d => W c d σ) Q (f e S) → tt σ H Q
def W0 : WX := fun _ _ _ _ => False
section
variable {K : PySem.W.Frag} {X : Cx} {W : WX} {ex ex2 tg iter elt : Expr} {ifs : List Expr} {f : Sx D} {t : Sx Bool} {a it : Sx (List D)} {l : Sx (List D)} {g : Tg} {pos p : Pos} {i : Nat} {x : Str}
theorem x_new (h : Ef K X W ex l) : Ev K X W ex (eNew l) := by
  obtain ⟨te, p1, h1⟩ := h.run
  refine ⟨te, p1, fun b m ow H σ e S Q t q => h1 b m ow H σ e S Q t ?_⟩
  unfold eNew at q
  cases r : l e S with
  | no => rw [r] at q; exact q.elim
  | er x S1 => rw [r] at q; exact q
  | ok ds S1 =>
    rw [r] at q
    refine fun p vs m1 H1 f1 hp c1 z hv hl rx => q _ m1 H1 f1 c1.unhide ?_
    show Rep _ (.lst ds) (.ref p)
    unfold Rep
    exact ⟨p, vs, rfl, ⟨z, hv, hl⟩, Reps.le le_hid ds rx⟩
theorem ts_nil : Ets K X W [] tYesD := ⟨_, pts_nil, fun b m ow H σ e S Q t q => q true m H (Fut.refl _ _) t.cells rfl⟩
theorem ts_one (h : Et K X W ex t) : Ets K X W [ex] t := by
  obtain ⟨tt, p1, h1⟩ := h.run
  exact ⟨_, pts_one p1, h1⟩
theorem wipe_at {b : Bs} {m : List Addr} {ow : List (Option Addr)} {H : Hp} {σ : L2.St} {e : En} {S : Store} (t : At K b m ow H σ e S) : ∀ vs, vs.all (fun v => notOwn v e) = true → At K b m ow H (wipe σ vs) (clr vs e) S
  | [], _ => t
  | v :: vs, h => by
    simp only [List.all_cons, Bool.and_eq_true] at h
    refine (wipe_at t vs h.2).clear' ?_ none
    have h1 := h.1
    unfold notOwn at h1 ⊢
    have : (clr vs e)[v]? = e[v]? ∨ (clr vs e)[v]? = some .no := by
      clear h h1
      induction vs with
      | nil => exact .inl rfl
      | cons u us ih =>
        unfold clr
        by_cases q : u = v
        · subst q
          by_cases l : u < (clr us e).length
          · exact .inr (List.getElem?_set_self l)
          · rw [List.getElem?_eq_none (by simpa using l)]
            rw [List.getElem?_eq_none (by simpa using l)] at ih
            rcases ih with ih | ih
            · exact .inl ih
            · cases ih
        · rw [List.getElem?_set_ne q]
          exact ih
    rcases this with q | q
    · rw [q]; exact h1
    · rw [q]
theorem At.hideB {b : Bs} {m : List Addr} {ow : List (Option Addr)} {H : Hp} {σ : L2.St} {e : En} {S : Store} {p : Addr} {o : HO} (t : At K b m ow H σ e S) (hp : H p = none) (ho : ∀ ps, o ≠ .tbl ps) (hto : ∀ xs, o ≠ .tup xs := by intro _ z; cases z) : At K ⟨fun x => b.B x ∨ x = p, b.m0, b.H0, b.sf⟩ m ow (L2.upd H p o) σ e S := by
  have s : Same H (L2.upd H p o) := same_mut (Same.refl _) hp
  have hf : ¬ zf b.B m ow p := fun z => t.cells.full p z (.none hp)
  refine ⟨t.cells.hide hp hf ho hto, t.len, fun j s hs => ?_, t.fut.trans (Fut.same s), t.new, t.oe, t.sf, BasePred.grow _ _ (t.fut.dom p (.none hp)) t.ph⟩
  have h := t.slots j s hs
  cases s with
  | no => exact True.intro
  | val d' => obtain ⟨u, h1, h2⟩ := h; exact ⟨u, h1, Rep.le (le_hide hp) d' h2⟩
  | own x => obtain ⟨u, h1, h2, h3⟩ := h; exact ⟨u, h1, h2, h3.le (le_hide hp) fun o e _ => s _ _ e⟩
theorem At.hid_upd {b : Bs} {m : List Addr} {ow : List (Option Addr)} {H : Hp} {σ : L2.St} {e : En} {S : Store} {p : Addr} {o : HO} (t : At K ⟨fun x => b.B x ∨ x = p, b.m0, b.H0, b.sf⟩ m ow H σ e S) (h0 : Fr b.H0 p) (ho : ∀ ps, o ≠ .tbl ps) (hp1 : ∃ o, H p = some o ∧ (∀ ps, o ≠ .tbl ps) ∧ ∀ φ, o ≠ .ext φ) (hto : ∀ xs, o ≠ .tup xs := by intro _ z; cases z) : At K ⟨fun x => b.B x ∨ x = p, b.m0, b.H0, b.sf⟩ m ow (L2.upd H p o) σ e S := by
  have keep : ∀ x u, x ≠ p → H x = some u → L2.upd H p o x = some u := fun x u n h => by rw [upd_ne n]; exact h
  have dom : ∀ x, Fr (L2.upd H p o) x → Fr H x := fun x h => h.upd ho
  have le : Le (wo K (fun x => b.B x ∨ x = p) m ow H) (wo K (fun x => b.B x ∨ x = p) m ow (L2.upd H p o)) := ⟨rfl, fun _ _ _ _ h => h, fun _ _ h => h, fun x u h _ z => keep x u (fun q => z (.inl (.inr q))) h⟩
  have nm : ∀ x, x ∈ m ∨ some x ∈ ow → x ≠ p := fun x hx q => t.cells.nB x hx (.inr q)
  refine ⟨⟨fun x hx q => t.cells.hB x hx (dom x q), t.cells.nd, t.cells.no, t.cells.nB, t.cells.od, fun x hx q => t.cells.oh x hx (dom x q), t.cells.len, fun n x c h1 h2 => (t.cells.cs n x c h1 h2).le le fun u e _ => keep x u (nm x (.inl (List.mem_of_getElem? h1))) e, tabs_keep t.cells.tb hp1 keep, fun x z xs hx => if e : x = p then hto xs (by rw [e, upd_same] at hx; exact Option.some.inj hx) else t.cells.ntK1 keep x z e xs hx⟩, t.len, fun j s hs => ?_, ?_, t.new, t.oe, t.sf, t.ph⟩
  · have h := t.slots j s hs
    cases s with
    | no => exact True.intro
    | val d' => obtain ⟨u, h1, h2⟩ := h; exact ⟨u, h1, Rep.le le d' h2⟩
    | own x => obtain ⟨u, h1, h2, h3⟩ := h; exact ⟨u, h1, h2, h3.le le fun o e _ => keep u o (nm u (.inr (List.mem_of_getElem? h2))) e⟩
  · obtain ⟨pre, kp, dm⟩ := t.fut
    refine ⟨pre, fun x u h n hm => keep x u (fun q => ?_) (kp x u h n hm), fun x h => dm x (dom x h)⟩
    rw [q] at h
    exact h0.no h n
def teOf (K : PySem.W.Frag) (W : WX) (f : Sx D) : TE := fun σ H Q => ∃ b m ow e S, At K b m ow H σ e S ∧ Post K b.B ow m H Rep (fun c d => W c d σ) Q (f e S)
def ttOf (K : PySem.W.Frag) (W : WX) (f : Sx Bool) : TT := fun σ H Q => ∃ b m ow e S, At K b m ow H σ e S ∧ Post K b.B ow m H RB (fun c d => W c d σ) Q (f e S)
def tgOf (K : PySem.W.Frag) (us : List Nat) (g : Tg) : TG := fun v σ H N => ∃ b m ow e S d, At K b m ow H σ e S ∧ Rep (wo K b.B m ow H) d v ∧ match g d e with
    | some e' => ∀ σ', At K b m ow H σ' e' S → wipe σ' us = wipe σ us → N σ' H
    | none => False
theorem Ev.canon (h : Ev K X W ex f) : PE X ex (teOf K W f) := by
  obtain ⟨te, p1, h1⟩ := h.run
  exact ⟨fun pins s σ H Q I ⟨b, m, ow, e, S, t, q⟩ => p1.run pins s σ H Q I (h1 b m ow H σ e S Q t q)⟩
theorem Ets.canon {es : List Expr} (h : Ets K X W es t) : PTs X es (ttOf K W t) := by
  obtain ⟨te, p1, h1⟩ := h.run
  exact ⟨fun pins s σ H Q I ⟨b, m, ow, e, S, t, q⟩ => p1.run pins s σ H Q I (h1 b m ow H σ e S Q t q)⟩
theorem Eg.canon {us : List Nat} (h : Eg K X us tg g) : PG X tg (tgOf K us g) := by
  obtain ⟨te, p1, h1⟩ := h.run
  exact ⟨fun pins s σ H v u Q I r ⟨b, m, ow, e, S, d, t, q, z⟩ => p1.run pins s σ H v u Q I r (h1 b m ow H σ e S d v Q t q z)⟩
theorem lc_rd {wi : TI} {vs : List Nat} (h1 : ∀ b m ow H σ e S Q, At K b m ow H σ e S → Post K b.B ow m H ItR (fun c d => W c d σ) Q (it e S) → wi σ H Q) : ∀ b m ow H σ e S Q, At K b m ow H σ e S → PostF K b.B ow m H (fun c d => W c d σ) Q (lComp vs it g t f e S) → tLc wi (tgOf K vs g) (ttOf K W0 t) (teOf K W0 f) vs σ H Q := by
  refine fun b m ow H σ e S Q t0 q => h1 b m ow H σ e S _ t0 ?_
  unfold lComp at q
  cases r : it e S with
  | no => rw [r] at q; exact q.elim
  | er x S1 => rw [r] at q; exact q
  | ok ds S1 =>
    rw [r, ok_bind] at q
    intro J m1 H1 f1 c1 rJ D hD
    obtain ⟨G, Y, wk, hG, hY⟩ := rJ
    split at q
    · rename_i hl
      obtain ⟨hl, hno⟩ := hl
      have t1 := t0.go f1 c1
      have hD0 : Fr b.H0 D := t1.fut.dom D (.none hD)
      have tw := wipe_at t1 vs hno
      have th : At K ⟨fun x => b.B x ∨ x = D, b.m0, b.H0, b.sf⟩ m1 ow (L2.upd H1 D (.lst [])) (wipe σ vs) (clr vs e) S1 := tw.hideB hD fun _ z => by cases z
      have l1 : Le (wo K b.B m1 ow H1) (wo K (fun x => b.B x ∨ x = D) m1 ow (L2.upd H1 D (.lst []))) := le_hide hD
      -- what is known at each turn
      let Pv : Nat → Hp → Prop := fun i H' => ∃ m' S' vs' acc, At K ⟨fun x => b.B x ∨ x = D, b.m0, b.H0, b.sf⟩ m' ow H' (wipe σ vs) (clr vs e) S' ∧ Fut m1 H1 m' H' ∧ H' D = some (.lst vs') ∧ vs'.length ≤ i ∧ Reps (wo K (fun x => b.B x ∨ x = D) m' ow H') acc vs' ∧
        PostF K b.B ow m H (fun c d => W c d σ) Q (mapA g t f acc (ds.drop i) (clr vs e) S').clean
      refine lc_it wk Pv ⟨m1, S1, [], [], th, Fut.same (same_mut (Same.refl _) hD), upd_same, Nat.le_refl _, reps_nil, by simpa using q⟩ ?_ ?_ ?_
      · rintro i H' hi ⟨m', S', vs', acc, t', f', _⟩
        exact hG (wo K (fun x => b.B x) m' ow H') f'.le
      · rintro i x H' H2 hi ⟨m', S', vs', acc, t', f', hv, hvl, ra, q⟩ y
        have hd : ds[i]? = some ds[i] := List.getElem?_eq_getElem hi
        have le1 : Le (wo K b.B m1 ow H1) (wo K (fun x => b.B x ∨ x = D) m' ow H') := by
          refine ⟨rfl, fun a o e n z => ?_, fun n a e => f'.le (K := K) (B := b.B) (ow := ow) |>.m n a e, fun a o e n z => f'.keep a o e n fun hm => z (.inr (.inl hm))⟩
          have z2 := f'.le (K := K) (B := b.B) (ow := ow) |>.z a o e n z
          rintro ((h | h) | h | h)
          · exact z2 (.inl h)
          · have e : H1 a = some o := e
            rw [h, hD] at e; cases e
          · exact z2 (.inr (.inl h))
          · exact z2 (.inr (.inr h))
        obtain ⟨s2, rd⟩ := hY i ds[i] _ x H2 hd le1 t'.cells.full y
        have t2 := t'.same s2
        rw [List.drop_eq_getElem_cons hi] at q
        unfold mapA at q
        refine ⟨_, m', ow, clr vs e, S', ds[i], t2, rd, ?_⟩
        cases qg : g ds[i] (clr vs e) with
        | none => rw [qg] at q; exact q.elim
        | some e1 =>
          rw [qg] at q
          dsimp only at q ⊢
          intro σ2 t3 hw
          have hww : wipe (wipe σ vs) vs = wipe σ vs := by
            refine List.ext_getElem? fun j => ?_
            simp only [wipe_get, wipe_length]
            split <;> rfl
          rw [hww] at hw
          refine ⟨hw, ?_⟩
          -- the block's point is left: slots as at the start
          have back : ∀ {m3 : List Addr} {H3 : Hp} {S3 : Store}, Fut m' H2 m3 H3 → Cells K (fun x => b.B x ∨ x = D) m3 ow H3 S3 → At K ⟨fun x => b.B x ∨ x = D, b.m0, b.H0, b.sf⟩ m3 ow H3 (wipe σ vs) (clr vs e) S3 := fun f3 c3 => t2.go f3 c3
          have q3 := q
          refine ⟨⟨fun x => b.B x ∨ x = D, b.m0, b.H0, b.sf⟩, m', ow, e1, S', t3, ?_⟩
          cases rt : t e1 S' with
          | no => rw [rt] at q; exact q.elim
          | er x S3 => rw [rt] at q; exact q.elim
          | ok c S3 =>
            rw [rt, ok_bind] at q
            intro c' m3 H3 f3 c3 ec
            obtain rfl : c' = c := ec
            have fD : H3 D = some (.lst vs') := f3.keep D _ (s2 _ _ hv) (fun _ z => by cases z) fun hm => t2.cells.nB D (.inl hm) (.inr rfl)
            have f1D : Fut m1 H1 m3 H3 := f'.trans ((Fut.same s2).trans f3)
            have le3 : Le (wo K (fun x => b.B x ∨ x = D) m' ow H') (wo K (fun x => b.B x ∨ x = D) m3 ow H3) := ((Fut.same s2).trans f3).le
            cases c' with
            | false =>
              rw [if_neg Bool.false_ne_true] at q ⊢
              exact ⟨m3, S3, vs', acc, back f3 c3, f1D, fD, Nat.le_succ_of_le hvl, Reps.le le3 _ ra, q⟩
            | true =>
              rw [if_pos rfl] at q ⊢
              refine ⟨⟨fun x => b.B x ∨ x = D, b.m0, b.H0, b.sf⟩, m3, ow, e1, S3, t3.go f3 c3, ?_⟩
              cases rf : f e1 S3 with
              | no => rw [rf] at q; exact q.elim
              | er x S4 => rw [rf] at q; exact q.elim
              | ok y S4 =>
                rw [rf, ok_bind] at q
                intro v m4 H4 f4 c4 ry
                have fD4 : H4 D = some (.lst vs') := f4.keep D _ fD (fun _ z => by cases z) fun hm => c3.nB D (.inl hm) (.inr rfl)
                have ti := back (f3.trans f4) c4
                have tn := ti.hid_upd (o := .lst (vs' ++ [v])) hD0 (fun _ z => by cases z) ⟨_, fD4, (fun _ z => by cases z), (fun _ z => by cases z)⟩
                have le4 : Le (wo K (fun x => b.B x ∨ x = D) m4 ow H4) (wo K (fun x => b.B x ∨ x = D) m4 ow (L2.upd H4 D (.lst (vs' ++ [v])))) := ⟨rfl, fun _ _ _ _ h => h, fun _ _ h => h, fun x u h _ z => by
                  show L2.upd H4 D _ x = some u
                  rw [upd_ne (fun q => z (.inl (.inr q)))]
                  exact h⟩
                have ra4 := Reps.le (le3.trans (f4.le.trans le4)) _ ra
                refine ⟨vs', fD4, Nat.lt_of_le_of_lt hvl (Nat.lt_of_lt_of_le hi hl), m4, S4, vs' ++ [v], acc ++ [y], tn, ?_, upd_same, by simpa using hvl, reps_app ra4 (reps_cons (Rep.le le4 y ry) reps_nil), q⟩
                have fa := f1D.trans f4
                refine ⟨fa.pre, fun a o ea n hm => ?_, fun a ha => ?_⟩
                · rw [upd_ne (ne_of_none ea hD)]
                  exact fa.keep a o ea n hm
                · exact fa.dom a (ha.upd fun _ z => by cases z)
      · rintro H' ⟨m', S', vs', acc, t', f', hv, hvl, ra, q⟩
        rw [List.drop_length] at q
        exact q D vs' m' H' (f1.trans f') (f1.dom D (.none hD)) t'.cells (fun z => t'.cells.nB D (by
          rcases z with z | z
          · exact absurd z (fun z => t1.cells.hB D z (.none hD))
          · exact z) (.inr rfl)) hv (Nat.le_trans hvl hl) ra
    · exact q.elim
section
variable {scope : Scope} {own : List (Str × Nat)}
theorem f_comp (hc : X.calm = true) (hN : X.N.Nodup) (hi : Ei K X W tg iter it) (ok : BlkOk X.N X.env.scope scope own)
    (hg : ∀ (s : Shared) (H : Hp) (C : Addr) (cl : List (Str × Addr)) (fp : List Addr), Eg K (X.blk s H scope (compEnvC scope cl C X.env) fp) (own.map (·.2)) tg g) (ht : ∀ (s : Shared) (H : Hp) (C : Addr) (cl : List (Str × Addr)) (fp : List Addr), Ets K (X.blk s H scope (compEnvC scope cl C X.env) fp) W0 ifs t)
    (he : ∀ (s : Shared) (H : Hp) (C : Addr) (cl : List (Str × Addr)) (fp : List Addr), Ev K (X.blk s H scope (compEnvC scope cl C X.env) fp) W0 elt f) (hs : ∀ x, foldedSetIterable iter X.env x = pure x := by intro _; rfl) :
    Ef K X W (.ListComp elt [⟨tg, iter, ifs, 0⟩] scope pos) (lComp (own.map (·.2)) it g t f) := by
  obtain ⟨wi, p1, h1⟩ := hi.run
  exact ⟨_, pe_lc hc hN p1 ok (fun s H C cl fp => (hg s H C cl fp).canon) (fun s H C cl fp => (ht s H C cl fp).canon) (fun s H C cl fp => (he s H C cl fp).canon) hs, lc_rd h1⟩
end
end
end Sh
namespace Sh
open PySem PySem.Spec PyProof.Rows L2 Nk StX
variable [TabSet] [BasePred]
def spSh (K : PySem.W.Frag) (f : List D → Store → R D) : Sp := fun vs H Q E => ∃ B m S ds, Cells K B m [] H S ∧ Reps (wo K B m [] H) ds vs ∧ Post K B [] m H Rep E Q (f ds S)
def Shp (K : PySem.W.Frag) (sp : Sp) (f : List D → Store → R D) : Prop := ∀ B m S ds vs H Q E, Cells K B m [] H S → Reps (wo K B m [] H) ds vs → Post K B [] m H Rep E Q (f ds S) → sp vs H Q E
theorem shp_sh {K : PySem.W.Frag} {f : List D → Store → R D} : Shp K (spSh K f) f := fun B m S ds vs H Q E c r q => ⟨B, m, S, ds, c, r, q⟩
section
variable {K : PySem.W.Frag} {B : Addr → Prop} {m m' : List Addr} {ow : List (Option Addr)} {H H' : Hp} {S S' : Store}
def hidB (B : Addr → Prop) (ow : List (Option Addr)) : Addr → Prop := fun a => B a ∨ some a ∈ ow
theorem zf_hid : zf (hidB B ow) m [] = zf B m ow := by
  funext a
  unfold zf hidB
  apply propext
  constructor
  · rintro ((h | h) | h | h)
    · exact .inl h
    · exact .inr (.inr h)
    · exact .inr (.inl h)
    · exact (List.not_mem_nil h).elim
  · rintro (h | h | h)
    · exact .inl (.inl h)
    · exact .inr (.inl h)
    · exact .inl (.inr h)
theorem wo_hid : wo K (hidB B ow) m [] H = wo K B m ow H := by
  show (⟨K, zf (hidB B ow) m [], m, H⟩ : Wo) = ⟨K, zf B m ow, m, H⟩
  rw [zf_hid]
theorem Cells.toHid (c : Cells K B m ow H S) : Cells K (hidB B ow) m [] H S :=
  ⟨fun a h => h.elim (c.hB a) (c.oh a), c.nd, fun _ _ h => (List.not_mem_nil h).elim, fun a h q => h.elim (fun h => q.elim (c.nB a (.inl h)) (c.no a h)) fun h => (List.not_mem_nil h).elim, fun i j a h => by simp at h, fun a h => (List.not_mem_nil h).elim, c.len,
    fun n a x h1 h2 => by rw [wo_hid]; exact c.cs n a x h1 h2, c.tb, fun a z => c.nt a (zf_hid ▸ z)⟩
theorem Cells.ofHid (c0 : Cells K B m ow H S) (c : Cells K (hidB B ow) m' [] H' S') : Cells K B m' ow H' S' :=
  ⟨fun a h => c.hB a (.inl h), c.nd, fun a h q => c.nB a (.inl h) (.inr q), fun a h q => h.elim (fun h => c.nB a (.inl h) (.inl q)) fun h => c0.nB a (.inr h) q, c0.od, fun a h => c.hB a (.inr h), c.len,
    fun n a x h1 h2 => by rw [← wo_hid]; exact c.cs n a x h1 h2, c.tb, fun a z => c.nt a (zf_hid.symm ▸ z)⟩
theorem Post.toHid {α β : Type} {RP : Wo → β → α → Prop} {W : Value → Option Addr → Hp → Prop} {Q : α → Hp → Prop} {r : R β} (c0 : Cells K B m ow H S) (h : Post K B ow m H RP W Q r) : Post K (hidB B ow) [] m H RP W Q r := by
  cases r with
  | ok y S1 => exact fun a m1 H1 f1 c1 r1 => h a m1 H1 f1 (c0.ofHid c1) (by rw [← wo_hid]; exact r1)
  | er x S1 => exact fun a d m1 H1 f1 c1 r1 => h a d m1 H1 f1 (c0.ofHid c1) (by rw [← wo_hid]; exact r1)
  | no => exact h
theorem Shp.at {sp : Sp} {f : List D → Store → R D} {vs : List V} {ds : List D} {Q : VK} {E : XK} (h : Shp K sp f) (c : Cells K B m ow H S) (r : Reps (wo K B m ow H) ds vs) (q : Post K B ow m H Rep E Q (f ds S)) : sp vs H Q E :=
  h (hidB B ow) m S ds vs H Q E c.toHid (by rw [wo_hid]; exact r) (q.toHid c)
end
def RS.res : RS → R D
  | .nx _ S => .ok .non S
  | .rt d S => .ok d S
  | .er x _ S => .er x S
  | _ => .no
@[simp] theorem res_nx {e : En} {S : Store} : (RS.nx e S).res = .ok .non S := rfl
@[simp] theorem res_rt {d : D} {S : Store} : (RS.rt d S).res = .ok d S := rfl
@[simp] theorem res_er {x : Exn} {e : En} {S : Store} : (RS.er x e S).res = .er x S := rfl
@[simp] theorem res_no : RS.no.res = .no := rfl
@[simp] theorem ite_res {c : Prop} [Decidable c] {r s : RS} : (if c then r else s).res = if c then r.res else s.res := by split <;> rfl
@[simp] theorem run_res {α : Type} {r : R α} {e : En} {k : α → Store → RS} : (r.run e k).res = r.bind fun a S => (k a S).res := by cases r <;> rfl
def runD (n k : Nat) (f : Sy) (ds : List D) (S : Store) : R D := if ds.length = n then (f (ds.map Sl.val ++ List.replicate k .no) S).res else .no
section
variable {K : PySem.W.Frag} {P : Program} {w : World} {mg : Str → Option Value} {base : Heap}
theorem start_at {N : List Str} {B : Addr → Prop} {m : List Addr} {H : Hp} {S : Store} {ds : List D} {vs : List V} {n k : Nat} (hφ : BasePred.Φ ⟨B, m, H, none⟩) (hN : N.length = n + k) (hn : ds.length = n) (c : Cells K B m [] H S) (r : Reps (wo K B m [] H) ds vs) :
    At K ⟨B, m, H, none⟩ m (List.replicate (n + k) none) H (L2.start N vs) (ds.map Sl.val ++ List.replicate k .no) S := by
  have hv := reps_len r
  have none_mem : ∀ a : Addr, some a ∉ List.replicate (n + k) (none : Option Addr) := fun a h => by
    have := (List.mem_replicate.mp h).2
    cases this
  have none_get : ∀ (i : Nat) (a : Addr), (List.replicate (n + k) (none : Option Addr))[i]? ≠ some (some a) := fun i a h => none_mem a (List.mem_of_getElem? h)
  have ze : wo K B m (List.replicate (n + k) none) H = wo K B m [] H := by
    show (⟨K, zf B m (List.replicate (n + k) none), m, H⟩ : Wo) = ⟨K, zf B m [], m, H⟩
    congr 1
    funext a
    unfold zf
    apply propext
    constructor
    · rintro (h | h | h)
      · exact .inl h
      · exact .inr (.inl h)
      · exact (none_mem a h).elim
    · rintro (h | h | h)
      · exact .inl h
      · exact .inr (.inl h)
      · exact (List.not_mem_nil h).elim
  refine ⟨⟨c.hB, c.nd, fun a _ h => none_mem a h, fun a h => h.elim (fun h => c.nB a (.inl h)) fun h => (none_mem a h).elim, fun i j a h => (none_get i a h).elim, fun a h => (none_mem a h).elim, c.len, fun n a x h1 h2 => by rw [ze]; exact c.cs n a x h1 h2, c.tb, fun a z => c.nt a (z.imp id fun z => z.imp id fun z => (none_mem a z).elim)⟩, ?_, fun i s hs => ?_, Fut.refl m H, fun a h => (none_mem a h).elim, fun i a h => (none_get i a h).elim, (fun a h => by cases h), hφ⟩
  · unfold L2.start
    simp
    omega
  · rw [ze]
    by_cases l : i < ds.length
    · rw [List.getElem?_append_left (by simpa using l), List.getElem?_map] at hs
      rw [List.getElem?_eq_getElem l] at hs
      cases hs
      obtain ⟨v, h1, h2⟩ := reps_get r (List.getElem?_eq_getElem l)
      refine ⟨v, ?_, h2⟩
      unfold L2.start
      rw [List.getElem?_append_left (by simp; omega), List.getElem?_map, h1]
      rfl
    · rw [List.getElem?_append_right (by simpa using l)] at hs
      have := List.mem_of_getElem? hs
      rw [(List.mem_replicate.mp this).2]
      exact True.intro
theorem body_of {X : Cx} {N : List Str} {body : List Stmt} {f : Sy} {E : XK} {n k : Nat} (hφ : ∀ b, BasePred.Φ b) (hN : N.length = n + k) (h : Ess K X (fun c d _ H => E c d H) body f) {vs : List V} {H : Hp} {Q : VK} (hsp : spSh K (runD n k f) vs H Q E) :
    ∃ t, PSs X body t ∧ t { nx := fun _ H' => Q .non H', rt := Q } (L2.start N vs) H := by
  obtain ⟨ts, p1, h1⟩ := h.run
  refine ⟨ts, p1, ?_⟩
  obtain ⟨B, m, S, ds, c, r, q⟩ := hsp
  unfold runD at q
  split at q
  · rename_i hn
    refine h1 ⟨B, m, H, none⟩ m (List.replicate (n + k) none) H _ (ds.map Sl.val ++ List.replicate k .no) S _ (start_at (hφ _) hN hn c r) ?_
    have none_mem : ∀ a : Addr, some a ∉ ([] : List (Option Addr)) := fun a h => List.not_mem_nil h
    have drop : ∀ {m' : List Addr} {ow' : List (Option Addr)} {H' : Hp} {S' : Store}, Cells K B m' ow' H' S' → Cells K B m' [] H' S' := fun c => c.sub (fun a h => (none_mem a h).elim) fun i j a h => by simp at h
    generalize f (ds.map Sl.val ++ List.replicate k .no) S = rs at q ⊢
    cases rs with
    | nx e' S' => exact fun σ' m' ow' H' t l => q .non m' H' t.fut (drop t.cells) rep_non
    | rt d S' => exact fun v m' ow' H' c' f' _ r' => q v m' H' f' (drop c') (Rep.le (le_ow fun a h => (none_mem a h).elim) d r')
    | er x e' S' => exact fun c d σ' m' ow' H' t l rx => q c d m' H' t.fut (drop t.cells) (ExR.le (le_ow fun a h => (none_mem a h).elim) rx)
    | bk e' S' => exact q.elim
    | ct e' S' => exact q.elim
    | no => exact q.elim
  · exact q.elim
theorem spSh_len {n k : Nat} {f : Sy} {vs : List V} {H : Hp} {Q : VK} {E : XK} (h : spSh K (runD n k f) vs H Q E) : vs.length = n := by
  obtain ⟨B, m, S, ds, c, r, q⟩ := h
  unfold runD at q
  split at q
  · rw [reps_len r]; assumption
  · exact q.elim
theorem fo_sh {x qual : Str} {st : Stmt} {fa : Addr} {N ps : List Str} {lv n k : Nat} {f : Sy} (F : ∃ fd, FunD K x qual (defArgs st) (defBody st) (defScope st) [] [] fa fd) (S : FnScope N ps (defScope st))
    (hb : ∀ (kV doc pm : Value) (an : Option Addr) (cdv ct : Value) (us : List Value), us.length = ps.length → bindArgs (PySem.W.fnOf x qual (defArgs st) (defBody st) (defScope st) .none kV doc pm an cdv ct) ⟨us, []⟩ = pure (ps.zip us)) (hn : ps.length = n) (hN : N.length = n + k) (hφ : ∀ b, BasePred.Φ b)
    (hbody : ∀ (cdv : Value) (A : Around) (outer : List Env) (s : Shared) (H : Hp) (E : XK), Room lv (A.deeper (envOfC qual (defScope st) s.heap.objs.size fa cdv)) →
      Ess K (cxOf (L2.CX P w) P w K mg base N qual (defScope st) fa cdv A outer s H E) (fun c d _ H => E c d H) (defBody st) f) : Fo P w K mg base fa (lv + 1) ps (spSh K (runD n k f)) :=
  fo_mk F S hb (fun vs H Q E h => by rw [spSh_len h, hn]) fun cdv A outer s H vs Q E hr hsp => body_of hφ hN (hbody cdv A outer s H E hr) hsp
theorem df_sh {x qual : Str} {st : Stmt} {fa : Addr} {N ps : List Str} {lv n k : Nat} {f : Sy} (F : ∃ fd, FunD K x qual (defArgs st) (defBody st) (defScope st) [] [] fa fd) (hm : mg x = some (.ref fa)) (S : FnScope N ps (defScope st))
    (hb : ∀ (kV doc pm : Value) (an : Option Addr) (cdv ct : Value) (us : List Value), us.length = ps.length → bindArgs (PySem.W.fnOf x qual (defArgs st) (defBody st) (defScope st) .none kV doc pm an cdv ct) ⟨us, []⟩ = pure (ps.zip us)) (hn : ps.length = n) (hN : N.length = n + k) (hφ : ∀ b, BasePred.Φ b)
    (hbody : ∀ (cdv : Value) (A : Around) (outer : List Env) (s : Shared) (H : Hp) (E : XK), Room lv (A.deeper (envOfC qual (defScope st) s.heap.objs.size fa cdv)) →
      Ess K (cxOf (L2.CX P w) P w K mg base N qual (defScope st) fa cdv A outer s H E) (fun c d _ H => E c d H) (defBody st) f) : Df P w K mg base x (lv + 1) ps (spSh K (runD n k f)) :=
  df_mk F hm S hb (fun vs H Q E h => by rw [spSh_len h, hn]) fun cdv A outer s H vs Q E hr hsp => body_of hφ hN (hbody cdv A outer s H E hr) hsp
end
def eDf (f : List D → Store → R D) (a : Sx (List D)) (e : En) (S : Store) : R D := (a e S).bind fun ds S1 => f ds S1
def D.fld (cs : List String) (f : Str) (S : Store) : D → Option D
  | .obj c fs => if c ∈ cs then fs.lookup f else none
  | .ref n => match S[n]? with
    | some (.ins c fs) => if c ∈ cs then fs.lookup f else none
    | _ => none
  | _ => none
def eFd (cs : List String) (f : Str) (g : Sx D) (e : En) (S : Store) : R D := (g e S).bind fun x S1 => R.of S1 (x.fld cs f S1)
def D.isC (c : String) (m : Str) (S : Store) : D → Bool
  | .obj c' fs => c' == c && (fs.lookup m).isNone
  | .ref n => match S[n]? with
    | some (.ins c' fs) => c' == c && (fs.lookup m).isNone
    | _ => false
  | _ => false
def eMe (c : String) (m : Str) (f : List D → Store → R D) (g : Sx D) (a : Sx (List D)) (e : En) (S : Store) : R D := (g e S).bind fun x S1 => if x.isC c m S1 then (a e S1).bind fun ds S2 => f (x :: ds) S2 else .no
def R.orE {α : Type} : R α → R α → R α
  | .no, s => s
  | r, _ => r
@[simp] theorem orE_no {α : Type} {s : R α} : (R.no : R α).orE s = s := rfl
@[simp] theorem orE_ok {α : Type} {a : α} {S : Store} {s : R α} : (R.ok a S).orE s = .ok a S := rfl
@[simp] theorem orE_er {α : Type} {x : Exn} {S : Store} {s : R α} : (R.er x S : R α).orE s = .er x S := rfl
def FldOk (K : PySem.W.Frag) (f : Str) (cs : List String) : Prop := ∀ c ∈ cs, Cls K (He.ga K c) ∧ NoAttr K (He.ga K c) f
theorem fk_nil {K : PySem.W.Frag} {f : Str} : FldOk K f [] := fun _ h => nomatch h
theorem fk_cons {K : PySem.W.Frag} {f : Str} {c : String} {cs : List String} (h1 : Cls K (He.ga K c)) (h2 : NoAttr K (He.ga K c) f) (h : FldOk K f cs) : FldOk K f (c :: cs) := fun d hd => by
  rcases List.mem_cons.mp hd with rfl | hd
  · exact ⟨h1, h2⟩
  · exact h d hd
theorem cell_ins {K : PySem.W.Frag} {B : Addr → Prop} {m : List Addr} {ow : List (Option Addr)} {H : Hp} {S : Store} {n : Nat} {a : Addr} {c : String} {fs : List (Str × D)} (t : Cells K B m ow H S) (hm : m[n]? = some a) (hS : S[n]? = some (.ins c fs)) : ∃ dx gs, H a = some (.ins (He.ga K c) dx gs) ∧ RepF (wo K B m ow H) fs gs := t.cs n a _ hm hS
section
variable {K : PySem.W.Frag} {X : Cx} {W : WX} {ex ex2 : Expr} {es : List Expr} {f g : Sx D} {a : Sx (List D)} {pos p apos : Pos} {i lv j : Nat} {x m : Str} {ps : List Str} {sp : Sp} {F : List D → Store → R D} {cs : List String} {c : String}
theorem x_df (hd : Df X.prog X.w X.K X.mg X.base x lv ps sp) (hs : Shp K sp F) (hr : Room j X.A) (hk : lv ≤ j) (hg : Gl X x) (tk : Takes X W) (ha : Ea K X W (ex :: es) a)
    (hdb : (x == ("__debug__" : Str)) = false := by decide) (he : starEach (ex :: es) X.env = (false, eval ex X.env) :: starEach es X.env := by rfl) (hpl : (backTo pos (starEach es X.env)).any (·.1) = false := by rfl) : Ev K X W (.Call (.Name x p) (ex :: es) [] pos) (eDf F a) := by
  obtain ⟨ta, p1, h1⟩ := ha.run
  exact ⟨_, pe_df hd hr hk hg tk p1 hdb he hpl, fun b m ow H σ e S Q t q => h1 b m ow H σ e S _ t (Post.bind q fun ds S1 vs m1 H1 f1 c1 rx q => hs.at c1 rx q)⟩
theorem x_fld {fd : Str} (hK : X.K = K) (hc : FldOk K fd cs) (hf : Ev K X W ex f) (hb : attributeBase ex fd X.env (eval ex X.env) = eval ex X.env := by rfl) : Ev K X W (.Attribute ex fd pos) (eFd cs fd f) := by
  subst hK
  obtain ⟨ta, p1, h1⟩ := hf.run
  refine ⟨_, pe_fld p1 hb, fun b m ow H σ e S Q t q => h1 b m ow H σ e S _ t (Post.bind q fun d S1 v m1 H1 f1 c1 rx q => ?_)⟩
  cases d <;> try exact q.elim
  · rename_i c fs
    unfold Rep at rx
    obtain ⟨a, dx, gs, rfl, _, hH, r⟩ := rx
    unfold D.fld at q
    dsimp only at q
    split at q
    · rename_i hm
      cases l : fs.lookup fd with
      | none => rw [l] at q; exact q.elim
      | some d =>
        rw [l] at q
        obtain ⟨u, h2, h3⟩ := repF_get r l
        exact ⟨a, _, dx, gs, u, rfl, hH, (hc c hm).1, (hc c hm).2, h2, q.val c1 h3⟩
    · exact q.elim
  · rename_i n
    unfold Rep at rx
    obtain ⟨a, rfl, hm⟩ := rx
    unfold D.fld at q
    dsimp only at q
    cases s : S1[n]? with
    | none => rw [s] at q; exact q.elim
    | some x =>
      rw [s] at q
      cases x <;> try exact q.elim
      rename_i c fs
      dsimp only at q
      split at q
      · rename_i hmc
        cases l : fs.lookup fd with
        | none => rw [l] at q; exact q.elim
        | some d =>
          rw [l] at q
          obtain ⟨dx, gs, hH, r⟩ := cell_ins c1 hm s
          obtain ⟨u, h2, h3⟩ := repF_get r l
          exact ⟨a, _, dx, gs, u, rfl, hH, (hc c hmc).1, (hc c hmc).2, h2, q.val c1 h3⟩
      · exact q.elim
theorem isC_at {b : Bs} {ow : List (Option Addr)} {m1 : List Addr} {H : Hp} {S : Store} {d : D} {v : V} (t : Cells K b.B m1 ow H S) (r : Rep (wo K b.B m1 ow H) d v) (h : d.isC c m S = true) : ∃ a dx fs, v = .ref a ∧ H a = some (.ins (He.ga K c) dx fs) ∧ fs.lookup m = none := by
  cases d <;> unfold D.isC at h <;> try cases h
  · rename_i c' fs
    simp only [Bool.and_eq_true, beq_iff_eq, Option.isNone_iff_eq_none] at h
    unfold Rep at r
    obtain ⟨a, dx, gs, rfl, _, hH, r⟩ := r
    exact ⟨a, dx, gs, rfl, h.1 ▸ hH, repF_none r h.2⟩
  · rename_i n
    unfold Rep at r
    obtain ⟨a, rfl, hm⟩ := r
    cases s : S[n]? with
    | none => simp only [s] at h; cases h
    | some x =>
      cases x <;> simp only [s] at h <;> try cases h
      rename_i c' fs
      simp only [Bool.and_eq_true, beq_iff_eq, Option.isNone_iff_eq_none] at h
      obtain ⟨dx, gs, hH, r⟩ := cell_ins t hm s
      exact ⟨a, dx, gs, rfl, h.1 ▸ hH, repF_none r h.2⟩
theorem x_me {fa : Addr} {pl : Sem Bool} (hK : X.K = K) (ho : Ev K X W ex2 g) (hc : Cls K (He.ga K c)) (hm : Meth K (He.ga K c) m fa) (hF : Fs X.prog X.w K X.mg X.base fa lv sp) (hs : Shp K sp F) (hr : Room j X.A) (hk : lv ≤ j) (tk : Takes X W) (ha : Ea K X W (ex :: es) a)
    (hst : starEach (ex :: es) X.env = (false, eval ex X.env) :: starEach es X.env := by rfl) (hpl : (backTo pos (starEach es X.env)).any (·.1) = false := by rfl)
    (ht : eval (.Call (.Attribute ex2 m apos) (ex :: es) [] pos) X.env = (do
      let ov ← eval ex2 X.env
      standAt apos.atName
      let (f, first) ← holding [ov] (getMethod ov m pl)
      callWith pos f first (backTo pos (starEach (ex :: es) X.env)) (backToKw pos (keywordEach [] X.env))) := by rfl) : Ev K X W (.Call (.Attribute ex2 m apos) (ex :: es) [] pos) (eMe c m F g a) := by
  subst hK
  obtain ⟨tb, p2, h2⟩ := ho.run
  obtain ⟨ta, p1, h1⟩ := ha.run
  refine ⟨_, pe_meW p2 hc hm hF hr hk tk p1 hst hpl ht, fun b m ow H σ e S Q t q => h2 b m ow H σ e S _ t (Post.bind q fun d S1 v m1 H1 f1 c1 rx q => ?_)⟩
  split at q
  · rename_i hi
    obtain ⟨a, dx, fs, rfl, hH, hl⟩ := isC_at c1 rx hi
    refine ⟨a, dx, fs, rfl, hH, hl, h1 b m1 ow H1 σ e S1 _ (t.go f1 c1) (Post.bind q fun ds S2 vs m2 H2 f2 c2 ry q => hs.at c2 (reps_cons (Rep.le f2.le d rx) ry) q)⟩
  · exact q.elim
theorem x_me0 {fa : Addr} {pl : Sem Bool} (hK : X.K = K) (ho : Ev K X W ex2 g) (hc : Cls K (He.ga K c)) (hm : Meth K (He.ga K c) m fa) (hF : Fs X.prog X.w K X.mg X.base fa lv sp) (hs : Shp K sp F) (hr : Room j X.A) (hk : lv ≤ j) (tk : Takes X W)
    (ht : eval (.Call (.Attribute ex2 m apos) [] [] pos) X.env = (do
      let ov ← eval ex2 X.env
      standAt apos.atName
      let (f, first) ← holding [ov] (getMethod ov m pl)
      callWith pos f first (backTo pos (starEach [] X.env)) (backToKw pos (keywordEach [] X.env))) := by rfl) : Ev K X W (.Call (.Attribute ex2 m apos) [] [] pos) (eMe c m F g aNil) := by
  subst hK
  obtain ⟨tb, p2, h2⟩ := ho.run
  refine ⟨_, pe_meW0 p2 hc hm hF hr hk tk ht, fun b m ow H σ e S Q t q => h2 b m ow H σ e S _ t (Post.bind q fun d S1 v m1 H1 f1 c1 rx q => ?_)⟩
  split at q
  · rename_i hi
    obtain ⟨a, dx, fs, rfl, hH, hl⟩ := isC_at c1 rx hi
    exact ⟨a, dx, fs, rfl, hH, hl, hs.at c1 (reps_cons rx reps_nil) q⟩
  · exact q.elim
def eCm (c : String) (f : List D → Store → R D) (g : Sx D) (a : Sx (List D)) (e : En) (S : Store) : R D := (g e S).bind fun x S1 => match x with
  | .cls c' => if c' = c then (a e S1).bind fun ds S2 => f (.cls c :: ds) S2 else .no
  | _ => .no
theorem x_cm {mc : Value} {fp fa : Addr} {pl : Sem Bool} (hK : X.K = K) (ho : Ev K X W ex2 g) (r : ClX.CRead K (He.ga K c) mc) (hc : ClX.CMet K (He.ga K c) mc m fp fa) (hF : Fs X.prog X.w K X.mg X.base fa lv sp) (hs : Shp K sp F) (hr : Room j X.A) (hk : lv ≤ j) (tk : Takes X W) (ha : Ea K X W (ex :: es) a)
    (hst : starEach (ex :: es) X.env = (false, eval ex X.env) :: starEach es X.env := by rfl) (hpl : (backTo pos (starEach es X.env)).any (·.1) = false := by rfl)
    (ht : eval (.Call (.Attribute ex2 m apos) (ex :: es) [] pos) X.env = (do
      let ov ← eval ex2 X.env
      standAt apos.atName
      let (f, first) ← holding [ov] (getMethod ov m pl)
      callWith pos f first (backTo pos (starEach (ex :: es) X.env)) (backToKw pos (keywordEach [] X.env))) := by rfl) : Ev K X W (.Call (.Attribute ex2 m apos) (ex :: es) [] pos) (eCm c F g a) := by
  subst hK
  obtain ⟨tb, p2, h2⟩ := ho.run
  obtain ⟨ta, p1, h1⟩ := ha.run
  refine ⟨_, pe_cmW p2 r hc hF hr hk tk p1 hst hpl ht, fun b m ow H σ e S Q t q => h2 b m ow H σ e S _ t (Post.bind q fun d S1 v m1 H1 f1 c1 rx q => ?_)⟩
  cases d <;> try exact q.elim
  rename_i c'
  dsimp only at q
  split at q
  · rename_i hi
    subst hi
    have rx0 := rx
    unfold Rep at rx
    subst rx
    exact ⟨rfl, h1 b m1 ow H1 σ e S1 _ (t.go f1 c1) (Post.bind q fun ds S2 vs m2 H2 f2 c2 ry q => hs.at c2 (reps_cons (Rep.le f2.le _ rx0) ry) q)⟩
  · exact q.elim
def ePr (c : String) (f : List D → Store → R D) (g : Sx D) (e : En) (S : Store) : R D := (g e S).bind fun x S1 => if x.isC c "" S1 then (f [x] S1).clean else .no
theorem Post.clean {α β : Type} {B : Addr → Prop} {ow : List (Option Addr)} {m : List Addr} {H : Hp} {RP : Wo → β → α → Prop} {W W' : Value → Option Addr → Hp → Prop} {Q : α → Hp → Prop} {r : R β} (h : Post K B ow m H RP W Q r.clean) : Post K B ow m H RP W' Q r := by
  cases r with
  | ok y S => exact h
  | er x S => exact h.elim
  | no => exact h.elim
theorem x_pr {pp pg : Addr} (hK : X.K = K) (hf : Ev K X W ex g) (hc : Cls K (He.ga K c)) (hp : PropOf K (He.ga K c) m pp pg) (hF : Fo X.prog X.w K X.mg X.base pg lv ps sp) (hs : Shp K sp F) (hr : Room j X.A) (hk : lv + 1 ≤ j) (hab : attributeBase ex m X.env (eval ex X.env) = eval ex X.env := by rfl) : Ev K X W (.Attribute ex m pos) (ePr c F g) := by
  subst hK
  obtain ⟨tb, p2, h2⟩ := hf.run
  refine ⟨_, pe_pr p2 hc hp hF hr hk hab, fun b m ow H σ e S Q t q => h2 b m ow H σ e S _ t (Post.bind q fun d S1 v m1 H1 f1 c1 rx q => ?_)⟩
  split at q
  · rename_i hi
    obtain ⟨a, dx, fs, rfl, hH, hl⟩ := isC_at c1 rx hi
    exact ⟨a, dx, fs, rfl, hH, hs.at c1 (reps_cons rx reps_nil) q.clean⟩
  · exact q.elim
end
def off (a : Addr) (H : Hp) : Hp := fun x => if x = a then none else H x
theorem off_ne {a x : Addr} {H : Hp} (h : x ≠ a) : off a H x = H x := by unfold off; rw [if_neg h]
theorem off_self {a : Addr} {H : Hp} : off a H a = none := by unfold off; rw [if_pos rfl]
section
variable (K : PySem.W.Frag) (B : Addr → Prop) (m : List Addr) (a : Addr)
def PostN (H : Hp) (E : XK) (Q : VK) : R Cell → Prop
  | .ok c' S' => ∀ m' H', Fut m (off a H) m' H' → Cells K (fun x => B x ∨ x = a) m' [] H' S' → CRep (wo K (fun x => B x ∨ x = a) m' [] H') a c' → Q .non H'
  | .er x S' => ∀ c d m' H', Fut m (off a H) m' H' → Cells K (fun x => B x ∨ x = a) m' [] H' S' → ExR (wo K (fun x => B x ∨ x = a) m' [] H') x c d → E c d H'
  | .no => False
end
def spIn (K : PySem.W.Frag) (f : Cell → List D → Store → R Cell) : Sp := fun vs H Q E => ∃ B m S c ds a us, vs = .ref a :: us ∧ ¬ zf B m [] a ∧ Cells K (fun x => B x ∨ x = a) m [] H S ∧ CRep (wo K (fun x => B x ∨ x = a) m [] H) a c ∧ (∃ k fs, c = .ins k fs) ∧ Reps (wo K (fun x => B x ∨ x = a) m [] H) ds us ∧ PostN K B m a H E Q (f c ds S)
def RS.resI : RS → R Cell
  | .nx e S => match (e[0]? : Option Sl) with
    | some (Sl.own c) => .ok c S
    | _ => .no
  | .er x _ S => .er x S
  | _ => .no
@[simp] theorem resI_er {x : Exn} {e : En} {S : Store} : (RS.er x e S).resI = .er x S := rfl
@[simp] theorem resI_nx {c : Cell} {e : En} {S : Store} : (RS.nx (.own c :: e) S).resI = .ok c S := rfl
@[simp] theorem resI_no : RS.no.resI = .no := rfl
@[simp] theorem ite_resI {c : Prop} [Decidable c] {r s : RS} : (if c then r else s).resI = if c then r.resI else s.resI := by split <;> rfl
@[simp] theorem run_resI {α : Type} {r : R α} {e : En} {k : α → Store → RS} : (r.run e k).resI = r.bind fun a S => (k a S).resI := by cases r <;> rfl
def runI (n k : Nat) (f : Sy) (c : Cell) (ds : List D) (S : Store) : R Cell := if ds.length + 1 = n then (f (.own c :: (ds.map Sl.val ++ List.replicate k .no)) S).resI else .no
theorem zf_a {B : Addr → Prop} {m : List Addr} {n : Nat} {a : Addr} : zf (fun x => B x ∨ x = a) m [] = zf B m (some a :: List.replicate n none) := by
  funext x
  unfold zf
  apply propext
  constructor
  · rintro ((h | h) | h | h)
    · exact .inl h
    · exact .inr (.inr (h ▸ List.mem_cons_self))
    · exact .inr (.inl h)
    · exact (List.not_mem_nil h).elim
  · rintro (h | h | h)
    · exact .inl (.inl h)
    · exact .inr (.inl h)
    · rcases List.mem_cons.mp h with h | h
      · exact .inl (.inr (Option.some.inj h))
      · cases (List.mem_replicate.mp h).2
section
variable {K : PySem.W.Frag} {P : Program} {w : World} {mg : Str → Option Value} {base : Heap}
theorem spIn_len {n k : Nat} {f : Sy} {vs : List V} {H : Hp} {Q : VK} {E : XK} (h : spIn K (runI n k f) vs H Q E) : vs.length = n := by
  obtain ⟨B, m, S, c, ds, a, us, rfl, _, _, _, _, r, q⟩ := h
  unfold runI at q
  split at q
  · rw [List.length_cons, reps_len r]; assumption
  · exact q.elim
theorem bodyI_of {X : Cx} {N : List Str} {body : List Stmt} {f : Sy} {E : XK} {n k : Nat} (hφ : ∀ b, BasePred.Φ b) (hN : N.length = n + k) (h : Ess K X (fun c d _ H => E c d H) body f) {vs : List V} {H : Hp} {Q : VK} (hsp : spIn K (runI n k f) vs H Q E) :
    ∃ t, PSs X body t ∧ t { nx := fun _ H' => Q .non H', rt := Q } (L2.start N vs) H := by
  obtain ⟨ts, p1, h1⟩ := h.run
  refine ⟨ts, p1, ?_⟩
  have hl := spIn_len hsp
  obtain ⟨B, m, S, c, ds, a, us, rfl, hz, cl, cr, ⟨k0, fs0, rfl⟩, r, q⟩ := hsp
  have hus := reps_len r
  unfold runI at q
  split at q
  · rename_i hn
    have ze : ∀ {m' : List Addr} {H' : Hp} {n : Nat}, wo K (fun x => B x ∨ x = a) m' [] H' = wo K B m' (some a :: List.replicate n none) H' := by
      intro m' H' n
      show (⟨K, zf (fun x => B x ∨ x = a) m' [], m', H'⟩ : Wo) = ⟨K, zf B m' (some a :: List.replicate n none), m', H'⟩
      rw [zf_a]
    have mem1 : ∀ {x : Addr} {n : Nat}, some x ∈ (some a :: List.replicate n (none : Option Addr)) → x = a := fun {x n} h => by
      rcases List.mem_cons.mp h with h | h
      · exact Option.some.inj h
      · cases (List.mem_replicate.mp h).2
    have get1 : ∀ {i n : Nat} {x : Addr}, (some a :: List.replicate n (none : Option Addr))[i]? = some (some x) → i = 0 ∧ x = a := fun {i n x} h => by
      cases i with
      | zero => simp at h; exact ⟨rfl, h.symm⟩
      | succ i =>
        rw [List.getElem?_cons_succ] at h
        cases (List.mem_replicate.mp (List.mem_of_getElem? h)).2
    have oa : ¬ Fr H a := by
      obtain ⟨dx, gs, e, _⟩ := cr
      exact fun z => z.no e fun _ z => by cases z
    refine h1 ⟨B, m, off a H, some a⟩ m (some a :: List.replicate (ds.length + k) none) H _ (.own (.ins k0 fs0) :: (ds.map Sl.val ++ List.replicate k .no)) S _ ⟨⟨fun x hx => cl.hB x (.inl hx), cl.nd, fun x hx z => cl.nB x (.inl hx) (.inr (mem1 z)), fun x hx z => ?_, fun i j x h1 h2 => (get1 h1).1.trans (get1 h2).1.symm, fun x hx => ?_, cl.len, fun n x c h1 h2 => by rw [← ze]; exact cl.cs n x c h1 h2, cl.tb, fun x z => cl.nt x (z.elim (fun h => .inl (.inl h)) fun h => h.elim (fun h => .inr (.inl h)) fun h => .inl (.inr (mem1 h)))⟩, ?_, fun i s hs => ?_, ?_, fun x hx => ?_, fun i x hx => ?_, fun x hx => ?_, hφ _⟩ ?_
    · rcases hx with hx | hx
      · exact cl.nB x (.inl hx) (.inl z)
      · rw [mem1 hx] at z
        exact hz (.inl z)
    · rw [mem1 hx]; exact oa
    · unfold L2.start
      simp
      omega
    · rw [← ze]
      cases i with
      | zero =>
        simp at hs
        subst hs
        exact ⟨a, by simp [L2.start], by simp, cr⟩
      | succ i =>
        rw [List.getElem?_cons_succ] at hs
        by_cases l : i < ds.length
        · rw [List.getElem?_append_left (by simpa using l), List.getElem?_map, List.getElem?_eq_getElem l] at hs
          cases hs
          obtain ⟨v, h1, h2⟩ := reps_get r (List.getElem?_eq_getElem l)
          refine ⟨v, ?_, h2⟩
          unfold L2.start
          rw [List.map_cons, List.cons_append, List.getElem?_cons_succ, List.getElem?_append_left (by simp; omega), List.getElem?_map, h1]
          rfl
        · rw [List.getElem?_append_right (by simpa using l)] at hs
          have := List.mem_of_getElem? hs
          rw [(List.mem_replicate.mp this).2]
          exact True.intro
    · refine ⟨⟨[], by simp, by simp⟩, fun x o e _ _ => ?_, fun x e => ?_⟩
      · by_cases z : x = a
        · have e : off a H x = some o := e
          rw [z, off_self] at e; cases e
        · have e : off a H x = some o := e
          rwa [off_ne z] at e
      · intro o eo
        by_cases z : x = a
        · have eo : off a H x = some o := eo
          rw [z, off_self] at eo; cases eo
        · have eo : off a H x = some o := eo
          rw [off_ne z] at eo; exact e o eo
    · rw [mem1 hx]; exact .none off_self
    · rw [(get1 hx).1]
      exact ⟨_, rfl⟩
    · cases hx
      exact ⟨by simp [L2.start], by simp, k0, fs0, by simp⟩
    · generalize f (.own (.ins k0 fs0) :: (ds.map Sl.val ++ List.replicate k .no)) S = rs at q ⊢
      have back : ∀ {m' : List Addr} {ow' : List (Option Addr)} {H' : Hp} {S' : Store}, some a ∈ ow' → Cells K B m' ow' H' S' → Cells K (fun x => B x ∨ x = a) m' [] H' S' ∧ Le (wo K B m' ow' H') (wo K (fun x => B x ∨ x = a) m' [] H') := fun {m' ow' H' S'} ha c => by
        have l : Le (wo K B m' ow' H') (wo K (fun x => B x ∨ x = a) m' [] H') := ⟨rfl, fun x o _ _ z => by
          rintro ((h | h) | h | h)
          · exact z (.inl h)
          · exact z (.inr (.inr (h ▸ ha)))
          · exact z (.inr (.inl h))
          · exact (List.not_mem_nil h).elim, fun _ _ e => e, fun _ _ e _ _ => e⟩
        refine ⟨⟨fun x hx => hx.elim (c.hB x) fun h => h ▸ c.oh a ha, c.nd, fun x _ h => (List.not_mem_nil h).elim, fun x hx z => ?_, fun i j x h => by simp at h, fun x h => (List.not_mem_nil h).elim, c.len, fun n x y h1 h2 => (c.cs n x y h1 h2).le l fun o e _ => e, c.tb, fun x z => z.elim (fun h => h.elim (fun h => c.nt x (.inl h)) fun h => c.nt x (.inr (.inr (h ▸ ha)))) fun h => h.elim (fun h => c.nt x (.inr (.inl h))) fun h => (List.not_mem_nil h).elim⟩, l⟩
        rcases hx with hx | hx
        · rcases z with z | z
          · exact c.nB x (.inl hx) z
          · exact c.no x hx (z ▸ ha)
        · exact (List.not_mem_nil hx).elim
      cases rs with
      | nx e' S' =>
        intro σ' m' ow' H' t l
        obtain ⟨g1, g2, k1, fs1, g3⟩ := t.sf a rfl
        unfold RS.resI at q
        simp only [g3] at q
        obtain ⟨c2, l2⟩ := back (List.mem_of_getElem? g2) t.cells
        obtain ⟨a', h1, h2, h3⟩ := t.slots 0 _ g3
        rw [g1] at h1
        cases h1
        exact q m' H' t.fut c2 (h3.le l2 fun o e _ => e)
      | er x e' S' =>
        intro c d σ' m' ow' H' t l rx
        obtain ⟨g1, g2, k1, fs1, g3⟩ := t.sf a rfl
        obtain ⟨c2, l2⟩ := back (List.mem_of_getElem? g2) t.cells
        exact q c d m' H' t.fut c2 (ExR.le l2 rx)
      | rt d S' => exact q.elim
      | bk e' S' => exact q.elim
      | ct e' S' => exact q.elim
      | no => exact q.elim
  · exact q.elim
theorem fo_in {x qual : Str} {st : Stmt} {fa : Addr} {N ps : List Str} {lv n k : Nat} {f : Sy} (F : ∃ fd, FunD K x qual (defArgs st) (defBody st) (defScope st) [] [] fa fd) (S : FnScope N ps (defScope st))
    (hb : ∀ (kV doc pm : Value) (an : Option Addr) (cdv ct : Value) (us : List Value), us.length = ps.length → bindArgs (PySem.W.fnOf x qual (defArgs st) (defBody st) (defScope st) .none kV doc pm an cdv ct) ⟨us, []⟩ = pure (ps.zip us)) (hn : ps.length = n) (hN : N.length = n + k) (hφ : ∀ b, BasePred.Φ b)
    (hbody : ∀ (cdv : Value) (A : Around) (outer : List Env) (s : Shared) (H : Hp) (E : XK), Room lv (A.deeper (envOfC qual (defScope st) s.heap.objs.size fa cdv)) →
      Ess K (cxOf (L2.CX P w) P w K mg base N qual (defScope st) fa cdv A outer s H E) (fun c d _ H => E c d H) (defBody st) f) : Fo P w K mg base fa (lv + 1) ps (spIn K (runI n k f)) :=
  fo_mk F S hb (fun vs H Q E h => by rw [spIn_len h, hn]) fun cdv A outer s H vs Q E hr hsp => bodyI_of hφ hN (hbody cdv A outer s H E hr) hsp
end
end Sh
namespace Sh
open PySem PySem.Spec PyProof.Rows L2 Nk StX
variable [TabSet] [BasePred]
def Shi (K : PySem.W.Frag) (sp : Sp) (f : Cell → List D → Store → R Cell) : Prop := ∀ B m S c ds a us H Q E, ¬ zf B m [] a → Cells K (fun x => B x ∨ x = a) m [] H S → CRep (wo K (fun x => B x ∨ x = a) m [] H) a c → (∃ k fs, c = .ins k fs) → Reps (wo K (fun x => B x ∨ x = a) m [] H) ds us → PostN K B m a H E Q (f c ds S) → sp (.ref a :: us) H Q E
theorem shi_in {K : PySem.W.Frag} {f : Cell → List D → Store → R Cell} : Shi K (spIn K f) f := fun B m S c ds a us H Q E h1 h2 h3 h4 h5 h6 => ⟨B, m, S, c, ds, a, us, rfl, h1, h2, h3, h4, h5, h6⟩
def dflF (dv : List D) (f : List D → Store → R D) (ds : List D) (S : Store) : R D := f (ds ++ dv) S
def dflI (dv : List D) (f : Cell → List D → Store → R Cell) (c : Cell) (ds : List D) (S : Store) : R Cell := f c (ds ++ dv) S
section
variable {K : PySem.W.Frag}
theorem Cells.grow {B : Addr → Prop} {m : List Addr} {ow : List (Option Addr)} {H H' : Hp} {S : Store} (c : Cells K B m ow H S) (s : Same H H') : Cells K B m ow H' S := c.same s
theorem fut_off {m m' : List Addr} {a : Addr} {H H1 H' : Hp} (s : Same H H1) (f : Fut m (off a H1) m' H') : Fut m (off a H) m' H' := by
  obtain ⟨⟨r, e, hr⟩, k, d⟩ := f
  have g : ∀ x, Fr (off a H1) x → Fr (off a H) x := fun x h o e => by
    by_cases z : x = a
    · rw [z, off_self] at e; cases e
    · rw [off_ne z] at e
      exact h o (by rw [off_ne z]; exact s _ _ e)
  refine ⟨⟨r, e, fun x hx => g x (hr x hx)⟩, fun x o h n hm => k x o ?_ n hm, fun x h => g x (d x h)⟩
  by_cases z : x = a
  · rw [z, off_self] at h; cases h
  · rw [off_ne z] at h ⊢
    exact s _ _ h
theorem PostN.same {B : Addr → Prop} {m : List Addr} {a : Addr} {H H1 : Hp} {E : XK} {Q : VK} {r : R Cell} (h : PostN K B m a H E Q r) (s : Same H H1) : PostN K B m a H1 E Q r := by
  cases r with
  | ok y S => exact fun m' H' f => h m' H' (fut_off s f)
  | er x S => exact fun c d m' H' f => h c d m' H' (fut_off s f)
  | no => exact h
theorem shp_dfl {sp : Sp} {f : List D → Store → R D} {dv : List D} {vv : List V} (hd : ∀ w, Reps w dv vv) (h : Shp K sp f) : Shp K (fun vs H Q E => sp (vs ++ vv) H Q E) (dflF dv f) := fun B m S ds vs H Q E c r q => h B m S _ _ H Q E c (reps_app r (hd _)) q
theorem shi_dfl {sp : Sp} {f : Cell → List D → Store → R Cell} {dv : List D} {vv : List V} (hd : ∀ w, Reps w dv vv) (h : Shi K sp f) : Shi K (fun vs H Q E => sp (vs ++ vv) H Q E) (dflI dv f) := fun B m S c ds a us H Q E h1 h2 h3 h4 r q => h B m S c _ a _ H Q E h1 h2 h3 h4 (reps_app r (hd _)) q
theorem made_post {B : Addr → Prop} {ow : List (Option Addr)} {m : List Addr} {H : Hp} {S : Store} {W : Value → Option Addr → Hp → Prop} {Q : VK} {r : R Cell} {a dx : Addr} {C : Addr} (cl : Cells K B m ow H S) (ha : H a = none) (hd : H dx = none) (hne : dx ≠ a)
    (q : Post K B ow m H Rep W Q (r.bind fun c S => .ok c.tree S)) : PostN K (hidB B ow) m a (upd (upd H dx (.own a)) a (.ins C dx [])) (fun c d => W c d) (fun v H3 => v = .non ∧ Q (.ref a) H3) r := by
  have s : Same H (upd (upd H dx (.own a)) a (.ins C dx [])) := fun b o hb => by
    rw [upd_ne (ne_of_none hb ha), upd_ne (ne_of_none hb hd)]
    exact hb
  have fut : ∀ {m' : List Addr} {H' : Hp}, Fut m (off a (upd (upd H dx (.own a)) a (.ins C dx []))) m' H' → Fut m H m' H' := fun {m' H'} f => by
    have f2 := fut_off s f
    obtain ⟨⟨r, e, hr⟩, k, d⟩ := f2
    have g : ∀ x, Fr (off a H) x → Fr H x := fun x h o e => by
      by_cases z : x = a
      · rw [z, ha] at e; cases e
      · exact h o (by rw [off_ne z]; exact e)
    refine ⟨⟨r, e, fun x hx => g x (hr x hx)⟩, fun x o h n hm => k x o ?_ n hm, fun x h => g x (d x h)⟩
    rw [off_ne (ne_of_none h ha)]
    exact h
  have cells : ∀ {m' : List Addr} {H' : Hp} {S' : Store}, Cells K (fun x => hidB B ow x ∨ x = a) m' [] H' S' → Cells K B m' ow H' S' := fun c => cl.ofHid c.unhide
  have le : ∀ {m' : List Addr} {H' : Hp}, Le (wo K (fun x => hidB B ow x ∨ x = a) m' [] H') (wo K B m' ow H') := fun {m' H'} => by
    rw [← wo_hid (B := B) (ow := ow)]
    exact le_hid
  cases r with
  | no => exact q
  | er x S => exact fun c d m' H' f c' rx => q c d m' H' (fut f) (cells c') (ExR.le le rx)
  | ok c S =>
    intro m' H' f c' rc
    refine ⟨rfl, q _ m' H' (fut f) (cells c') (crep_tree (rc.le le fun o e _ => e) ?_)⟩
    rintro (z | z | z)
    · exact cl.hB a z (.none ha)
    · exact c'.nB a (.inl z) (.inr rfl)
    · exact cl.oh a z (.none ha)
end
def eMk (c : String) (f : Cell → List D → Store → R Cell) (g : Sx D) (a : Sx (List D)) (e : En) (S : Store) : R D := (g e S).bind fun x S1 => match x with
  | .cls c' => if c' = c then (a e S1).bind fun ds S2 => (f (.ins c []) ds S2).bind fun c' S3 => .ok c'.tree S3 else .no
  | _ => .no
section
variable {K : PySem.W.Frag} {X : Cx} {W : WX} {ex ex2 : Expr} {es : List Expr} {f g : Sx D} {a : Sx (List D)} {pos p p0 apos : Pos} {i lv j : Nat} {x m : Str} {ps : List Str} {sp : Sp} {F : Cell → List D → Store → R Cell} {cs : List String} {c : String} {fa : Addr}
theorem mk_rd {tf : TE} {ta : TA} (h2 : ∀ b m ow H σ e S Q, At K b m ow H σ e S → Post K b.B ow m H Rep (fun c d => W c d σ) Q (g e S) → tf σ H Q) (h1 : ∀ b m ow H σ e S Q, At K b m ow H σ e S → Post K b.B ow m H Reps (fun c d => W c d σ) Q (a e S) → ta σ H Q) (hs : Shi K sp F) :
    ∀ b m ow H σ e S Q, At K b m ow H σ e S → Post K b.B ow m H Rep (fun c d => W c d σ) Q (eMk c F g a e S) → tMkW (He.ga K c) sp W tf ta σ H Q := by
  refine fun b m ow H σ e S Q t q => h2 b m ow H σ e S _ t (Post.bind q fun d S1 v m1 H1 f1 c1 rx q => ?_)
  cases d <;> try exact q.elim
  rename_i c'
  dsimp only at q
  split at q
  · rename_i hi
    subst hi
    unfold Rep at rx
    subst rx
    refine ⟨rfl, h1 b m1 ow H1 σ e S1 _ (t.go f1 c1) (Post.bind q fun ds S2 vs m2 H2 f2 c2 ry q => fun x dx hx hd hne => ?_)⟩
    have s : Same H2 (upd (upd H2 dx (.own x)) x (.ins (He.ga K c') dx [])) := fun b o hb => by
      rw [upd_ne (ne_of_none hb hx), upd_ne (ne_of_none hb hd)]
      exact hb
    have hz : ¬ zf (hidB b.B ow) m2 [] x := by
      rw [zf_hid]
      exact fun z => c2.full x z (.none hx)
    have ch := c2.toHid.same s
    have le : Le (wo K (hidB b.B ow) m2 [] H2) (wo K (fun y => hidB b.B ow y ∨ y = x) m2 [] (upd (upd H2 dx (.own x)) x (.ins (He.ga K c') dx []))) := ⟨rfl, fun y o e _ z => by
      rintro ((h | h) | h | h)
      · exact z (.inl h)
      · have e : H2 y = some o := e
        rw [h, hx] at e; cases e
      · exact z (.inr (.inl h))
      · exact z (.inr (.inr h)), fun _ _ e => e, fun y o e _ _ => s _ _ e⟩
    refine hs (hidB b.B ow) m2 S2 (.ins c' []) ds x vs _ _ _ hz ⟨fun y hy z => ?_, ch.nd, fun y _ h => (List.not_mem_nil h).elim, fun y hy z => ?_, fun i j y h => by simp at h, fun y h => (List.not_mem_nil h).elim, ch.len, fun n y cc h1 h2 => ?_, ch.tb, fun y z xs hx => if e : y = x then (by rw [e, upd_same] at hx; cases hx) else ch.nt y (z.imp (fun h => h.elim id fun h => (e h).elim) id) xs hx⟩ ⟨dx, [], upd_same, by unfold RepF; rfl⟩ ⟨_, _, rfl⟩ (Reps.le le ds (by rw [wo_hid]; exact ry)) (made_post c2 hx hd hne q)
    · rcases hy with hy | hy
      · exact ch.hB y hy z
      · exact (hy ▸ z : Fr _ x).no upd_same fun _ z => by cases z
    · rcases hy with hy | hy
      · rcases z with z | z
        · exact ch.nB y (.inl hy) z
        · rw [z] at hy; exact hz (.inr (.inl hy))
      · exact (List.not_mem_nil hy).elim
    · have := c2.toHid.cs n y cc h1 h2
      exact this.le le fun o e _ => s _ _ e
  · exact q.elim
theorem x_mk (hK : X.K = K) (hf : Ev K X W (.Name x p) g) (M : Mk K (He.ga K c) fa) (hF : Fs X.prog X.w K X.mg X.base fa lv sp) (hs : Shi K sp F) (hr : Room j X.A) (hk : lv + 1 ≤ j) (tk : Takes X W) (ha : Ea K X W (ex :: es) a)
    (he : starEach (ex :: es) X.env = (false, eval ex X.env) :: starEach es X.env := by rfl) (hpl : (backTo pos (starEach es X.env)).any (·.1) = false := by rfl) : Ev K X W (.Call (.Name x p) (ex :: es) [] pos) (eMk c F g a) := by
  subst hK
  obtain ⟨tb, p2, h2⟩ := hf.run
  obtain ⟨ta, p1, h1⟩ := ha.run
  exact ⟨_, pe_clsW p2 M hF hr hk tk p1 he hpl, mk_rd h2 h1 hs⟩
end
def putD (f : Str) (d : D) : List (Str × D) → List (Str × D)
  | [] => [(f, d)]
  | (g, x) :: r => if f = g then (g, d) :: r else (g, x) :: putD f d r
def sFdO (c : String) (fd : Str) (f : Sx D) (e : En) (S : Store) : RS := (f e S).run e fun d S1 => match (e[0]? : Option Sl) with
  | some (Sl.own (.ins c' fs)) => if c' = c ∧ fs.length < 999 then .nx (e.set 0 (.own (.ins c' (putD fd d fs)))) S1 else .no
  | _ => .no
end Sh
namespace Sh
open PySem PySem.Spec PyProof.Rows L2 Nk StX
variable [TabSet] [BasePred]
theorem repF_put {w : Wo} {f : Str} {d : D} {v : V} (r : Rep w d v) : ∀ {fs : List (Str × D)} {gs : List (Str × V)}, RepF w fs gs → RepF w (putD f d fs) (putF f v gs)
  | [], _, h => by unfold RepF at h; rw [h]; unfold putD putF RepF; exact ⟨v, [], rfl, r, by unfold RepF; rfl⟩
  | (g, x) :: fs, _, h => by
    unfold RepF at h
    obtain ⟨u, k, rfl, a, h⟩ := h
    unfold putD putF
    by_cases e : f = g
    · rw [if_pos e, if_pos e.symm]
      unfold RepF
      exact ⟨v, k, rfl, r, h⟩
    · rw [if_neg e, if_neg (fun z => e z.symm)]
      unfold RepF
      exact ⟨u, _, rfl, a, repF_put r h⟩
section
variable {K : PySem.W.Frag} {X : Cx} {W : WX} {ex ex2 value : Expr} {es : List Expr} {f g : Sx D} {a : Sx (List D)} {pos p p0 apos pos' : Pos} {i lv j : Nat} {x m fd : Str} {ps : List Str} {sp : Sp} {cs : List String} {c : String} {fa : Addr}
theorem s_fdO (hK : X.K = K) (hN : X.N[0]? = some x) (hv : Vis X.env.scope x) (hc : Cls K (He.ga K c)) (hn : NoAttr K (He.ga K c) fd) (hf : Ev K X W value f) (hs : swapsWith value (some (.Attribute (.Name x p) fd pos')) pos.line X.env = pure false := by rfl)
    (hd : (x == ("__debug__" : Str)) = false := by decide) (hcd : (x == ("__classdict__" : Str)) = false := by decide) : Es K X W (.Assign [.Attribute (.Name x p) fd pos'] value pos) (sFdO c fd f) := by
  subst hK
  obtain ⟨te, p1, h1⟩ := hf.run
  refine ⟨_, ps_fld (pe_var hN hv hd hcd) p1 hs, fun b m ow H σ e S D t z => h1 b m ow H σ e S _ t (PostS.run t z fun d S1 v m1 H1 t1 f1 r y => ?_)⟩
  split at y
  · rename_i c' fs q
    split at y
    · rename_i hi
      obtain ⟨rfl, hl⟩ := hi
      obtain ⟨a, h2, h3, dx, gs, hH, rf⟩ := t1.slots 0 _ q
      have hH : H1 a = some (.ins (He.ga X.K c') dx gs) := hH
      have hgl := repF_len rf
      refine ⟨.ref a, h2, a, _, dx, gs, rfl, hH, hc, hn, by omega, ?_⟩
      have keep : ∀ x o, x ≠ a → H1 x = some o → upd H1 a (.ins (He.ga X.K c') dx (putF fd v gs)) x = some o := fun x o n h => by rw [upd_ne n]; exact h
      have dom : ∀ x, Fr (upd H1 a (.ins (He.ga X.K c') dx (putF fd v gs))) x → Fr H1 x := fun x h => h.upd fun _ z => by cases z
      have le : Le (wo X.K b.B m1 ow H1) (wo X.K b.B m1 ow (upd H1 a (.ins (He.ga X.K c') dx (putF fd v gs)))) := ⟨rfl, fun _ _ _ _ h => h, fun _ _ h => h, fun x o h _ z => keep x o (fun q => z (by rw [q]; exact .inr (.inr (List.mem_of_getElem? h3)))) h⟩
      obtain ⟨t2, l2⟩ := t1.own_upd (c' := .ins c' (putD fd d fs)) h3 q h2 keep dom ⟨dx, _, upd_same, repF_put (Rep.le le d r) (RepF.le le fs rf)⟩ fun _ _ _ => ⟨_, _, rfl⟩
      exact y _ m1 _ _ t2 l2
    · exact y.elim
  · exact y.elim
def sFdC (cs : List String) (fd : Str) (g f : Sx D) (e : En) (S : Store) : RS := (f e S).run e fun d S1 => (g e S1).run e fun o S2 => match o with
  | .ref n => match S2[n]? with
    | some (.ins c fs) => if c ∈ cs ∧ fs.length < 999 then .nx e (S2.set n (.ins c (putD fd d fs))) else .no
    | _ => .no
  | _ => .no
theorem cell_put {b : Bs} {m : List Addr} {ow : List (Option Addr)} {H H' : Hp} {σ : L2.St} {e : En} {S : Store} {n : Nat} {a : Addr} {c' : Cell} (t : At K b m ow H σ e S) (hm : m[n]? = some a) (keep : ∀ x o, x ≠ a → H x = some o → H' x = some o) (dom : ∀ x, Fr H' x → Fr H x) (r : CRep (wo K b.B m ow H') a c') :
    At K b m ow H' σ e (S.set n c') ∧ Fut m H m H' := by
  obtain ⟨c, f⟩ := t.cells.put hm keep dom r
  exact ⟨t.go f c, f⟩
theorem upd_keep {H : Hp} {a : Addr} {o : HO} : ∀ x u, x ≠ a → H x = some u → L2.upd H a o x = some u := fun x u n h => by rw [upd_ne n]; exact h
theorem le_put {B : Addr → Prop} {m : List Addr} {ow : List (Option Addr)} {H : Hp} {a : Addr} {o : HO} (h : zf B m ow a) : Le (wo K B m ow H) (wo K B m ow (L2.upd H a o)) := ⟨rfl, fun _ _ _ _ h => h, fun _ _ h => h, fun x u e _ z => upd_keep x u (fun q => z (q ▸ h)) e⟩
theorem s_fdC (hK : X.K = K) (hc : FldOk K fd cs) (ho : Ev K X W ex g) (hf : Ev K X W value f) (hs : swapsWith value (some (.Attribute ex fd pos')) pos.line X.env = pure false := by rfl) : Es K X W (.Assign [.Attribute ex fd pos'] value pos) (sFdC cs fd g f) := by
  subst hK
  obtain ⟨te, p1, h1⟩ := hf.run
  obtain ⟨to, p2, h2⟩ := ho.run
  refine ⟨_, ps_fld p2 p1 hs, fun b m ow H σ e S D t z => h1 b m ow H σ e S _ t (PostS.run t z fun d S1 v m1 H1 t1 f1 r z => h2 b m1 ow H1 σ e S1 _ t1 (PostS.run t1 z fun o S2 u m2 H2 t2 f2 ro z => ?_))⟩
  cases o <;> try exact z.elim
  rename_i n
  unfold Rep at ro
  obtain ⟨a, rfl, hm⟩ := ro
  dsimp only at z
  cases q : S2[n]? with
  | none => rw [q] at z; exact z.elim
  | some cc =>
    rw [q] at z
    cases cc <;> try exact z.elim
    rename_i c fs
    dsimp only at z
    split at z
    · rename_i hi
      obtain ⟨dx, gs, hH, rf⟩ := cell_ins t2.cells hm q
      have hgl := repF_len rf
      refine ⟨a, _, dx, gs, rfl, hH, (hc c hi.1).1, (hc c hi.1).2, by omega, ?_⟩
      have am : zf b.B m2 ow a := .inr (.inl (List.mem_of_getElem? hm))
      obtain ⟨t3, f3⟩ := cell_put (c' := .ins c (putD fd d fs)) t2 hm (upd_keep (o := .ins (He.ga X.K c) dx (putF fd v gs))) (fun x h => h.upd fun _ z => by cases z) ⟨dx, _, upd_same, repF_put (Rep.le (le_put am) d (Rep.le f2.le d r)) (RepF.le (le_put am) fs rf)⟩
      exact z _ m2 _ _ t3 f3.le
    · exact z.elim
def sFdA (cs : List String) (fd : Str) (k : Int → Int → Int) (g f : Sx D) (e : En) (S : Store) : RS := (g e S).run e fun o S1 => match o with
  | .ref n => match S1[n]? with
    | some (.ins c fs) => if c ∈ cs then (match fs.lookup fd with
      | some (.int i) => (f e S1).run e fun d S2 => match d, S2[n]? with
        | .int l, some (.ins c2 fs2) => if c2 = c ∧ fs2.length < 999 then .nx e (S2.set n (.ins c (putD fd (.int (k i l)) fs2))) else .no
        | _, _ => .no
      | _ => .no) else .no
    | _ => .no
  | _ => .no
theorem s_fdA {op : Operator} {k : Int → Int → Int} (hop : InOp X op fun x y H Q => ∃ i j, x = .int i ∧ y = .int j ∧ Q (.int (k i j)) H) (hK : X.K = K) (hc : FldOk K fd cs) (ho : Ev K X W ex g) (hf : Ev K X W value f) : Es K X W (.AugAssign (.Attribute ex fd pos') op value pos) (sFdA cs fd k g f) := by
  subst hK
  obtain ⟨te, p1, h1⟩ := hf.run
  obtain ⟨to, p2, h2⟩ := ho.run
  refine ⟨_, ps_fldaug p2 p1 hop, fun b m ow H σ e S D t z => h2 b m ow H σ e S _ t (PostS.run t z fun o S1 u m1 H1 t1 f1 ro z => ?_)⟩
  cases o <;> try exact z.elim
  rename_i n
  unfold Rep at ro
  obtain ⟨a, rfl, hm⟩ := ro
  dsimp only at z
  cases q : S1[n]? with
  | none => rw [q] at z; exact z.elim
  | some cc =>
    rw [q] at z
    cases cc <;> try exact z.elim
    rename_i c fs
    dsimp only at z
    split at z
    · rename_i hi
      obtain ⟨dx, gs, hH, rf⟩ := cell_ins t1.cells hm q
      cases l : fs.lookup fd with
      | none => rw [l] at z; exact z.elim
      | some d0 =>
        rw [l] at z
        cases d0 <;> try exact z.elim
        rename_i i0
        dsimp only at z
        obtain ⟨v0, hl, rv⟩ := repF_get rf l
        unfold Rep at rv
        subst rv
        refine ⟨a, _, dx, gs, _, rfl, hH, (hc c hi).1, (hc c hi).2, hl, h1 b m1 ow H1 σ e S1 _ t1 (PostS.run t1 z fun d S2 v m2 H2 t2 f2 r z => ?_)⟩
        cases d <;> try exact z.elim
        rename_i l0
        unfold Rep at r
        subst r
        cases q2 : S2[n]? with
        | none => rw [q2] at z; exact z.elim
        | some cc =>
          rw [q2] at z
          cases cc <;> try exact z.elim
          rename_i c2 fs2
          dsimp only at z
          split at z
          · rename_i hi2
            obtain ⟨rfl, hl2⟩ := hi2
            have hm2 : m2[n]? = some a := f2.le (K := X.K) (B := b.B) (ow := ow) |>.m n a hm
            obtain ⟨dx2, gs2, hH2, rf2⟩ := cell_ins t2.cells hm2 q2
            have hgl := repF_len rf2
            refine ⟨_, _, rfl, rfl, dx2, gs2, hH2, by omega, ?_⟩
            have am : zf b.B m2 ow a := .inr (.inl (List.mem_of_getElem? hm2))
            obtain ⟨t3, f3⟩ := cell_put (c' := .ins c2 (putD fd (.int (k i0 l0)) fs2)) t2 hm2 (upd_keep (o := .ins (He.ga X.K c2) dx2 (putF fd (.int (k i0 l0)) gs2))) (fun x h => h.upd fun _ z => by cases z) ⟨dx2, _, upd_same, repF_put rep_int (RepF.le (le_put am) fs2 rf2)⟩
            exact z _ m2 _ _ t3 f3.le
          · exact z.elim
    · exact z.elim
def sRs (c : String) (fs : List Str) (a : Sx (List D)) (e : En) (S : Store) : RS := (a e S).run e fun ds S1 => if ds.length = fs.length then .er ⟨c, (fs.zip ds).reverse⟩ e S1 else .no
theorem mkO1 {C : Addr} {fld : Str} {v : V} {H : Hp} {Q : XK} (h : ∀ d H', Same H H' → H d = none → H' d = some (.xd [(fld, v)]) → Q (.ref C) (some d) H') : [v].length ≤ 1000 ∧ ∀ a, H a = none → spExc1 C fld (.ref a :: ([v] ++ [])) (L2.upd H a (exo a C none))
    (fun u H2 => u = .non ∧ ∃ (d : Addr) (fs : List (Str × V)), H2 a = some (exo a C (some d)) ∧ H2 d = some (exd d fs) ∧ H d = none ∧ Q (.ref C) (some d) (L2.upd (del H2 a) d (.xd fs))) (fun _ _ _ => False) := by
  refine ⟨by simp, fun a ha => ⟨a, v, rfl, upd_same, fun dx hd hne => ⟨rfl, dx, [(fld, v)], upd_same, by rw [upd_ne hne, upd_same], ?_, ?_⟩⟩⟩
  · rw [upd_ne hne] at hd
    exact hd
  · have hd' : H dx = none := by rw [upd_ne hne] at hd; exact hd
    refine h dx _ (fun b o hb => ?_) hd' upd_same
    have h1 : b ≠ dx := ne_of_none hb hd'
    have h2 : b ≠ a := ne_of_none hb ha
    rw [upd_ne h1, del_ne h2, upd_ne h2, upd_ne h1, upd_ne h2]
    exact hb
theorem mkO2 {C : Addr} {f g : Str} {v u : V} {H : Hp} {Q : XK} (h : ∀ d H', Same H H' → H d = none → H' d = some (.xd [(g, u), (f, v)]) → Q (.ref C) (some d) H') : [v, u].length ≤ 1000 ∧ ∀ a, H a = none → spExc2 C f g (.ref a :: ([v, u] ++ [])) (L2.upd H a (exo a C none))
    (fun z H2 => z = .non ∧ ∃ (d : Addr) (fs : List (Str × V)), H2 a = some (exo a C (some d)) ∧ H2 d = some (exd d fs) ∧ H d = none ∧ Q (.ref C) (some d) (L2.upd (del H2 a) d (.xd fs))) (fun _ _ _ => False) := by
  refine ⟨by simp, fun a ha => ⟨a, v, u, rfl, upd_same, fun dx hd hne => ⟨rfl, dx, [(g, u), (f, v)], by rw [upd_ne (Ne.symm hne), upd_same], upd_same, ?_, ?_⟩⟩⟩
  · rw [upd_ne hne] at hd
    exact hd
  · have hd' : H dx = none := by rw [upd_ne hne] at hd; exact hd
    refine h dx _ (fun b o hb => ?_) hd' upd_same
    have h1 : b ≠ dx := ne_of_none hb hd'
    have h2 : b ≠ a := ne_of_none hb ha
    rw [upd_ne h1, del_ne h2, upd_ne h1, upd_ne h2, upd_ne h1, upd_ne h2]
    exact hb
theorem exr_new {B : Addr → Prop} {m : List Addr} {ow : List (Option Addr)} {H H' : Hp} {S : Store} {c : String} {fs : List (Str × D)} {gs : List (Str × V)} {d : Addr} (cl : Cells K B m ow H S) (s : Same H H') (hd : H d = none) (h : H' d = some (.xd gs)) (r : RepF (wo K B m ow H) fs gs) : ExR (wo K B m ow H') ⟨c, fs⟩ (.ref (He.ga K c)) (some d) :=
  ⟨rfl, d, gs, rfl, fun z => cl.full d z (.none hd), h, RepF.le (Fut.same s).le fs r⟩
theorem s_rs1 {g1 : Str} {fI : Addr} (hK : X.K = K) (hc : X.calm = true) (tk : Takes X W) (T : OexC K (He.ga K c)) (iC : PySem.W.findIn K (.ref (He.ga K c)) "__init__" = some (some (.ref fI))) (tI : PySem.W.typeIn K (.ref fI) = some (.type "function")) (hF : Fo X.prog X.w K X.mg X.base fI lv ps (spExc1 (He.ga K c) g1)) (hr : Room j X.A) (hk : lv + 1 ≤ j) (hg : Gl X x) (hm : X.mg x = some (.ref (He.ga K c))) (ha : Ea K X W (ex :: es) a)
    (hdb : (x == ("__debug__" : Str)) = false := by decide) (he : starEach (ex :: es) X.env = (false, eval ex X.env) :: starEach es X.env := by rfl) (hpl : (backTo pos (starEach es X.env)).any (·.1) = false := by rfl) : Es K X W (.Raise (some (.Call (.Name x p) (ex :: es) [] pos)) none pos') (sRs c [g1] a) := by
  subst hK
  obtain ⟨ta, p1, h1⟩ := ha.run
  refine ⟨_, ps_raise hc tk (pmk_ex T iC tI hF hr hk hg hm p1 hdb he hpl), fun b m ow H σ e S D t z => h1 b m ow H σ e S _ t (PostS.run t z fun ds S1 vs m1 H1 t1 f1 r z => ?_)⟩
  split at z
  · rename_i hl
    match ds, hl with
    | [d], _ =>
      unfold Reps at r
      obtain ⟨v, us, rfl, rv, r⟩ := r
      unfold Reps at r
      subst r
      refine mkO1 (Q := fun c d H' => W c d σ H') fun dd H' s hd e => z _ _ _ _ _ _ (t1.same s) (Fut.same s).le (exr_new t1.cells s hd e ?_)
      show RepF _ [(g1, d)] _
      unfold RepF RepF
      exact ⟨v, [], rfl, rv, rfl⟩
  · exact z.elim
theorem s_rs2 {g1 g2 : Str} {fI : Addr} (hK : X.K = K) (hc : X.calm = true) (tk : Takes X W) (T : OexC K (He.ga K c)) (iC : PySem.W.findIn K (.ref (He.ga K c)) "__init__" = some (some (.ref fI))) (tI : PySem.W.typeIn K (.ref fI) = some (.type "function")) (hF : Fo X.prog X.w K X.mg X.base fI lv ps (spExc2 (He.ga K c) g1 g2)) (hr : Room j X.A) (hk : lv + 1 ≤ j) (hg : Gl X x) (hm : X.mg x = some (.ref (He.ga K c))) (ha : Ea K X W (ex :: es) a)
    (hdb : (x == ("__debug__" : Str)) = false := by decide) (he : starEach (ex :: es) X.env = (false, eval ex X.env) :: starEach es X.env := by rfl) (hpl : (backTo pos (starEach es X.env)).any (·.1) = false := by rfl) : Es K X W (.Raise (some (.Call (.Name x p) (ex :: es) [] pos)) none pos') (sRs c [g1, g2] a) := by
  subst hK
  obtain ⟨ta, p1, h1⟩ := ha.run
  refine ⟨_, ps_raise hc tk (pmk_ex T iC tI hF hr hk hg hm p1 hdb he hpl), fun b m ow H σ e S D t z => h1 b m ow H σ e S _ t (PostS.run t z fun ds S1 vs m1 H1 t1 f1 r z => ?_)⟩
  split at z
  · rename_i hl
    match ds, hl with
    | [d, d2], _ =>
      unfold Reps at r
      obtain ⟨v, us, rfl, rv, r⟩ := r
      unfold Reps at r
      obtain ⟨v2, us, rfl, rv2, r⟩ := r
      unfold Reps at r
      subst r
      refine mkO2 (Q := fun c d H' => W c d σ H') fun dd H' s hd e => z _ _ _ _ _ _ (t1.same s) (Fut.same s).le (exr_new t1.cells s hd e ?_)
      show RepF _ [(g2, d2), (g1, d)] _
      unfold RepF RepF RepF
      exact ⟨v2, _, rfl, rv2, v, [], rfl, rv, rfl⟩
  · exact z.elim
end
end Sh
namespace Sh
open PySem PySem.Spec PyProof.Rows L2 Nk StX
variable [TabSet] [BasePred]
section
variable {K : PySem.W.Frag} {X : Cx}
def dLen : List D → Option D
  | [.str x] => some (.int x.length)
  | [.lst xs] => some (.int xs.length)
  | [.tup xs] => some (.int xs.length)
  | _ => none
theorem reps1 {w : Wo} {ds : List D} {vs : List V} {d : D} (r : Reps w ds vs) (e : ds = [d]) : ∃ v, vs = [v] ∧ Rep w d v := by
  subst e
  unfold Reps at r
  obtain ⟨v, us, rfl, a, r⟩ := r
  unfold Reps at r
  subst r
  exact ⟨v, rfl, a⟩
theorem rep_tree {w : Wo} {ds : List D} {v : V} (h : Rep w (.tup ds) v) : ∃ a vs, v = .ref a ∧ TrT w a vs ∧ Reps w ds vs := by unfold Rep at h; exact h
theorem rep_list {w : Wo} {ds : List D} {v : V} (h : Rep w (.lst ds) v) : ∃ a vs, v = .ref a ∧ TrL w a vs ∧ Reps w ds vs := by unfold Rep at h; exact h
theorem rep_strD {w : Wo} {x : Str} {v : V} (h : Rep w (.str x) v) : v = .str x ∧ x.length ≤ sizeLine := by unfold Rep at h; exact h
theorem rep_intD {w : Wo} {x : Int} {v : V} (h : Rep w (.int x) v) : v = .int x := by unfold Rep at h; exact h
theorem rep_blD {w : Wo} {x : Bool} {v : V} (h : Rep w (.bl x) v) : v = .bl x := by unfold Rep at h; exact h
theorem calls_len (hK : X.K = K) : CallS K X (.builtin "len") dLen := by
  subst hK
  refine ⟨_, call_len, fun w hw hf xs ds Q r q => ?_⟩
  unfold dLen at q
  split at q
  · obtain ⟨v, rfl, r1⟩ := reps1 r rfl
    obtain ⟨rfl, hl⟩ := rep_strD r1
    exact ⟨_, _, rfl, ⟨hl, rfl⟩, q.here rep_int⟩
  · obtain ⟨v, rfl, r1⟩ := reps1 r rfl
    obtain ⟨a, vs, rfl, t, r2⟩ := rep_list r1
    rw [← reps_len r2] at q
    exact ⟨_, _, rfl, .inl ⟨vs, hw ▸ t.sq, rfl⟩, q.here rep_int⟩
  · obtain ⟨v, rfl, r1⟩ := reps1 r rfl
    obtain ⟨a, vs, rfl, t, r2⟩ := rep_tree r1
    rw [← reps_len r2] at q
    exact ⟨_, _, rfl, .inr ⟨vs, hw ▸ t.sq, rfl⟩, q.here rep_int⟩
  · exact (q : False).elim
def dInt : List D → Option D
  | [.int i] => some (.int i)
  | [.bl b] => some (.int (if b then 1 else 0))
  | _ => none
theorem calls_int : CallS K X (.type "int") dInt := by
  refine ⟨_, call_int1, fun w hw hf xs ds Q r q => ?_⟩
  unfold dInt at q
  split at q
  · obtain ⟨v, rfl, r1⟩ := reps1 r rfl
    cases rep_intD r1
    exact .inl ⟨_, rfl, q.here rep_int⟩
  · obtain ⟨v, rfl, r1⟩ := reps1 r rfl
    cases rep_blD r1
    exact .inr ⟨_, rfl, q.here rep_int⟩
  · exact (q : False).elim
def dIntS : List D → Option D
  | [.str a] => if a.length ≤ 640 then (PySem.intText? a).map .int else none
  | _ => none
theorem calls_intS : CallS K X (.type "int") dIntS := by
  refine ⟨_, call_int_str, fun w hw hf xs ds Q r q => ?_⟩
  unfold dIntS at q
  split at q
  · obtain ⟨v, rfl, r1⟩ := reps1 r rfl
    obtain ⟨rfl, hl⟩ := rep_strD r1
    split at q
    · rename_i h6
      rename_i a
      cases e : PySem.intText? a with
      | none => rw [e] at q; exact (q : False).elim
      | some n => rw [e] at q; exact ⟨_, n, rfl, e, h6, q.here rep_int⟩
    · exact (q : False).elim
  · exact (q : False).elim
def dAbs : List D → Option D
  | [.int i] => some (.int (if i < 0 then -i else i))
  | _ => none
theorem calls_abs : CallS K X (.builtin "abs") dAbs := by
  refine ⟨_, call_abs, fun w hw hf xs ds Q r q => ?_⟩
  unfold dAbs at q
  split at q
  · obtain ⟨v, rfl, r1⟩ := reps1 r rfl
    cases rep_intD r1
    exact ⟨_, rfl, q.here rep_int⟩
  · exact (q : False).elim
def dList : List D → Option D
  | [.lst xs] => some (.lst xs)
  | [.tup xs] => some (.lst xs)
  | _ => none
theorem calls_list (hK : X.K = K) : CallS K X (.type "list") dList := by
  subst hK
  refine ⟨_, call_list_of, fun w hw hf xs ds Q r q => ?_⟩
  unfold dList at q
  split at q
  · obtain ⟨v, rfl, r1⟩ := reps1 r rfl
    obtain ⟨a, vs, rfl, t, r2⟩ := rep_list r1
    exact ⟨a, vs, rfl, .inl (hw ▸ t.sq), fun l hl => q _ _ (same_mut (Same.refl _) hl) (rep_lst hf hl t.2.2 r2)⟩
  · obtain ⟨v, rfl, r1⟩ := reps1 r rfl
    obtain ⟨a, vs, rfl, t, r2⟩ := rep_tree r1
    exact ⟨a, vs, rfl, .inr (hw ▸ t.sq), fun l hl => q _ _ (same_mut (Same.refl _) hl) (rep_lst hf hl t.2 r2)⟩
  · exact (q : False).elim
def dTuple : List D → Option D
  | [.lst xs] => some (.tup xs)
  | [.tup xs] => some (.tup xs)
  | _ => none
theorem calls_tuple (hK : X.K = K) : CallS K X (.type "tuple") dTuple := by
  subst hK
  refine ⟨_, call_tuple_of, fun w hw hf xs ds Q r q => ?_⟩
  unfold dTuple at q
  split at q
  · obtain ⟨v, rfl, r1⟩ := reps1 r rfl
    obtain ⟨a, vs, rfl, t, r2⟩ := rep_list r1
    exact ⟨a, vs, rfl, .inl ⟨hw ▸ t.sq, fun l hl => q _ _ (same_mut (Same.refl _) hl) (rep_tup hf hl t.2.2 r2)⟩⟩
  · obtain ⟨v, rfl, r1⟩ := reps1 r rfl
    have r0 := r1
    obtain ⟨a, vs, rfl, t, r2⟩ := rep_tree r1
    exact ⟨a, vs, rfl, .inr ⟨hw ▸ t.sq, q.here r0⟩⟩
  · exact (q : False).elim
def D.bs : List D → Option (List Bool)
  | [] => some []
  | d :: ds => match d.b, D.bs ds with
    | some b, some bs => some (b :: bs)
    | _, _ => none
theorem reps_bs {w : Wo} : ∀ {ds : List D} {vs : List V} {bs : List Bool}, Reps w ds vs → D.bs ds = some bs → vs = bs.map V.bl
  | [], vs, bs, r, e => by unfold Reps at r; unfold D.bs at e; cases e; rw [r]; rfl
  | d :: ds, vs, bs, r, e => by
    unfold Reps at r
    obtain ⟨v, us, rfl, a, r⟩ := r
    unfold D.bs at e
    cases h1 : d.b with
    | none => rw [h1] at e; cases e
    | some b =>
      cases h2 : D.bs ds with
      | none => rw [h1, h2] at e; cases e
      | some bs' =>
        rw [h1, h2] at e
        cases e
        rw [rep_b a h1, reps_bs r h2]
        rfl
def dAll : List D → Option D
  | [.lst xs] => (D.bs xs).map fun bs => .bl (bs.all id)
  | _ => none
theorem calls_all (hK : X.K = K) (hc : X.calm = true) : CallS K X (.builtin "all") dAll := by
  subst hK
  refine ⟨_, cr_all hc, fun w hw hf xs ds Q r q => ?_⟩
  unfold dAll at q
  split at q
  · obtain ⟨v, rfl, r1⟩ := reps1 r rfl
    obtain ⟨a, vs, rfl, t, r2⟩ := rep_list r1
    rename_i ys
    cases e : D.bs ys with
    | none => rw [e] at q; exact (q : False).elim
    | some bs =>
      rw [e] at q
      have := reps_bs r2 e
      subst this
      exact ⟨a, bs, rfl, hw ▸ t.sq, Pz.here q rep_bl⟩
  · exact (q : False).elim
def dStrI : List D → Option D
  | [.int i] => if i.natAbs.log2 < 1920 then some (.str (toString i)) else none
  | _ => none
def isiF (bi : List String) (own : List (String × Bool)) : D → Option Bool
  | .non => some (bi.contains "NoneType")
  | .bl _ => some (bi.contains "bool")
  | .int _ => some (bi.contains "int")
  | .str _ => some (bi.contains "str")
  | .lst _ => some (bi.contains "list")
  | .scr _ => some (bi.contains "list")
  | .tup _ => some (bi.contains "tuple")
  | .dk _ => some (bi.contains "dict")
  | .dt _ => some (bi.contains "dict")
  | .fk _ => some (bi.contains "dict")
  | .obj c _ => own.lookup c
  | _ => none
def BT : List String := ["NoneType", "bool", "int", "str", "list", "tuple", "dict"]
structure IsiOk (K : PySem.W.Frag) (T : Value) (bi : List String) (own : List (String × Bool)) : Prop where
  b : ∀ t ∈ BT, PySem.W.kitOne K (.type t) T = some (bi.contains t)
  o : ∀ p ∈ own, Cls K (He.ga K p.1) ∧ InsC K (He.ga K p.1) ∧ PySem.W.kitOne K (.ref (He.ga K p.1)) T = some p.2
theorem io_b {n : String} {bi : List String} (h : (BT.all fun t => decide (kitB t n = some (bi.contains t))) = true) : ∀ t ∈ BT, PySem.W.kitOne K (.type t) (.type n) = some (bi.contains t) := fun t ht => kit_ty (of_decide_eq_true (List.all_eq_true.mp h t ht))
theorem io_own {C : Addr} (h : ∀ t ∈ BT, PySem.W.kitOne K (.type t) (.ref C) = some false) : ∀ t ∈ BT, PySem.W.kitOne K (.type t) (.ref C) = some (([] : List String).contains t) := fun t ht => by rw [h t ht]; rfl
theorem oo_nil {T : Value} : ∀ p ∈ ([] : List (String × Bool)), Cls K (He.ga K p.1) ∧ InsC K (He.ga K p.1) ∧ PySem.W.kitOne K (.ref (He.ga K p.1)) T = some p.2 := fun _ h => nomatch h
theorem oo_cons {T : Value} {c : String} {b : Bool} {r : List (String × Bool)} (h1 : Cls K (He.ga K c)) (h2 : InsC K (He.ga K c)) (h3 : PySem.W.kitOne K (.ref (He.ga K c)) T = some b) (h : ∀ p ∈ r, Cls K (He.ga K p.1) ∧ InsC K (He.ga K p.1) ∧ PySem.W.kitOne K (.ref (He.ga K p.1)) T = some p.2) :
    ∀ p ∈ (c, b) :: r, Cls K (He.ga K p.1) ∧ InsC K (He.ga K p.1) ∧ PySem.W.kitOne K (.ref (He.ga K p.1)) T = some p.2 := fun p hp => by
  rcases List.mem_cons.mp hp with rfl | hp
  · exact ⟨h1, h2, h3⟩
  · exact h p hp
theorem lookup_mem {own : List (String × Bool)} {c : String} {b : Bool} (h : own.lookup c = some b) : (c, b) ∈ own := by
  induction own with
  | nil => cases h
  | cons p r ih =>
    rw [List.lookup_cons] at h
    cases e : c == p.1 with
    | true =>
      rw [e] at h
      cases h
      rw [beq_iff_eq.mp e]
      exact List.mem_cons_self
    | false => rw [e] at h; exact List.mem_cons_of_mem _ (ih h)
theorem isi_at {w : Wo} {T : Value} {bi : List String} {own : List (String × Bool)} (ok : IsiOk K T bi own) (hw : w.K = K) {d : D} {v : V} {b : Bool} (r : Rep w d v) (h : isiF bi own d = some b) : ∃ t, TyX K w.H v t ∧ PySem.W.kitOne K t T = some b := by
  subst hw
  cases d <;> unfold isiF at h <;> try cases h
  case non => unfold Rep at r; subst r; exact ⟨_, .base .non, ok.b _ (by decide)⟩
  case bl => cases rep_blD r; exact ⟨_, .base (.bl _), ok.b _ (by decide)⟩
  case int => cases rep_intD r; exact ⟨_, .base (.int _), ok.b _ (by decide)⟩
  case str => obtain ⟨rfl, _⟩ := rep_strD r; exact ⟨_, .base (.str _), ok.b _ (by decide)⟩
  case tup =>
    obtain ⟨a, vs, rfl, t, _⟩ := rep_tree r
    obtain ⟨t, _⟩ := t
    obtain ⟨_, t⟩ := t
    exact ⟨_, .base (.tup t), ok.b _ (by decide)⟩
  case lst => obtain ⟨a, vs, rfl, t, _⟩ := rep_list r; exact ⟨_, .base (.lst t.2.1), ok.b _ (by decide)⟩
  case scr =>
    unfold Rep at r
    obtain ⟨a, vs, rfl, ⟨t, _⟩, _⟩ := r
    rcases t with ⟨_, t | ⟨o, t⟩⟩ | ⟨o, its, n, t, c, _⟩
    · exact ⟨_, .base (.lst t), ok.b _ (by decide)⟩
    · exact ⟨_, .base (.frz t), ok.b _ (by decide)⟩
    · exact ⟨_, .kList t c, ok.b _ (by decide)⟩
  case dk => unfold Rep at r; obtain ⟨a, vs, rfl, _, t, _⟩ := r; exact ⟨_, .base (.dK t), ok.b _ (by decide)⟩
  case dt => unfold Rep at r; obtain ⟨a, vs, rfl, _, t, _⟩ := r; exact ⟨_, .base (.dT t), ok.b _ (by decide)⟩
  case fk => unfold Rep at r; obtain ⟨a, o, vs, rfl, _, t, _⟩ := r; exact ⟨_, .fDict t, ok.b _ (by decide)⟩
  case obj c fs =>
    unfold Rep at r
    obtain ⟨a, dx, gs, rfl, _, t, _⟩ := r
    obtain ⟨h1, h2, h3⟩ := ok.o _ (lookup_mem h)
    exact ⟨_, .base (.ins t h1 h2.ha h2.hn h2.ht h2.hm), h3⟩
end
def eIsi (bi : List String) (own : List (String × Bool)) (f : Sx D) (e : En) (S : Store) : R D := (f e S).bind fun x S1 => R.of S1 ((isiF bi own x).map .bl)
section
variable {K : PySem.W.Frag} {X : Cx} {W : WX} {ex ex2 value : Expr} {es : List Expr} {f g : Sx D} {a : Sx (List D)} {pos p p0 apos pos' : Pos} {i lv j : Nat} {x m fd : Str} {ps : List Str} {sp : Sp} {cs : List String} {c : String} {fa : Addr}
theorem x_isi {T : Value} {vT : V} {bi : List String} {own : List (String × Bool)} (hK : X.K = K) (hg : Gl X "isinstance") (hm : X.mg "isinstance" = none) (hf : Ev K X W ex f) (hT : PE X ex2 (tC vT)) (ok : IsiOk K T bi own) (hv : ClsV vT T)
    (he : starEach [ex, ex2] X.env = (false, eval ex X.env) :: starEach [ex2] X.env := by rfl) (he2 : starEach [ex2] X.env = (false, eval ex2 X.env) :: starEach [] X.env := by rfl) (hpl : (backTo pos (starEach [ex2] X.env)).any (·.1) = false := by rfl) : Ev K X W (.Call (.Name "isinstance" p) [ex, ex2] [] pos) (eIsi bi own f) := by
  subst hK
  obtain ⟨te, p1, h1⟩ := hf.run
  refine ⟨_, pe_callB call_isi hg hm (by decide +kernel) (pa_cons p1 (pa_cons hT pa_nil he2) he) (by decide) (by decide) he hpl, fun b m ow H σ e S Q t q => h1 b m ow H σ e S _ t (Post.bind q fun d S1 v m1 H1 f1 c1 rx q => ?_)⟩
  cases e : isiF bi own d with
  | none => rw [e] at q; exact q.elim
  | some r =>
    rw [e] at q
    obtain ⟨t, h2, h3⟩ := isi_at ok (w := wo X.K b.B m1 ow H1) rfl rx e
    exact ⟨v, vT, t, T, r, rfl, hv, h2, h3, q.val c1 rep_bl⟩
def fmtD : D → Option D
  | .str y => some (.str y)
  | .int i => if i.natAbs.log2 < 1920 then some (.str (toString i)) else none
  | _ => none
def eFmt (f : Sx D) (e : En) (S : Store) : R D := (f e S).bind fun x S1 => R.of S1 (fmtD x)
theorem x_fmt (hf : Ev K X W ex f) : Ev K X W (.FormattedValue ex (-1) none pos) (eFmt f) := by
  obtain ⟨te, p1, h1⟩ := hf.run
  refine ⟨_, pe_fmt p1, fun b m ow H σ e S Q t q => h1 b m ow H σ e S _ t (Post.bind q fun d S1 v m1 H1 f1 c1 rx q => ?_)⟩
  cases d <;> try exact q.elim
  · rename_i i
    cases rep_intD rx
    have q : Post K b.B ow m1 H1 Rep (fun c d => W c d σ) Q (R.of S1 (if i.natAbs.log2 < 1920 then some (.str (toString i)) else none)) := q
    split at q
    · rename_i h
      exact .inr ⟨i, rfl, h, q.val c1 (rep_str (int_text_fits h))⟩
    · exact q.elim
  · obtain ⟨rfl, hl⟩ := rep_strD rx
    exact .inl ⟨_, rfl, hl, q.val c1 (rep_str hl)⟩
def eJs : List (Sx D) → Str → Sx D
  | [], acc, _, S => .ok (.str acc) S
  | f :: fs, acc, e, S => (f e S).bind fun x S1 => match x with
    | .str y => if (acc ++ y).length ≤ sizeLine then eJs fs (acc ++ y) e S1 else .no
    | _ => .no
inductive Ejs (K : PySem.W.Frag) (X : Cx) (W : WX) : List Expr → List (Sx D) → Prop
  | nil : Ejs K X W [] []
  | cons {ex : Expr} {f : Sx D} {es : List Expr} {fs : List (Sx D)} (h : Ev K X W ex f) (r : Ejs K X W es fs) : Ejs K X W (ex :: es) (f :: fs)
theorem js_rd {es : List Expr} {fs : List (Sx D)} (h : Ejs K X W es fs) : ∃ ts, PJ X es ts ∧ ∀ b m ow H σ e S acc (Q : Str → Hp → Prop), At K b m ow H σ e S → acc.length ≤ sizeLine → Post K b.B ow m H Rep (fun c d => W c d σ) (fun v H => ∃ z, v = .str z ∧ Q z H) (eJs fs acc e S) → tJs ts acc σ H Q := by
  induction h with
  | nil => exact ⟨[], .nil, fun b m ow H σ e S acc Q t hl q => by
      obtain ⟨z, e1, q⟩ := q.val t.cells (rep_str hl)
      cases e1
      exact q⟩
  | cons h r ih =>
    obtain ⟨te, p1, h1⟩ := h.run
    obtain ⟨ts, p2, h2⟩ := ih
    refine ⟨te :: ts, .cons p1 p2, fun b m ow H σ e S acc Q t hl q => ?_⟩
    unfold tJs
    refine h1 b m ow H σ e S _ t (Post.bind q fun d S1 v m1 H1 f1 c1 rx q => ?_)
    cases d <;> try exact q.elim
    rename_i y
    obtain ⟨rfl, hy⟩ := rep_strD rx
    dsimp only at q
    split at q
    · rename_i hc
      exact ⟨y, rfl, hc, h2 b m1 ow H1 σ e S1 _ Q (t.go f1 c1) hc q⟩
    · exact q.elim
theorem js_imp {B : Addr → Prop} {ow : List (Option Addr)} {m : List Addr} {H : Hp} {Wp : Value → Option Addr → Hp → Prop} {Q : VK} {e : En} : ∀ {fs : List (Sx D)} {acc : Str} {S : Store}, Post K B ow m H Rep Wp Q (eJs fs acc e S) → Post K B ow m H Rep Wp (fun v H => ∃ z, v = .str z ∧ Q (.str z) H) (eJs fs acc e S)
  | [], acc, S, q => fun v m' H' f c r => by
    obtain ⟨rfl, hl⟩ := rep_strD r
    exact ⟨_, rfl, q _ m' H' f c r⟩
  | f :: fs, acc, S, q => by
    unfold eJs at q ⊢
    cases r : f e S with
    | no => rw [r] at q; exact q
    | er x S1 => rw [r] at q; exact q
    | ok d S1 =>
      rw [r, ok_bind] at q
      rw [ok_bind]
      cases d <;> try exact q.elim
      dsimp only at q ⊢
      split
      · rename_i h
        rw [if_pos h] at q
        exact js_imp q
      · rename_i h
        rw [if_neg h] at q
        exact q
theorem x_js {v1 v2 : Expr} {rest : List Expr} {fs : List (Sx D)} (h : Ejs K X W (v1 :: v2 :: rest) fs) : Ev K X W (.JoinedStr (v1 :: v2 :: rest) pos) (eJs fs Str.empty) := by
  obtain ⟨ts, p1, h1⟩ := js_rd h
  exact ⟨_, pe_joined p1, fun b m ow H σ e S Q t q => h1 b m ow H σ e S _ _ t (Nat.zero_le _) (js_imp q)⟩
end
end Sh
namespace Sh
open PySem PySem.Spec PyProof.Rows L2 Nk StX
variable [TabSet] [BasePred]
section
variable {K : PySem.W.Frag} {X : Cx} {W : WX} {ex ex2 value : Expr} {es : List Expr} {f g h : Sx D} {a : Sx (List D)} {pos p p0 apos pos' : Pos} {i lv j : Nat} {x m fd : Str} {ps : List Str} {sp : Sp} {cs : List String} {c : String} {fa : Addr}
theorem atI_map {α β : Type} {xs : List α} {ys : List β} {k : Int} {x : α} (hl : ys.length = xs.length) (h : atI xs k = some x) : ∃ j : Nat, xs[j]? = some x ∧ ∀ y, ys[j]? = some y → atI ys k = some y := by
  unfold atI at h ⊢
  rw [hl]
  cases e : ixN xs.length k with
  | none => rw [e] at h; cases h
  | some j => rw [e] at h; exact ⟨j, h, fun y hy => hy⟩
theorem reps_at {w : Wo} {ds : List D} {vs : List V} {k : Int} {d : D} (r : Reps w ds vs) (h : atI ds k = some d) : ∃ v, atI vs k = some v ∧ Rep w d v := by
  obtain ⟨j, h1, h2⟩ := atI_map (reps_len r) h
  obtain ⟨v, h3, h4⟩ := reps_get r h1
  exact ⟨v, h2 v h3, h4⟩
theorem x_ix (hK : X.K = K) (hf : Ev K X W ex f) (hg : Ev K X W ex2 g) (hs : PlainIx ex2) : Ev K X W (.Subscript ex ex2 pos) (eIx f g) := by
  subst hK
  obtain ⟨ta, p1, h1⟩ := hf.run
  obtain ⟨tb, p2, h2⟩ := hg.run
  refine ⟨_, pe_ix ix_seq p1 p2 hs, fun b m ow H σ e S Q t q => h1 b m ow H σ e S _ t (Post.bind q fun x S1 v m1 H1 f1 c1 rx q => h2 b m1 ow H1 σ e S1 _ (t.go f1 c1) (Post.bind q fun y S2 u m2 H2 f2 c2 ry q => ?_))⟩
  have rx := Rep.le f2.le x rx
  cases x with
  | ref n =>
    unfold Rep at rx
    obtain ⟨a, rfl, hm⟩ := rx
    dsimp only at q
    cases hS : S2[n]? with
    | none => rw [hS] at q; exact q.elim
    | some cc =>
      cases cc with
      | lst xs =>
        cases y with
        | int i =>
          rw [hS] at q
          dsimp only at q
          cases rep_intD ry
          obtain ⟨vs, hH, hl, r⟩ := c2.cs n a _ hm hS
          cases e : atI xs i with
          | none => rw [e] at q; exact q.elim
          | some d =>
            rw [e] at q
            obtain ⟨u, h3, h4⟩ := reps_at r e
            exact .inl ⟨a, vs, i, u, rfl, rfl, .inl (.inl hH), h3, q.val c2 h4⟩
        | _ => rw [hS] at q; exact q.elim
      | _ => rw [hS] at q; exact q.elim
  | lst xs =>
    cases y with
    | int k =>
      cases rep_intD ry
      obtain ⟨a, vs, rfl, t, r⟩ := rep_list rx
      cases e : atI xs k with
      | none =>
        have q : Post X.K b.B ow m2 H2 Rep (fun c d => W c d σ) Q (R.of S2 (match atI xs k with | some d => some d | none => none)) := q
        rw [e] at q; exact q.elim
      | some d =>
        have q : Post X.K b.B ow m2 H2 Rep (fun c d => W c d σ) Q (R.of S2 (match atI xs k with | some d => some d | none => none)) := q
        rw [e] at q
        obtain ⟨u, h3, h4⟩ := reps_at r e
        exact .inl ⟨a, vs, k, u, rfl, rfl, t.sq, h3, q.val c2 h4⟩
    | _ => exact q.elim
  | tup xs =>
    cases y with
    | int k =>
      cases rep_intD ry
      obtain ⟨a, vs, rfl, t, r⟩ := rep_tree rx
      cases e : atI xs k with
      | none =>
        have q : Post X.K b.B ow m2 H2 Rep (fun c d => W c d σ) Q (R.of S2 (match atI xs k with | some d => some d | none => none)) := q
        rw [e] at q; exact q.elim
      | some d =>
        have q : Post X.K b.B ow m2 H2 Rep (fun c d => W c d σ) Q (R.of S2 (match atI xs k with | some d => some d | none => none)) := q
        rw [e] at q
        obtain ⟨u, h3, h4⟩ := reps_at r e
        exact .inr (.inl ⟨a, vs, k, u, rfl, rfl, t.sq, h3, q.val c2 h4⟩)
    | _ => exact q.elim
  | str z =>
    cases y with
    | int k =>
      cases rep_intD ry
      obtain ⟨rfl, hl⟩ := rep_strD rx
      cases e : atI z.cps.toList k with
      | none =>
        have q : Post X.K b.B ow m2 H2 Rep (fun c d => W c d σ) Q (R.of S2 ((atI z.cps.toList k).map fun c => .str ⟨#[c]⟩)) := q
        rw [e] at q; exact q.elim
      | some c =>
        have q : Post X.K b.B ow m2 H2 Rep (fun c d => W c d σ) Q (R.of S2 ((atI z.cps.toList k).map fun c => .str ⟨#[c]⟩)) := q
        rw [e] at q; exact .inr (.inr ⟨z, k, c, rfl, rfl, hl, e, q.val c2 (rep_str (show (1 : Nat) ≤ sizeLine by decide))⟩)
    | _ => exact q.elim
  | _ => exact q.elim
def cutD {α : Type} (xs : List α) (lo hi : Option Int) : List α := (xs.drop (HT.sIx xs.length 0 lo)).take (HT.sIx xs.length xs.length hi - HT.sIx xs.length 0 lo)
def D.sl (lo hi : Option Int) : D → Option D
  | .lst xs => some (.lst (cutD xs lo hi))
  | .tup xs => some (.tup (cutD xs lo hi))
  | .str z => some (.str (cutS z lo hi))
  | .scr xs => some (.lst (cutD xs lo hi))
  | _ => none
def pNo (_ : En) (S : Store) : R (Option Int) := .ok none S
def pSo (f : Sx D) (e : En) (S : Store) : R (Option Int) := (f e S).bind fun x S1 => match x with
  | .int i => .ok (some i) S1
  | _ => .no
def eSl (f : Sx D) (lo hi : Sx (Option Int)) (e : En) (S : Store) : R D := (f e S).bind fun x S1 => (lo e S1).bind fun l S2 => (hi e S2).bind fun u S3 => match x with
  | .ref n => match S3[n]? with
    | some (.lst xs) => .ok (.lst (cutD xs l u)) S3
    | _ => .no
  | _ => R.of S3 (x.sl l u)
def RO : Wo → Option Int → Option Int → Prop := fun _ x y => y = x
structure Ep (K : PySem.W.Frag) (X : Cx) (W : WX) (e : Option Expr) (f : Sx (Option Int)) : Prop where
  run : ∃ t, PO X e t ∧ ∀ b m ow H σ e S Q, At K b m ow H σ e S → Post K b.B ow m H RO (fun c d => W c d σ) Q (f e S) → t σ H Q
theorem p_no : Ep K X W none pNo := ⟨_, po_none, fun b m ow H σ e S Q t q => q none m H (Fut.refl _ _) t.cells rfl⟩
theorem p_so (hf : Ev K X W ex f) : Ep K X W (some ex) (pSo f) := by
  obtain ⟨te, p1, h1⟩ := hf.run
  refine ⟨_, po_some p1, fun b m ow H σ e S Q t q => h1 b m ow H σ e S _ t (Post.bind q fun x S1 v m1 H1 f1 c1 rx q => ?_)⟩
  cases x <;> try exact q.elim
  cases rep_intD rx
  exact ⟨_, rfl, q _ m1 H1 (Fut.refl _ _) c1 rfl⟩
theorem reps_cut {w : Wo} {ds : List D} {vs : List V} (r : Reps w ds vs) (lo hi : Option Int) : Reps w (cutD ds lo hi) (cutV vs lo hi) := by
  unfold cutD cutV
  rw [reps_len r]
  exact reps_take _ (reps_drop _ r)
theorem slr_or3 {r r' r2 : V → Option Int → Option Int → Hp → VK → Prop} (h : L2.SlR X r) (h' : L2.SlR X r') (h2 : L2.SlR X r2) : L2.SlR X (fun x lo hi H Q => r x lo hi H Q ∨ r' x lo hi H Q ∨ r2 x lo hi H Q) := L2.SlR.or h (L2.SlR.or h' h2)
theorem x_sl {lo hi : Option Expr} {p2 : Pos} {l u : Sx (Option Int)} (hK : X.K = K) (hf : Ev K X W ex f) (hl : Ep K X W lo l) (hu : Ep K X W hi u) : Ev K X W (.Subscript ex (.Slice lo hi none p2) pos) (eSl f l u) := by
  subst hK
  obtain ⟨ta, p1, h1⟩ := hf.run
  obtain ⟨tl, pl, h2⟩ := hl.run
  obtain ⟨tu, pu, h3⟩ := hu.run
  refine ⟨_, pe_slice (slr_or3 sl_list sl_tupA sl_str) p1 pl pu, fun b m ow H σ e S Q t q => h1 b m ow H σ e S _ t (Post.bind q fun x S1 v m1 H1 f1 c1 rx q => h2 b m1 ow H1 σ e S1 _ (t.go f1 c1) (Post.bind q fun y S2 y' m2 H2 f2 c2 ry q => h3 b m2 ow H2 σ e S2 _ ((t.go f1 c1).go f2 c2) (Post.bind q fun z S3 z' m3 H3 f3 c3 rz q => ?_)))⟩
  obtain rfl : y' = y := ry
  obtain rfl : z' = z := rz
  have rx := Rep.le (f2.trans f3).le x rx
  cases x with
  | str s =>
    obtain ⟨rfl, hz⟩ := rep_strD rx
    exact .inr (.inr ⟨_, rfl, hz, q.val c3 (rep_str (Nat.le_trans (cutS_length _ _ _) hz))⟩)
  | tup ds =>
    have rx0 := rx
    obtain ⟨a, vs, rfl, t, r⟩ := rep_tree rx
    have hl := reps_len r
    refine .inr (.inl ⟨a, vs, rfl, t.sq, fun hw => ?_, fun _ p hp => (q.pz c3) _ _ (same_mut (Same.refl _) hp) (rep_tup c3.full hp (Nat.le_trans (cutV_length _ _ _) t.2) (reps_cut r y' z'))⟩)
    have e : cutD ds y' z' = ds := by
      unfold cutD
      rw [← hl, hw.1, hw.2]
      simp [hl]
    have q : Post X.K b.B ow m3 H3 Rep (fun c d => W c d σ) Q (.ok (.tup (cutD ds y' z')) S3) := q
    rw [e] at q
    exact q.val c3 rx0
  | lst ds =>
    obtain ⟨a, vs, rfl, t, r⟩ := rep_list rx
    exact .inl ⟨a, vs, rfl, t.sq, fun p hp => (q.pz c3) _ _ (same_mut (Same.refl _) hp) (rep_lst c3.full hp (Nat.le_trans (cutV_length _ _ _) t.2.2) (reps_cut r y' z'))⟩
  | scr ds =>
    unfold Rep at rx
    obtain ⟨a, vs, rfl, t, r⟩ := rx
    exact .inl ⟨a, vs, rfl, t.sq, fun p hp => (q.pz c3) _ _ (same_mut (Same.refl _) hp) (rep_lst c3.full hp (Nat.le_trans (cutV_length _ _ _) t.2) (reps_cut r y' z'))⟩
  | ref n =>
    unfold Rep at rx
    obtain ⟨a, rfl, hm⟩ := rx
    dsimp only at q
    cases hS : S3[n]? with
    | none => rw [hS] at q; exact q.elim
    | some cc =>
      cases cc with
      | lst ds =>
        rw [hS] at q
        obtain ⟨vs, hH, hl, r⟩ := c3.cs n a _ hm hS
        exact .inl ⟨a, vs, rfl, .inl (.inl hH), fun p hp => (Post.pz (o := some (.lst (cutD ds y' z'))) q c3) _ _ (same_mut (Same.refl _) hp) (rep_lst c3.full hp (Nat.le_trans (cutV_length _ _ _) hl) (reps_cut r y' z'))⟩
      | _ => rw [hS] at q; exact q.elim
  | _ => exact q.elim
structure MtS (K : PySem.W.Frag) (X : Cx) (id : String) (o : Str → D → Option D) : Prop where
  run : ∃ r, MtR X id r ∧ ∀ (w : Wo), w.K = K → w.Full → ∀ z y dy Q, z.length ≤ sizeLine → Rep w dy y → Pz w Q (o z dy) → r (.str z) [y] w.H Q
def eM1 (o : Str → D → Option D) (f g : Sx D) (e : En) (S : Store) : R D := (f e S).bind fun x S1 => match x with
  | .str z => (g e S1).bind fun y S2 => R.of S2 (o z y)
  | _ => .no
theorem x_m1 {id : String} {name : Str} {o : Str → D → Option D} (slot : Slot "str" name id) (ty : typeOf (.builtin id) = pure (.type "method_descriptor")) (ho : MtS K X id o) (hf : Ev K X W ex f) (hg : Ev K X W ex2 g)
    (hs : starEach [ex2] X.env = [(false, eval ex2 X.env)] := by rfl) (hbase : attributeBase ex name X.env (eval ex X.env) = eval ex X.env := by rfl) (hline : (apos.endLine == pos.line) = true := by rfl) : Ev K X W (.Call (.Attribute ex name apos) [ex2] [] pos) (eM1 o f g) := by
  obtain ⟨ta, p1, h1⟩ := hf.run
  obtain ⟨tb, p2, h2⟩ := hg.run
  obtain ⟨r, p3, h3⟩ := ho.run
  refine ⟨_, pe_m1 slot ty p3 p1 p2 hs hbase hline, fun b m ow H σ e S Q t q => h1 b m ow H σ e S _ t (Post.bind q fun x S1 v m1 H1 f1 c1 rx q => ?_)⟩
  cases x with
  | str z =>
    obtain ⟨rfl, hz⟩ := rep_strD rx
    exact ⟨⟨z, rfl⟩, h2 b m1 ow H1 σ e S1 _ (t.go f1 c1) (Post.bind q fun y S2 u m2 H2 f2 c2 ry q => h3 _ rfl c2.full z u y Q hz ry (q.pz c2))⟩
  | _ => exact q.elim
def D.strs : List D → Option (List Str)
  | [] => some []
  | .str x :: ds => (D.strs ds).map (x :: ·)
  | _ => none
theorem reps_strs {w : Wo} : ∀ {ds : List D} {vs : List V} {ys : List Str}, Reps w ds vs → D.strs ds = some ys → vs = ys.map V.str
  | [], vs, ys, r, e => by unfold Reps at r; unfold D.strs at e; cases e; rw [r]; rfl
  | d :: ds, vs, ys, r, e => by
    unfold Reps at r
    obtain ⟨v, us, rfl, a, r⟩ := r
    cases d <;> unfold D.strs at e <;> try cases e
    rename_i x
    cases h2 : D.strs ds with
    | none => rw [h2] at e; cases e
    | some zs =>
      rw [h2] at e
      cases e
      rw [(rep_strD a).1, reps_strs r h2]
      rfl
theorem reps_ofStrs {w : Wo} : ∀ {ys : List Str}, (∀ y ∈ ys, y.length ≤ sizeLine) → Reps w (ys.map D.str) (ys.map V.str)
  | [], _ => reps_nil
  | y :: ys, h => reps_cons (rep_str (h y List.mem_cons_self)) (reps_ofStrs fun z hz => h z (List.mem_cons_of_mem _ hz))
def dJoin (z : Str) : D → Option D
  | .lst ds => match D.strs ds with
    | some ys => if (ys.map (·.length)).sum + ys.length * z.length ≤ 16777216 then some (.str (Txt.join z ys)) else none
    | none => none
  | .tup ds => match D.strs ds with
    | some ys => if (ys.map (·.length)).sum + ys.length * z.length ≤ 16777216 then some (.str (Txt.join z ys)) else none
    | none => none
  | _ => none
theorem join_len (z : Str) (ys : List Str) : (Txt.join z ys).length ≤ (ys.map (·.length)).sum + ys.length * z.length := by
  have h : ∀ (l : List (List Nat)) (s : List Nat), (TL.joinL s l).length ≤ (l.map (·.length)).sum + l.length * s.length := by
    intro l s
    induction l with
    | nil => exact Nat.zero_le _
    | cons p r ih =>
      cases r with
      | nil => show p.length ≤ _; simp
      | cons q r =>
        show (p ++ (s ++ TL.joinL s (q :: r))).length ≤ _
        rw [List.length_append, List.length_append]
        simp only [List.map_cons, List.sum_cons, List.length_cons] at ih ⊢
        rw [Nat.add_mul (r.length + 1) 1 s.length]
        omega
  have e : (Txt.join z ys).length = (TL.joinL (TL.tl z) (ys.map TL.tl)).length := by
    rw [TL.join_eq, ← TL.tl_join]
    unfold TL.tl Str.length
    simp
  have tlen : ∀ y : Str, (TL.tl y).length = y.length := fun y => by unfold TL.tl Str.length; simp
  rw [e]
  refine Nat.le_trans (h _ _) ?_
  rw [List.map_map, List.length_map, tlen]
  have : (ys.map ((·.length) ∘ TL.tl)) = ys.map (·.length) := List.map_congr_left fun y _ => tlen y
  rw [this]
  exact Nat.le_refl _
theorem mts_join (hK : X.K = K) : MtS K X "str.join" dJoin := by
  subst hK
  refine ⟨_, mt_join, fun w hw hf z y dy Q hz ry q => ?_⟩
  cases dy <;> try exact (q : False).elim
  · rename_i ds
    obtain ⟨a, vs, rfl, t, r⟩ := rep_tree ry
    unfold dJoin at q
    cases e : D.strs ds with
    | none => simp only [e] at q; exact (q : False).elim
    | some ys =>
      simp only [e] at q
      obtain ⟨h, q⟩ := Pz.ite q
      have := reps_strs r e
      subst this
      exact ⟨z, a, ys, rfl, rfl, .inr (hw ▸ t.sq), h, q.here (rep_str (Nat.le_trans (join_len z ys) h))⟩
  · rename_i ds
    obtain ⟨a, vs, rfl, t, r⟩ := rep_list ry
    unfold dJoin at q
    cases e : D.strs ds with
    | none => simp only [e] at q; exact (q : False).elim
    | some ys =>
      simp only [e] at q
      obtain ⟨h, q⟩ := Pz.ite q
      have := reps_strs r e
      subst this
      exact ⟨z, a, ys, rfl, rfl, .inl (hw ▸ t.sq), h, q.here (rep_str (Nat.le_trans (join_len z ys) h))⟩
def dSplit (z : Str) : D → Option D
  | .str y => if (y.length == 0) = false ∧ z.length + 2 ≤ sizeLine then some (.lst ((Txt.split z y).map .str)) else none
  | _ => none
theorem mts_split : MtS K X "str.split" dSplit := by
  refine ⟨_, mt_split, fun w hw hf z y dy Q hz ry q => ?_⟩
  cases dy <;> try exact (q : False).elim
  rename_i s
  obtain ⟨rfl, hs⟩ := rep_strD ry
  obtain ⟨h, q⟩ := Pz.ite q
  refine ⟨z, s, rfl, rfl, h.1, h.2, fun p hp => q _ _ (same_mut (Same.refl _) hp) (rep_lst hf hp ?_ (reps_ofStrs fun y hy => Nat.le_trans (PyProof.Rows.part_short hy) hz))⟩
  rw [List.length_map]
  exact Nat.le_trans (PyProof.Rows.split_le z s) h.2
def sIxC (g k f : Sx D) (e : En) (S : Store) : RS := (f e S).run e fun d S1 => (g e S1).run e fun o S2 => (k e S2).run e fun y S3 => match o, y with
  | .ref n, .int l => match S3[n]? with
    | some (.lst ds) => match ixN ds.length l with
      | some j => .nx e (S3.set n (.lst (ds.set j d)))
      | none => .no
    | _ => .no
  | _, _ => .no
theorem s_ixC {ex3 : Expr} {p2 : Pos} (ho : Ev K X W ex g) (hk : Ev K X W ex2 h) (hf : Ev K X W ex3 f) (hs : swapsWithSole [.Subscript ex ex2 p2] ex3 pos.line X.env = pure false := by rfl) (hw : swappedStores [.Subscript ex ex2 p2] ex3 X.env = pure none := by rfl) (h1 : (assignEach [.Subscript ex ex2 p2] X.env).map (·.2) = [assign (.Subscript ex ex2 p2) X.env] := by rfl)
    (ha : ∀ v, assign (.Subscript ex ex2 p2) X.env v = (do
      let ov ← holding [v] (eval ex X.env)
      let iv ← holding [v, ov] (eval ex2 X.env)
      standAt p2
      holding [v, ov, iv] (setItem ov iv v)
      release [v, ov, iv] []) := by intro _; rfl) : Es K X W (.Assign [.Subscript ex ex2 p2] ex3 pos) (sIxC g h f) := by
  obtain ⟨te, p1, h2⟩ := hf.run
  obtain ⟨to, p3, h3⟩ := ho.run
  obtain ⟨tk, p4, h4⟩ := hk.run
  refine ⟨_, ps_asg p1 (pg_sub p3 p4 set_list ha) hs hw h1, fun b m ow H σ e S D t z => h2 b m ow H σ e S _ t (PostS.run t z fun d S1 v m1 H1 t1 f1 r z => h3 b m1 ow H1 σ e S1 _ t1 (PostS.run t1 z fun o S2 u m2 H2 t2 f2 ro z => h4 b m2 ow H2 σ e S2 _ t2 (PostS.run t2 z fun y S3 u3 m3 H3 t3 f3 ry z => ?_)))⟩
  cases o with
  | ref n =>
    cases y with
    | int l =>
      dsimp only at z
      cases rep_intD ry
      unfold Rep at ro
      obtain ⟨a, rfl, hm⟩ := ro
      have hm3 : m3[n]? = some a := f3.le (K := K) (B := b.B) (ow := ow) |>.m n a hm
      cases hS : S3[n]? with
      | none => rw [hS] at z; exact z.elim
      | some cc =>
        cases cc with
        | lst ds =>
          rw [hS] at z
          dsimp only at z
          obtain ⟨vs, hH, hl, rr⟩ := t3.cells.cs n a _ hm3 hS
          cases e1 : ixN ds.length l with
          | none => rw [e1] at z; exact z.elim
          | some j =>
            rw [e1] at z
            have am : zf b.B m3 ow a := .inr (.inl (List.mem_of_getElem? hm3))
            have rv := Rep.le (f2.trans f3).le d r
            refine ⟨a, vs, l, j, rfl, rfl, hH, by rw [reps_len rr]; exact e1, ?_⟩
            obtain ⟨t4, f4⟩ := cell_put (c' := .lst (ds.set j d)) t3 hm3 (upd_keep (o := .lst (vs.set j v))) (fun x h => h.upd fun _ z => by cases z) ⟨_, upd_same, by simpa using hl, reps_set (Rep.le (le_put am) d rv) j (Reps.le (le_put am) _ rr)⟩
            exact z _ m3 _ _ t4 f4.le
        | _ => rw [hS] at z; exact z.elim
    | _ => exact z.elim
  | _ => exact z.elim
end
end Sh
namespace Sh
open PySem PySem.Spec PyProof.Rows L2 Nk StX
variable [TabSet] [BasePred]
section
variable {K : PySem.W.Frag} {b : Bs} {m : List Addr} {ow : List (Option Addr)} {H H1 : Hp} {σ : L2.St} {e : En} {S : Store}
theorem fut_ext (x : LamX.ExtN H H1) : Fut m H m H1 := ⟨⟨[], by simp, by simp⟩, fun a o h n _ => x a o h n, fun a f o h => Classical.byContradiction fun z => f.no (x a o h fun ps q => z ⟨ps, q⟩) fun ps q => z ⟨ps, q⟩⟩
theorem Cells.ext {B : Addr → Prop} (c : Cells K B m ow H S) (x : LamX.ExtN H H1) (tb : LamX.Tabs (TabSet.TS K) H1) : Cells K B m ow H1 S := by
  have f : Fut m H m H1 := fut_ext x
  exact ⟨fun a h z => c.hB a h (f.dom a z), c.nd, c.no, c.nB, c.od, fun a h z => c.oh a h (f.dom a z), c.len, fun n a y h1 h2 => (c.cs n a y h1 h2).le f.le fun o e n => x a o e n, tb, c.ntK fun a o h n _ => x a o h n⟩
theorem At.ext (t : At K b m ow H σ e S) (x : LamX.ExtN H H1) (tb : LamX.Tabs (TabSet.TS K) H1) : At K b m ow H1 σ e S := t.go (fut_ext x) (t.cells.ext x tb)
end
def tsOf (K : PySem.W.Frag) (W : WX) (f : Sy) : TS := fun D σ H => ∃ b m ow e S, At K b m ow H σ e S ∧ PostS K b (wo K b.B m ow H) W D (f e S)
theorem Ess.canon {K : PySem.W.Frag} {X : Cx} {W : WX} {st : List Stmt} {f : Sy} (h : Ess K X W st f) : PSs X st (tsOf K W f) := by
  obtain ⟨ts, p1, h1⟩ := h.run
  exact ⟨fun pins s σ H D I ⟨b, m, ow, e, S, t, q⟩ => p1.run pins s σ H D I (h1 b m ow H σ e S D t q)⟩
def ExmOk (K : PySem.W.Frag) (T : Value) (isa : List (String × Bool)) : Prop := ∀ p ∈ isa, PySem.W.exmOne K (.ref (He.ga K p.1)) T = some p.2
theorem eo_nil {K : PySem.W.Frag} {T : Value} : ExmOk K T [] := fun _ h => nomatch h
theorem eo_cons {K : PySem.W.Frag} {T : Value} {c : String} {b : Bool} {r : List (String × Bool)} (h : PySem.W.exmOne K (.ref (He.ga K c)) T = some b) (g : ExmOk K T r) : ExmOk K T ((c, b) :: r) := fun p hp => by
  rcases List.mem_cons.mp hp with rfl | hp
  · exact h
  · exact g p hp
section
variable {X : Cx}
theorem pe_actW {pins : List (Addr × Obj)} {σ : L2.St} {H : Hp} {s : Shared} {CXg : CXT} {Eg : XK} {Ng : List Str} {qg : Str} {sg : Scope} {g f c' : Addr} {cdg pm ctv : Value} {params : Arguments} {body : Expr} {scope : Scope} {k i : Nat} {a : Str} {pn : List (Addr × Obj)} {xe : Value → Shared → Prop} {W : WX} {tb : XK → TE} {p1 p2 : Pos}
    (I : Inv X pins σ H s) (L : LamX.LamS X.env.scope scope) (hf : s.heap.get? f = some (PySem.W.kla_obj "<lambda>" (X.env.qual ++ "<lambda>") params body scope (cloFrom X.env.cells scope.names []) pm c' ctv)) (hfn : H f = none) (hfr : f ∉ frs X.stack)
    (hbind : bindArgs (PySem.W.kla_fn "<lambda>" (X.env.qual ++ "<lambda>") params body scope (cloFrom X.env.cells scope.names []) pm (.ref c') ctv) ⟨[], []⟩ = pure [])
    (tk : Takes ((cxOf CXg X.prog X.w X.K X.mg X.base Ng qg sg g cdg X.A X.stack s H Eg).tr pn xe) W) (hr : Room (k + 1) (X.A.deeper (envOfC qg sg s.heap.objs.size g cdg)))
    (hbody : ∀ (A : Around) (outer : List Env) (s : Shared) (H : Hp) (E : XK), Room k (A.deeper (LamX.lamEnv X scope s.heap.objs.size f c')) → PE (LamX.lamCx X A outer s H E scope f c') body (tb E))
    (hN : Ng[i]? = some a) (hv : Vis sg a) (hd : (a == ("__debug__" : Str)) = false := by decide) (hcd : (a == ("__classdict__" : Str)) = false := by decide) :
    PE ((cxOf CXg X.prog X.w X.K X.mg X.base Ng qg sg g cdg X.A X.stack s H Eg).tr pn xe) (.Call (.Name a p1) [] [] p2)
      (fun σZ HZ Q => σZ[i]? = some (some (.ref f)) ∧ HZ c' = some (LamX.CodeO c' (X.env.qual ++ "<lambda>")) ∧ tb (WE W σZ) σ HZ Q) := by
  refine ⟨fun pinsZ sZ σZ HZ Q IZ ⟨hs, hc, ht⟩ => wpAny_Call_Name_kw (thn ((pe_var (pos := p1) (i := i) hN hv hd hcd).run pinsZ sZ σZ HZ (fun v H1 => v = .ref f ∧ H1 = HZ) IZ ⟨.ref f, hs, rfl, rfl⟩) ?_)⟩
  rintro u s1 ⟨v, H1, I1, r1, rfl, rfl⟩
  obtain rfl : u = Value.ref f := r1
  have of1 := I1.base.keep f _ hf hfn hfr (List.not_mem_nil)
  obtain ⟨⟨oc, vs, t, hoc, hdc, hvc⟩, _, _⟩ := I1.hok c' _ hc
  have here : codeAny (model X.prog X.w) (X.A.deeper (envOfC qg sg s.heap.objs.size g cdg)) (.call (.ref f) ⟨[], []⟩) (CR (L2.CX X.prog X.w) (envOfC qg sg s.heap.objs.size g cdg :: X.stack) X.prog X.w H1 s1 Q (WE W σZ)) s1 := by
    refine PySem.W.kla_callFunE hr.depth of1 rfl L.co L.gen rfl ⟨c', oc, vs, t, rfl, hoc, hdc, hvc⟩ ?_
    rw [hbind]
    refine wpAny_pure (wpAny_newFunctionEnv (fun y hy => (L.own y hy).2) (fun y hy => absurd hy (by simp)) (fun h₁ hns hsb => ⟨I1.nolimit.fresh _ hsb, ?_⟩) L.kind)
    have J : Inv (LamX.lamCx X (X.A.deeper (envOfC qg sg s.heap.objs.size g cdg)) (envOfC qg sg s.heap.objs.size g cdg :: X.stack) s1 H1 (WE W σZ) scope f c') [] σ H1 { s1 with heap := h₁, toks := s1.toks + ([] : List (Str × Value)).length } :=
      LamX.lam_start2 I L I1.env0 hr.hd I1.base hns fun b o e => hsb.extBut b o (Nat.ne_of_lt (Heap.lt_size e)) (Heap.get?_push_of_some _ e)
    show codeAny _ _ (.expr body (LamX.lamEnv X scope s1.heap.objs.size f c')) _ _
    refine PySem.W.kla_codeExpr (wpAny_mono ((hbody _ _ s1 H1 (WE W σZ) (hr.deeper _)).run [] _ _ H1 Q J ht) ?_ fun e s' hq => hq)
    rintro v s' ⟨w', H', J', rv, q⟩
    exact ⟨w', H', J'.os, J'.bare, J'.base, J'.hok, rv, q⟩
  refine PySem.W.callWith_F0 ⟨_, _, _, _, of1⟩ (wpAny_call (codeAny_mono here fun r s' hq => ?_))
  match r, hq with
  | .error e, hq => exact passAt tk σZ pinsZ _ s1 e s' I1 hq
  | .ok (.ret u), hq => exact I1.after hq
  | .ok .next, hq => exact False.elim hq
  | .ok .brk, hq => exact False.elim hq
  | .ok .cont, hq => exact False.elim hq
def GivesW (X : Cx) (Ng : List Str) (x : Str) (sg : Scope) (g : Addr) (cdg : Value) (bg : List Stmt) (a : Str) (q : Str) (TT : (XK → Hp → VK → Prop) → Hp → VK → Prop) : Prop :=
  ∀ (f c' : Addr) (s : Shared) (H : Hp) (Q : VK) (tl : XK → Hp → VK → Prop),
    (∀ (W : WX) (pn : List (Addr × Obj)) (xe : Value → Shared → Prop) (p1 p2 : Pos), Takes ((cxOf C8.CX0 X.prog X.w X.K X.mg X.base Ng x sg g cdg X.A X.stack s H C8.E0).tr pn xe) W →
      PE ((cxOf C8.CX0 X.prog X.w X.K X.mg X.base Ng x sg g cdg X.A X.stack s H C8.E0).tr pn xe) (.Call (.Name a p1) [] [] p2) (fun σZ HZ Q => σZ[0]? = some (some (.ref f)) ∧ HZ c' = some (LamX.CodeO c' q) ∧ tl (WE W σZ) HZ Q)) →
    H c' = some (LamX.CodeO c' q) → TT tl H Q →
    ∃ t, PSs (cxOf C8.CX0 X.prog X.w X.K X.mg X.base Ng x sg g cdg X.A X.stack s H C8.E0).nox bg t ∧ t { nx := fun _ H' => Q .non H', rt := Q } (L2.start Ng [.ref f]) H
theorem pe_lamW {T : List (Addr × Str)} {TT : (XK → Hp → VK → Prop) → Hp → VK → Prop} {x a : Str} {g c P : Addr} {k : Nat} {pg : Arguments} {bg : List Stmt} {sg : Scope} {dV kV doc pm cdv ct oc : Value} {an od : Option Addr} {osl : Array (Option Value)} {Ng : List Str}
    {params : Arguments} {body : Expr} {scope : Scope} {t : XK → TE} {p lpos pos : Pos} (hg : Gl X x) (hm : X.mg x = some (.ref g)) (hk : PySem.W.keepIn X.K (.ref g) = true)
    (lk : X.K.lookup g = some ⟨oc, od, .func (PySem.W.fnOf x x pg bg sg dV kV doc pm an cdv ct), osl⟩) (hcg : PySem.W.codeIn X.K cdv x = true) (hb : L2.Binds X.K (PySem.W.fnOf x x pg bg sg dV kV doc pm an cdv ct) [a] []) (Sg : FnScope Ng [a] sg) (hNg : Ng[0]? = some a) (hva : Vis sg a)
    (hG : GivesW X Ng x sg g cdv bg a (X.env.qual ++ "<lambda>") TT)
    (TB : LamX.TabB X.base X.mg c P) (hcode : X.env.code = .ref c) (hmT : (P, X.env.qual ++ "<lambda>") ∈ T) (hu : ∀ p ∈ T, p.1 = P → p.2 = X.env.qual ++ "<lambda>") (hr : Room (k + 2) X.A) (L : LamX.LamS X.env.scope scope) (hdef : defaultsOf params X.env = ([], []))
    (hbind : ∀ (q : Str) (cl : List (Str × Addr)) (pm cv ctv : Value), bindArgs (PySem.W.kla_fn "<lambda>" q params body scope cl pm cv ctv) ⟨[], []⟩ = pure [])
    (hbody : ∀ (A : Around) (outer : List Env) (s : Shared) (H : Hp) (E : XK) (f c' : Addr), Room k (A.deeper (LamX.lamEnv X scope s.heap.objs.size f c')) → PE (LamX.lamCx X A outer s H E scope f c') body (t E))
    (hdb : (x == ("__debug__" : Str)) = false := by decide) (hd : (a == ("__debug__" : Str)) = false := by decide) (hcd : (a == ("__classdict__" : Str)) = false := by decide) :
    PE X (.Call (.Name x p) [.Lambda params body scope lpos] [] pos) (LamX.tLam T TT t) := by
  refine ⟨fun pins s σ H Q I ⟨hT, h⟩ => wpAny_Call_Name_kw (ld_glob I hg hm (PySem.W.callWith_K (h₀ := X.base) I.ok.mod.kin hk ?_ (by rfl) (by rfl)) hdb)⟩
  show wpAny _ _ (spliced ((false, eval (.Lambda params body scope lpos) X.env) :: backTo pos (starEach [] X.env))) _ _ s
  refine Calls.spliced_cons (LamX.lam_make2 I TB hcode hmT hu hT hdef (L.has I.ok) fun f c' pm' ctv H1 s' I1 eN T1 hf hfn hfr hco => Calls.spliced_nil ⟨I1.kIn, wpAny_call (codeAny_mono (R := CR C8.CX0 X.stack X.prog X.w H1 s' Q C8.E0) ?_ fun r s2 hq => ?_)⟩)
  · refine LamX.run_ofS (N := Ng) (ps := [a]) (us := [.ref f]) (vs := [.ref f]) lk hcg Sg hr I1.env0 (hb s' [.ref f] I1.kIn rfl) (.cons rfl .nil) rfl fun hr' => ?_
    obtain ⟨t', ht', hq'⟩ := hG f c' s' H1 Q (fun E H' Q' => t E σ H' Q') (fun W pn xe p1 p2 tk => pe_actW (i := 0) I1 L hf hfn hfr (hbind _ _ _ _ _) tk hr' (fun A outer s H E hr2 => hbody A outer s H E f c' hr2) hNg hva hd hcd) hco (h H1 eN T1)
    exact ⟨t', ht'.nox, hq'⟩
  · match r, hq with
    | .error e, hq => exact (show False from hq).elim
    | .ok (.ret u), hq => exact I1.after hq
    | .ok .next, hq => exact False.elim hq
    | .ok .brk, hq => exact False.elim hq
    | .ok .cont, hq => exact False.elim hq
end
def noOwn (e : En) : Bool := e.all fun s => match s with
  | .own _ => false
  | _ => true
def eAct (f : Addr) (th : Store → R D) (e : En) (S : Store) : R D := match (e[0]? : Option Sl) with
  | some (Sl.val (.adr g)) => if g = f ∧ noOwn e = true then th S else .no
  | _ => .no
def eLam (heard : Addr → (Store → R D) → Store → R D) (f : Sx D) (e : En) (S : Store) : R D := (heard 0 (fun S1 => f e S1) S).clean
def runL (k : Nat) (f : Addr → (Store → R D) → Sy) (a : Addr) (th : (Store → R D)) (S : Store) : R D := (f a th (.val (.adr a) :: List.replicate k .no) S).res
def TTsh (K : PySem.W.Frag) (heard : Addr → (Store → R D) → Store → R D) : (XK → Hp → VK → Prop) → Hp → VK → Prop := fun tl H Q => ∃ B m S th, Cells K B m [] H S ∧
  (∀ (E : XK) (B' : Addr → Prop) m' H' S' Q', (∀ a, B a → B' a) → (∀ a, B' a → B a ∨ Fr H a) → Fut m H m' H' → Cells K B' m' [] H' S' → Post K B' [] m' H' Rep (fun c d => E c d) Q' (th S') → tl E H' Q') ∧ ∀ f, Post K B [] m H Rep (fun _ _ _ => False) Q (heard f th S)
section
variable {K : PySem.W.Frag} {B1 B2 : Addr → Prop} {m : List Addr} {o1 o2 : List (Option Addr)} {H : Hp} {S : Store}
structure Swap (B1 : Addr → Prop) (o1 : List (Option Addr)) (B2 : Addr → Prop) (o2 : List (Option Addr)) : Prop where
  eq : ∀ a, (B1 a ∨ some a ∈ o1) ↔ (B2 a ∨ some a ∈ o2)
  dis : ∀ a, some a ∈ o2 → ¬ B2 a
  od : ∀ (i j : Nat) (a : Addr), o2[i]? = some (some a) → o2[j]? = some (some a) → i = j
theorem Swap.zf (w : Swap B1 o1 B2 o2) : zf B1 m o1 = zf B2 m o2 := by
  funext a
  unfold Sh.zf
  have := w.eq a
  apply propext
  constructor
  · rintro (h | h | h)
    · rcases this.mp (.inl h) with h | h
      · exact .inl h
      · exact .inr (.inr h)
    · exact .inr (.inl h)
    · rcases this.mp (.inr h) with h | h
      · exact .inl h
      · exact .inr (.inr h)
  · rintro (h | h | h)
    · rcases this.mpr (.inl h) with h | h
      · exact .inl h
      · exact .inr (.inr h)
    · exact .inr (.inl h)
    · rcases this.mpr (.inr h) with h | h
      · exact .inl h
      · exact .inr (.inr h)
theorem Swap.wo (w : Swap B1 o1 B2 o2) : wo K B1 m o1 H = wo K B2 m o2 H := by
  show (⟨K, Sh.zf B1 m o1, m, H⟩ : Wo) = ⟨K, Sh.zf B2 m o2, m, H⟩
  rw [w.zf]
theorem Cells.swap (c : Cells K B1 m o1 H S) (w : Swap B1 o1 B2 o2) : Cells K B2 m o2 H S :=
  ⟨fun a h => ((w.eq a).mpr (.inl h)).elim (c.hB a) (c.oh a), c.nd, fun a h q => ((w.eq a).mpr (.inr q)).elim (c.nB a (.inl h)) (c.no a h), fun a h q => h.elim (fun h => ((w.eq a).mpr (.inl q)).elim (c.nB a (.inl h)) (c.no a h)) fun h => w.dis a h q, w.od, fun a h => ((w.eq a).mpr (.inr h)).elim (c.hB a) (c.oh a), c.len,
    fun n a x h1 h2 => by rw [← w.wo]; exact c.cs n a x h1 h2, c.tb, fun a z => c.nt a (by rw [w.zf]; exact z)⟩
theorem Post.swap {α β : Type} {RP : Wo → β → α → Prop} {W : Value → Option Addr → Hp → Prop} {Q : α → Hp → Prop} {r : R β} (h : Post K B1 o1 m H RP W Q r) (w : Swap B1 o1 B2 o2) (w' : Swap B2 o2 B1 o1) : Post K B2 o2 m H RP W Q r := by
  cases r with
  | ok y S1 => exact fun a m1 H1 f1 c1 r1 => h a m1 H1 f1 (c1.swap w') (by rw [w.wo]; exact r1)
  | er x S1 => exact fun a d m1 H1 f1 c1 r1 => h a d m1 H1 f1 (c1.swap w') (by rw [w.wo]; exact r1)
  | no => exact h
end
theorem no_own {K : PySem.W.Frag} {b : Bs} {m : List Addr} {ow : List (Option Addr)} {H : Hp} {σ : L2.St} {e : En} {S : Store} (t : At K b m ow H σ e S) (h : noOwn e = true) : ∀ a, some a ∉ ow := fun a ha => by
  obtain ⟨i, hi⟩ := List.mem_iff_getElem?.mp ha
  obtain ⟨c, hc⟩ := t.oe i a hi
  have := List.all_eq_true.mp h _ (List.mem_of_getElem? hc)
  cases this
theorem swap_nil {B : Addr → Prop} {ow : List (Option Addr)} (h : ∀ a, some a ∉ ow) : Swap B ow B [] ∧ Swap B [] B ow :=
  ⟨⟨fun a => ⟨fun q => q.elim .inl fun q => (h a q).elim, fun q => q.elim .inl fun q => (List.not_mem_nil q).elim⟩, fun a q => (List.not_mem_nil q).elim, fun i j a q => by simp at q⟩,
    ⟨fun a => ⟨fun q => q.elim .inl fun q => (List.not_mem_nil q).elim, fun q => q.elim .inl fun q => (h a q).elim⟩, fun a q => (h a q).elim, fun i j a q => (h a (List.mem_of_getElem? q)).elim⟩⟩
theorem x_act [ib : BasePred] {X : Cx} {W : WX} {f c' : Addr} {q : Str} {th : Store → R D} {K : PySem.W.Frag} {B : Addr → Prop} {m : List Addr} {H : Hp} {S : Store} {tl : XK → Hp → VK → Prop} {a : Str} {p1 p2 : Pos} (c : Cells K B m [] H S) (hc : H c' = some (LamX.CodeO c' q))
    (ok : ∀ (E : XK) (B' : Addr → Prop) m' H' S' Q', (∀ a, B a → B' a) → (∀ a, B' a → B a ∨ Fr H a) → Fut m H m' H' → Cells K B' m' [] H' S' → Post K B' [] m' H' Rep (fun c d => E c d) Q' (th S') → tl E H' Q')
    (hΦ : ∀ b, ib.Φ b → b.m0 = m ∧ b.H0 = H ∧ (∀ a, B a → b.B a) ∧ ∀ a, b.B a → B a ∨ Fr H a)
    (pe : PE X (.Call (.Name a p1) [] [] p2) (fun σZ HZ Q => σZ[0]? = some (some (.ref f)) ∧ HZ c' = some (LamX.CodeO c' q) ∧ tl (WE W σZ) HZ Q)) : Ev K X W (.Call (.Name a p1) [] [] p2) (eAct f th) := by
  refine ⟨_, pe, fun b m' ow H' σ e S' Q t z => ?_⟩
  unfold eAct at z
  split at z
  · rename_i g he
    split at z
    · rename_i hg
      obtain ⟨rfl, hno⟩ := hg
      obtain ⟨v, h1, h2⟩ := t.slots 0 _ he
      unfold Rep at h2
      subst h2
      obtain ⟨e1, e2, e3, e4⟩ := hΦ b t.ph
      have fut := t.fut
      rw [e1, e2] at fut
      obtain ⟨w1, w2⟩ := swap_nil (B := b.B) (no_own t hno)
      refine ⟨h1, fut.keep c' _ hc (fun ps z => by unfold LamX.CodeO at z; cases z) fun hm => ?_, ok _ b.B m' H' S' Q e3 e4 fut (t.cells.swap w1) (z.swap w1 w2)⟩
      obtain ⟨n, hn⟩ := List.mem_iff_getElem?.mp hm
      obtain ⟨o, ho, _, n2⟩ := (c.cs n c' _ hn (List.getElem?_eq_getElem (by rw [← c.len]; exact (List.getElem?_eq_some_iff.mp hn).1))).some
      have ho : H c' = some o := ho
      rw [hc] at ho
      exact n2 _ (Option.some.inj ho).symm
    · exact z.elim
  · exact z.elim
theorem gives_sh {X : Cx} {Ng : List Str} {x a q : Str} {sg : Scope} {g : Addr} {cdg : Value} {bg : List Stmt} {k : Nat} {fb : Addr → (Store → R D) → Sy} (hN : Ng.length = 1 + k)
    (hb : ∀ [BasePred] (f : Addr) (th : Store → R D) (s : Shared) (H : Hp), (∀ (W : WX) (pn : List (Addr × Obj)) (xe : Value → Shared → Prop) (p1 p2 : Pos), Takes ((cxOf C8.CX0 X.prog X.w X.K X.mg X.base Ng x sg g cdg X.A X.stack s H C8.E0).tr pn xe) W →
        Ev X.K ((cxOf C8.CX0 X.prog X.w X.K X.mg X.base Ng x sg g cdg X.A X.stack s H C8.E0).tr pn xe) W (.Call (.Name a p1) [] [] p2) (eAct f th)) →
      Ess X.K (cxOf C8.CX0 X.prog X.w X.K X.mg X.base Ng x sg g cdg X.A X.stack s H C8.E0).nox W0 bg (fb f th)) : GivesW X Ng x sg g cdg bg a q (TTsh X.K (runL k fb)) := by
  intro f c' s H Q tl act hc ⟨B, m, S, th, c, ok, h⟩
  let ib : BasePred := ⟨fun b => b.m0 = m ∧ b.H0 = H ∧ (∀ a, B a → b.B a) ∧ ∀ a, b.B a → B a ∨ Fr H a, fun b p hp ⟨e1, e2, e3, e4⟩ => ⟨e1, e2, fun a h => .inl (e3 a h), fun a h => h.elim (e4 a) fun h => .inr (by rw [h, ← e2]; exact hp)⟩⟩
  obtain ⟨ts, p1, h1⟩ := (@hb ib f th s H fun W pn xe p1 p2 tk => x_act (ib := ib) c hc ok (fun b h => h) (act W pn xe p1 p2 tk)).run
  refine ⟨ts, p1, ?_⟩
  have q := h f
  have st := start_at (N := Ng) (n := 1) (k := k) (ds := [.adr f]) (vs := [.ref f]) (show ib.Φ ⟨B, m, H, none⟩ from ⟨rfl, rfl, fun _ h => h, fun _ h => .inl h⟩) hN rfl c (reps_cons (by unfold Rep; rfl) reps_nil)
  refine h1 ⟨B, m, H, none⟩ m (List.replicate (1 + k) none) H _ _ S _ st ?_
  unfold runL at q
  have none_mem : ∀ a : Addr, some a ∉ ([] : List (Option Addr)) := fun a h => List.not_mem_nil h
  have drop : ∀ {m' : List Addr} {ow' : List (Option Addr)} {H' : Hp} {S' : Store}, Cells X.K B m' ow' H' S' → Cells X.K B m' [] H' S' := fun c => c.sub (fun a h => (none_mem a h).elim) fun i j a h => by simp at h
  show PostS X.K _ _ W0 _ (fb f th (.val (.adr f) :: List.replicate k .no) S)
  generalize fb f th (.val (.adr f) :: List.replicate k .no) S = rs at q ⊢
  cases rs with
  | nx e' S' => exact fun σ' m' ow' H' t l => q .non m' H' t.fut (drop t.cells) rep_non
  | rt d S' => exact fun v m' ow' H' c' f' _ r' => q v m' H' f' (drop c') (Rep.le (le_ow fun a h => (none_mem a h).elim) d r')
  | er x e' S' => exact fun c d σ' m' ow' H' t l rx => q c d m' H' t.fut (drop t.cells) (ExR.le (le_ow fun a h => (none_mem a h).elim) rx)
  | bk e' S' => exact q.elim
  | ct e' S' => exact q.elim
  | no => exact q.elim
theorem x_lam {X : Cx} {W : WX} {K : PySem.W.Frag} {heard : Addr → (Store → R D) → Store → R D} {fb : Sx D} {x a : Str} {g c P : Addr} {k : Nat} {pg : Arguments} {bg : List Stmt} {sg : Scope} {dV kV doc pm cdv ct oc : Value} {an od : Option Addr} {osl : Array (Option Value)} {Ng : List Str}
    {params : Arguments} {body : Expr} {scope : Scope} {p lpos pos : Pos} (hK : X.K = K) (hφ : ∀ b, BasePred.Φ b) (hpar : ∀ f th S, heard f th S = heard 0 th S) (hg : Gl X x) (hm : X.mg x = some (.ref g)) (hk : PySem.W.keepIn X.K (.ref g) = true)
    (lk : X.K.lookup g = some ⟨oc, od, .func (PySem.W.fnOf x x pg bg sg dV kV doc pm an cdv ct), osl⟩) (hcg : PySem.W.codeIn X.K cdv x = true) (hb : L2.Binds X.K (PySem.W.fnOf x x pg bg sg dV kV doc pm an cdv ct) [a] []) (Sg : FnScope Ng [a] sg) (hNg : Ng[0]? = some a) (hva : Vis sg a)
    (hG : GivesW X Ng x sg g cdv bg a (X.env.qual ++ "<lambda>") (TTsh X.K heard))
    (TB : LamX.TabB X.base X.mg c P) (hcode : X.env.code = .ref c) (hmT : (P, X.env.qual ++ "<lambda>") ∈ TabSet.TS K) (hu : ∀ p ∈ TabSet.TS K, p.1 = P → p.2 = X.env.qual ++ "<lambda>") (hr : Room (k + 2) X.A) (L : LamX.LamS X.env.scope scope) (hdef : defaultsOf params X.env = ([], []))
    (hbind : ∀ (q : Str) (cl : List (Str × Addr)) (pm cv ctv : Value), bindArgs (PySem.W.kla_fn "<lambda>" q params body scope cl pm cv ctv) ⟨[], []⟩ = pure [])
    (hbody : ∀ (A : Around) (outer : List Env) (s : Shared) (H : Hp) (E : XK) (f c' : Addr), Room k (A.deeper (LamX.lamEnv X scope s.heap.objs.size f c')) → Ev K (LamX.lamCx X A outer s H E scope f c') (fun c d _ H => E c d H) body fb)
    (hdb : (x == ("__debug__" : Str)) = false := by decide) (hd : (a == ("__debug__" : Str)) = false := by decide) (hcd : (a == ("__classdict__" : Str)) = false := by decide) :
    Ev K X W (.Call (.Name x p) [.Lambda params body scope lpos] [] pos) (eLam heard fb) := by
  subst hK
  refine ⟨_, pe_lamW (T := TabSet.TS X.K) (t := fun E => teOf X.K (fun c d _ H => E c d H) fb) hg hm hk lk hcg hb Sg hNg hva hG TB hcode hmT hu hr L hdef hbind (fun A outer s H E f c' hr' => (hbody A outer s H E f c' hr').canon) hdb hd hcd, fun b m ow H σ e S Q t q => ⟨t.cells.tb, fun H1 x1 tb1 => ?_⟩⟩
  have t1 := t.ext x1 tb1
  unfold eLam at q
  refine ⟨hidB b.B ow, m, S, fun S1 => fb e S1, t1.cells.toHid, fun E B' m' H' S' Q' h1 h2 f' c' q' => ?_, fun f => ?_⟩
  · have mem : ∀ a, some a ∈ ow → B' a := fun a h => h1 a (.inr h)
    have w1 : Swap B' [] (fun a => B' a ∧ some a ∉ ow) ow := ⟨fun a => ⟨fun h => h.elim (fun h => (Classical.em (some a ∈ ow)).elim .inr fun n => .inl ⟨h, n⟩) fun h => (List.not_mem_nil h).elim, fun h => h.elim (fun h => .inl h.1) fun h => .inl (mem a h)⟩, fun a h z => z.2 h, t1.cells.od⟩
    have w2 : Swap (fun a => B' a ∧ some a ∉ ow) ow B' [] := ⟨fun a => (w1.eq a).symm, fun a h => (List.not_mem_nil h).elim, fun i j a h => by simp at h⟩
    have le : Le (wo X.K b.B m ow H1) (wo X.K (fun a => B' a ∧ some a ∉ ow) m' ow H') := by
      have l0 : Le (wo X.K b.B m ow H1) (wo X.K b.B m' ow H') := f'.le
      refine ⟨rfl, fun y o ey n z => ?_, l0.m, l0.keep⟩
      rintro (⟨h, h3⟩ | h | h)
      · rcases h2 y h with (h | h) | h
        · exact z (.inl h)
        · exact h3 h
        · exact h.no ey n
      · exact l0.z y o ey n z (.inr (.inl h))
      · exact z (.inr (.inr h))
    refine ⟨⟨fun a => B' a ∧ some a ∉ ow, b.m0, b.H0, b.sf⟩, m', ow, e, S', ⟨c'.swap w1, t1.len, fun i s hs => ?_, t1.fut.trans f', t1.new, t1.oe, t1.sf, hφ _⟩, q'.swap w1 w2⟩
    have h := t1.slots i s hs
    cases s with
    | no => exact True.intro
    | val d => obtain ⟨v, g1, g2⟩ := h; exact ⟨v, g1, Rep.le le d g2⟩
    | own y =>
      obtain ⟨a, g1, g2, g3⟩ := h
      exact ⟨a, g1, g2, g3.le le fun o eo n => f'.keep a o eo n fun hm => t1.cells.no a hm (List.mem_of_getElem? g2)⟩
  · rw [hpar f]
    have q2 := (q.go (fut_ext (m := m) x1)).toHid t1.cells
    exact q2.clean
end Sh
namespace Sh
open PySem PySem.Spec PyProof.Rows L2 Nk StX
variable [TabSet] [BasePred]
def D.tyIn (bi cs : List String) (S : Store) : D → Bool
  | .non => bi.contains "NoneType"
  | .bl _ => bi.contains "bool"
  | .int _ => bi.contains "int"
  | .str _ => bi.contains "str"
  | .lst _ => bi.contains "list"
  | .scr _ => bi.contains "list"
  | .tup _ => bi.contains "tuple"
  | .dk _ => bi.contains "dict"
  | .dt _ => bi.contains "dict"
  | .fk _ => bi.contains "dict"
  | .obj c _ => cs.contains c
  | .ref n => match S[n]? with
    | some (.ins c _) => cs.contains c
    | some (.lst _) => bi.contains "list"
    | _ => false
  | _ => false
structure TyOk (K : PySem.W.Frag) (P : Value → Prop) (bi cs : List String) : Prop where
  b : ∀ t ∈ bi, P (.type t)
  o : ∀ c ∈ cs, Cls K (He.ga K c) ∧ InsC K (He.ga K c) ∧ P (.ref (He.ga K c))
theorem to_nil {K : PySem.W.Frag} {P : Value → Prop} : ∀ c ∈ ([] : List String), Cls K (He.ga K c) ∧ InsC K (He.ga K c) ∧ P (.ref (He.ga K c)) := fun _ h => nomatch h
theorem to_cons {K : PySem.W.Frag} {P : Value → Prop} {c : String} {cs : List String} (h1 : Cls K (He.ga K c)) (h2 : InsC K (He.ga K c)) (h3 : P (.ref (He.ga K c))) (h : ∀ c ∈ cs, Cls K (He.ga K c) ∧ InsC K (He.ga K c) ∧ P (.ref (He.ga K c))) : ∀ x ∈ c :: cs, Cls K (He.ga K x) ∧ InsC K (He.ga K x) ∧ P (.ref (He.ga K x)) := fun d hd => by
  rcases List.mem_cons.mp hd with rfl | hd
  · exact ⟨h1, h2, h3⟩
  · exact h d hd
section
variable {K : PySem.W.Frag} {B : Addr → Prop} {m : List Addr} {ow : List (Option Addr)} {H : Hp} {S : Store}
theorem ty_at {P : Value → Prop} {bi cs : List String} {d : D} {v : V} (ok : TyOk K P bi cs) (t : Cells K B m ow H S) (r : Rep (wo K B m ow H) d v) (h : d.tyIn bi cs S = true) : ∃ T, TyX K H v T ∧ P T := by
  cases d <;> unfold D.tyIn at h <;> try cases h
  case non => unfold Rep at r; subst r; exact ⟨_, .base .non, ok.b _ (by simpa using h)⟩
  case bl => cases rep_blD r; exact ⟨_, .base (.bl _), ok.b _ (by simpa using h)⟩
  case int => cases rep_intD r; exact ⟨_, .base (.int _), ok.b _ (by simpa using h)⟩
  case str => obtain ⟨rfl, _⟩ := rep_strD r; exact ⟨_, .base (.str _), ok.b _ (by simpa using h)⟩
  case tup =>
    obtain ⟨a, vs, rfl, t, _⟩ := rep_tree r
    obtain ⟨t, _⟩ := t
    obtain ⟨_, t⟩ := t
    exact ⟨_, .base (.tup t), ok.b _ (by simpa using h)⟩
  case lst => obtain ⟨a, vs, rfl, t, _⟩ := rep_list r; exact ⟨_, .base (.lst t.2.1), ok.b _ (by simpa using h)⟩
  case scr =>
    unfold Rep at r
    obtain ⟨a, vs, rfl, ⟨t, _⟩, _⟩ := r
    rcases t with ⟨_, t | ⟨o, t⟩⟩ | ⟨o, its, n, t, c, _⟩
    · exact ⟨_, .base (.lst t), ok.b _ (by simpa using h)⟩
    · exact ⟨_, .base (.frz t), ok.b _ (by simpa using h)⟩
    · exact ⟨_, .kList t c, ok.b _ (by simpa using h)⟩
  case dk => unfold Rep at r; obtain ⟨a, vs, rfl, _, t, _⟩ := r; exact ⟨_, .base (.dK t), ok.b _ (by simpa using h)⟩
  case dt => unfold Rep at r; obtain ⟨a, vs, rfl, _, t, _⟩ := r; exact ⟨_, .base (.dT t), ok.b _ (by simpa using h)⟩
  case fk => unfold Rep at r; obtain ⟨a, o, vs, rfl, _, t, _⟩ := r; exact ⟨_, .fDict t, ok.b _ (by simpa using h)⟩
  case obj c fs =>
    unfold Rep at r
    obtain ⟨a, dx, gs, rfl, _, t, _⟩ := r
    obtain ⟨h1, h2, h3⟩ := ok.o c (by simpa using h)
    exact ⟨_, .base (.ins t h1 h2.ha h2.hn h2.ht h2.hm), h3⟩
  case ref n =>
    unfold Rep at r
    obtain ⟨a, rfl, hm⟩ := r
    cases s : S[n]? with
    | none => simp only [s] at h; cases h
    | some x =>
      cases x with
      | ins c fs =>
        simp only [s] at h
        obtain ⟨dx, gs, hH, r⟩ := cell_ins t hm s
        obtain ⟨h1, h2, h3⟩ := ok.o c (by simpa using h)
        exact ⟨_, .base (.ins hH h1 h2.ha h2.hn h2.ht h2.hm), h3⟩
      | lst ds =>
        simp only [s] at h
        obtain ⟨vs, hH, hl, r⟩ := t.cs n a _ hm s
        exact ⟨_, .base (.lst hH), ok.b _ (by simpa using h)⟩
      | _ => simp only [s] at h; cases h
def D.isO (c : String) (S : Store) : D → Bool
  | .obj c' _ => c' == c
  | .ref n => match S[n]? with
    | some (.ins c' _) => c' == c
    | _ => false
  | _ => false
theorem isO_at {c : String} {d : D} {v : V} (t : Cells K B m ow H S) (r : Rep (wo K B m ow H) d v) (h : d.isO c S = true) : ∃ a dx fs, v = .ref a ∧ H a = some (.ins (He.ga K c) dx fs) := by
  cases d <;> unfold D.isO at h <;> try cases h
  · rename_i c' fs
    simp only [beq_iff_eq] at h
    unfold Rep at r
    obtain ⟨a, dx, gs, rfl, _, hH, r⟩ := r
    exact ⟨a, dx, gs, rfl, h ▸ hH⟩
  · rename_i n
    unfold Rep at r
    obtain ⟨a, rfl, hm⟩ := r
    cases s : S[n]? with
    | none => simp only [s] at h; cases h
    | some x =>
      cases x <;> simp only [s] at h <;> try cases h
      rename_i c' fs
      simp only [beq_iff_eq] at h
      obtain ⟨dx, gs, hH, r⟩ := cell_ins t hm s
      exact ⟨a, dx, gs, rfl, h ▸ hH⟩
end
structure OpE (K : PySem.W.Frag) (X : Cx) (f : Value → Value → Sem Value) (o : D → D → Store → R D) : Prop where
  run : ∃ r, OpR X f r ∧ ∀ B m ow H S x y dx dy Q (W : Value → Option Addr → Hp → Prop), Cells K B m ow H S → Rep (wo K B m ow H) dx x → Rep (wo K B m ow H) dy y → Post K B ow m H Rep W Q (o dx dy S).clean → r x y H Q
structure CallE (K : PySem.W.Frag) (X : Cx) (f : Value) (o : List D → Store → R D) : Prop where
  run : ∃ r, CallR X f r ∧ ∀ B m ow H S xs ds Q (W : Value → Option Addr → Hp → Prop), Cells K B m ow H S → Reps (wo K B m ow H) ds xs → Post K B ow m H Rep W Q (o ds S).clean → r xs H Q
def oOf (o : D → D → Option D) (x : D) (y : D) (S : Store) : R D := R.of S (o x y)
def cOf (o : List D → Option D) (x : List D) (S : Store) : R D := R.of S (o x)
def oOr (o p : D → D → Store → R D) (x : D) (y : D) (S : Store) : R D := (o x y S).orE (p x y S)
def cOr (o p : List D → Store → R D) (x : List D) (S : Store) : R D := (o x S).orE (p x S)
def oOwn (neg : Bool) (c : String) (bi cs : List String) (F : List D → Store → R D) (x : D) (y : D) (S : Store) : R D := if x.isO c S = true ∧ y.tyIn bi cs S = true then (F [x, y] S).clean.bind fun z S1 => R.of S1 (z.b.map fun b => .bl (if neg then !b else b)) else .no
def cStr (c : String) (F : List D → Store → R D) : List D → Store → R D
  | [x], S => if x.isO c S = true then (F [x] S).clean.bind fun z S1 => match z with
    | .str n => .ok (.str n) S1
    | _ => .no else .no
  | _, _ => .no
def eBinE (o : D → D → Store → R D) (f g : Sx D) (e : En) (S : Store) : R D := (f e S).bind fun x S1 => (g e S1).bind fun y S2 => (o x y S2).clean
def eCallE (o : List D → Store → R D) (g : Sx (List D)) (e : En) (S : Store) : R D := (g e S).bind fun xs S1 => (o xs S1).clean
section
variable {α : Type}
@[simp] theorem clean_of {o : Option α} {S : Store} : (R.of S o).clean = R.of S o := by cases o <;> rfl
@[simp] theorem ite_clean {c : Prop} [Decidable c] {r s : R α} : (if c then r else s).clean = if c then r.clean else s.clean := by split <;> rfl
theorem post_clean {β : Type} {K : PySem.W.Frag} {B : Addr → Prop} {ow : List (Option Addr)} {m : List Addr} {H : Hp} {RP : Wo → β → α → Prop} {W : Value → Option Addr → Hp → Prop} {Q : α → Hp → Prop} {r : R β} (h : Post K B ow m H RP W Q r.clean) : Post K B ow m H RP W Q r := by
  cases r with
  | ok y S => exact h
  | er x S => exact h.elim
  | no => exact h.elim
end
section
variable {K : PySem.W.Frag} {X : Cx}
theorem OpS.e {f : Value → Value → Sem Value} {o : D → D → Option D} (h : OpS K X f o) : OpE K X f (oOf o) := by
  obtain ⟨r, a, b⟩ := h.run
  refine ⟨r, a, fun B m ow H S x y dx dy Q W c rx ry q => b _ rfl c.full x y dx dy Q rx ry ?_⟩
  unfold oOf at q
  rw [clean_of] at q
  exact q.pz c
theorem CallS.e {f : Value} {o : List D → Option D} (h : CallS K X f o) : CallE K X f (cOf o) := by
  obtain ⟨r, a, b⟩ := h.run
  refine ⟨r, a, fun B m ow H S x dx Q W c rx q => b _ rfl c.full x dx Q rx ?_⟩
  unfold cOf at q
  rw [clean_of] at q
  exact q.pz c
theorem OpE.or {f : Value → Value → Sem Value} {o p : D → D → Store → R D} (h : OpE K X f o) (g : OpE K X f p) : OpE K X f (oOr o p) := by
  obtain ⟨r1, a1, b1⟩ := h.run
  obtain ⟨r2, a2, b2⟩ := g.run
  refine ⟨_, op_alt a1 a2, fun B m ow H S x y dx dy Q W c rx ry q => ?_⟩
  unfold oOr at q
  cases e : o dx dy S with
  | ok d S1 => rw [e] at q; exact .inl (b1 B m ow H S x y dx dy Q W c rx ry (by rw [e]; exact q))
  | er d S1 => rw [e] at q; exact q.elim
  | no => rw [e] at q; exact .inr (b2 B m ow H S x y dx dy Q W c rx ry q)
theorem CallE.or {f : Value} {o p : List D → Store → R D} (h : CallE K X f o) (g : CallE K X f p) : CallE K X f (cOr o p) := by
  obtain ⟨r1, a1, b1⟩ := h.run
  obtain ⟨r2, a2, b2⟩ := g.run
  refine ⟨fun xs H Q => r1 xs H Q ∨ r2 xs H Q, fun pins s σ H xs us Q I r h => h.elim (a1 pins s σ H xs us Q I r) (a2 pins s σ H xs us Q I r), fun B m ow H S x dx Q W c rx q => ?_⟩
  unfold cOr at q
  cases e : o dx S with
  | ok d S1 => rw [e] at q; exact .inl (b1 B m ow H S x dx Q W c rx (by rw [e]; exact q))
  | er d S1 => rw [e] at q; exact q.elim
  | no => rw [e] at q; exact .inr (b2 B m ow H S x dx Q W c rx q)
theorem own_at {neg : Bool} {bi cs : List String} {c : String} {sp : Sp} {F : List D → Store → R D} {B : Addr → Prop} {m : List Addr} {ow : List (Option Addr)} {H : Hp} {S : Store} {x y : V} {dx dy : D} {Q : VK} {W : Value → Option Addr → Hp → Prop} (ok : TyOk K (fun t => PySem.W.notFirst K (He.ga K c) t = true) bi cs) (hs : Shp K sp F) (cl : Cells K B m ow H S) (rx : Rep (wo K B m ow H) dx x) (ry : Rep (wo K B m ow H) dy y) (q : Post K B ow m H Rep W Q (oOwn neg c bi cs F dx dy S).clean) : rOwn neg K (He.ga K c) sp x y H Q := by
  have q := post_clean q
  unfold oOwn at q
  split at q
  · rename_i hi
    obtain ⟨a, dx', fs, rfl, hH⟩ := isO_at cl rx hi.1
    obtain ⟨T, hT, hP⟩ := ty_at ok cl ry hi.2
    refine ⟨a, dx', fs, T, rfl, hH, hT, hP, hs.at cl (reps_cons rx (reps_cons ry reps_nil)) ((Post.bind q fun z S1 v m1 H1 f1 c1 rz q => ?_ : Post K B ow m H Rep W _ _).clean)⟩
    cases e : z.b with
    | none => rw [e] at q; exact q.elim
    | some b => rw [e] at q; exact ⟨b, rep_b rz e, q.val c1 rep_bl⟩
  · exact q.elim
variable {bi cs : List String} {c : String} {sp : Sp} {F : List D → Store → R D} {fa : Addr} {lv j : Nat} {ps : List Str}
theorem oe_eq (hK : X.K = K) (T : EqC K (He.ga K c) fa) (hF : Fo X.prog X.w K X.mg X.base fa lv ps sp) (hs : Shp K sp F) (ok : TyOk K (fun t => PySem.W.notFirst K (He.ga K c) t = true) bi cs) (hr : Room j X.A) (hk : lv ≤ j) : OpE K X (compareOp .Eq) (oOwn false c bi cs F) := by
  subst hK
  exact ⟨_, op_eqF T hF hr hk, fun B m ow H S x y dx dy Q W cl rx ry q => own_at ok hs cl rx ry q⟩
theorem oe_ne (hK : X.K = K) (T : EqC K (He.ga K c) fa) (hF : Fo X.prog X.w K X.mg X.base fa lv ps sp) (hs : Shp K sp F) (ok : TyOk K (fun t => PySem.W.notFirst K (He.ga K c) t = true) bi cs) (hr : Room j X.A) (hk : lv + 1 ≤ j) : OpE K X (compareOp .NotEq) (oOwn true c bi cs F) := by
  subst hK
  exact ⟨_, op_neF T hF hr hk, fun B m ow H S x y dx dy Q W cl rx ry q => own_at ok hs cl rx ry q⟩
theorem ce_str (hK : X.K = K) (hs' : PySem.W.findIn K (.ref (He.ga K c)) "__str__" = some (some (.ref fa))) (hf : PySem.W.isFn K (.ref fa) = true) (hF : Fo X.prog X.w K X.mg X.base fa lv ps sp) (hs : Shp K sp F) (hr : Room j X.A) (hk : lv + 2 ≤ j) : CallE K X (.type "str") (cStr c F) := by
  subst hK
  refine ⟨_, call_strF hs' hf hF hr hk, fun B m ow H S xs ds Q W cl r q => ?_⟩
  have q := post_clean q
  unfold cStr at q
  split at q
  · obtain ⟨v, rfl, r1⟩ := reps1 r rfl
    split at q
    · rename_i hi
      obtain ⟨a, dx', fs, rfl, hH⟩ := isO_at cl r1 hi
      refine ⟨a, dx', fs, rfl, hH, hs.at cl (reps_cons r1 reps_nil) ((Post.bind q fun z S1 v m1 H1 f1 c1 rz q => ?_ : Post X.K B ow m H Rep W _ _).clean)⟩
      cases z <;> try exact q.elim
      rename_i n
      have rz0 := rz
      obtain ⟨rfl, hl⟩ := rep_strD rz
      exact ⟨n, rfl, q.val c1 rz0⟩
    · exact q.elim
  · exact q.elim
end
section
variable {K : PySem.W.Frag} {X : Cx} {W : WX} {ex ex2 value : Expr} {es : List Expr} {f g h : Sx D} {a : Sx (List D)} {pos p p0 apos pos' : Pos} {i lv j : Nat} {x m fd : Str} {ps : List Str} {sp : Sp} {F : List D → Store → R D} {bi cs : List String} {c : String} {fa : Addr}
theorem x_cmpE {op : CmpOp} {o : D → D → Store → R D} (ho : OpE K X (compareOp op) o) (hf : Ev K X W ex f) (hg : Ev K X W ex2 g) (hm : behindInMarks op ex2 = false) : Ev K X W (.Compare ex [op] [ex2] pos) (eBinE o f g) := by
  obtain ⟨ta, p1, h1⟩ := hf.run
  obtain ⟨tb, p2, h2⟩ := hg.run
  obtain ⟨r, p3, h3⟩ := ho.run
  refine ⟨_, pe_cmpR p3 p1 p2 hm, fun b m ow H σ e S Q t q => h1 b m ow H σ e S _ t (Post.bind q fun x S1 v m1 H1 f1 c1 rx q => h2 b m1 ow H1 σ e S1 _ (t.go f1 c1) (Post.bind q fun y S2 u m2 H2 f2 c2 ry q => ?_))⟩
  exact h3 _ _ _ _ _ v u x y Q _ c2 (Rep.le f2.le x rx) ry q
theorem t_cmpE {op : CmpOp} {o : D → D → Store → R D} (ho : OpE K X (compareOp op) o) (hf : Ev K X W ex f) (hg : Ev K X W ex2 g) (hm : behindInMarks op ex2 = false) : Et K X W (.Compare ex [op] [ex2] pos) (tVal (eBinE o f g)) := by
  obtain ⟨ta, p1, h1⟩ := hf.run
  obtain ⟨tb, p2, h2⟩ := hg.run
  obtain ⟨r, p3, h3⟩ := ho.run
  refine ⟨_, pt_cmpR p3 p1 p2 hm, fun b m ow H σ e S Q t q => ?_⟩
  unfold tVal eBinE at q
  simp only [bind_bind] at q
  refine h1 b m ow H σ e S _ t (Post.bind q fun x S1 v m1 H1 f1 c1 rx q => h2 b m1 ow H1 σ e S1 _ (t.go f1 c1) (Post.bind q fun y S2 u m2 H2 f2 c2 ry q => ?_))
  refine h3 _ _ _ _ _ v u x y _ (fun c d => W c d σ) c2 (Rep.le f2.le x rx) ry ?_
  exact Post.bind q fun z S3 v3 m3 H3 f3 c3 rz q => q.tst c3 rz
theorem x_callTE {T : String} {o : List D → Store → R D} (hc : CallE K X (.type T) o) (hg : Gl X x) (hm : X.mg x = none) (hv : bootBuiltins x = some (.type T)) (ha : Ea K X W (ex :: es) a) (hn : x ≠ "__name__" := by decide) (hdb : (x == ("__debug__" : Str)) = false := by decide)
    (he : starEach (ex :: es) X.env = (false, eval ex X.env) :: starEach es X.env := by rfl) (hpl : (backTo pos (starEach es X.env)).any (·.1) = false := by rfl) : Ev K X W (.Call (.Name x p) (ex :: es) [] pos) (eCallE o a) := by
  obtain ⟨ta, p1, h1⟩ := ha.run
  obtain ⟨r, p2, h2⟩ := hc.run
  exact ⟨_, pe_callTy p2 hg hm hv p1 hn hdb he hpl, fun b m ow H σ e S Q t q => h1 b m ow H σ e S _ t (Post.bind q fun x S1 v m1 H1 f1 c1 rx q => h2 _ _ _ _ _ v x Q _ c1 rx q)⟩
def XfOk (K : PySem.W.Frag) (f : Str) (cs : List String) : Prop := ∀ c ∈ cs, XfC K (He.ga K c) ∧ PySem.W.findIn K (.ref (He.ga K c)) f = some none
theorem xk_nil {f : Str} : XfOk K f [] := fun _ h => nomatch h
theorem xk_cons {f : Str} {c : String} {cs : List String} (h1 : XfC K (He.ga K c)) (h2 : PySem.W.findIn K (.ref (He.ga K c)) f = some none) (h : XfOk K f cs) : XfOk K f (c :: cs) := fun d hd => by
  rcases List.mem_cons.mp hd with rfl | hd
  · exact ⟨h1, h2⟩
  · exact h d hd
def eXf (cs : List String) (fd : Str) (g : Sx D) (e : En) (S : Store) : R D := (g e S).bind fun x S1 => match x with
  | .exc c fs => if c ∈ cs then R.of S1 (fs.lookup fd) else .no
  | _ => .no
theorem x_xf {fd : Str} (hK : X.K = K) (hc : XfOk K fd cs) (hf : Ev K X W ex f) (hb : attributeBase ex fd X.env (eval ex X.env) = eval ex X.env := by rfl) : Ev K X W (.Attribute ex fd pos) (eXf cs fd f) := by
  subst hK
  obtain ⟨ta, p1, h1⟩ := hf.run
  refine ⟨_, pe_xe p1 hb, fun b m ow H σ e S Q t q => h1 b m ow H σ e S _ t (Post.bind q fun d S1 v m1 H1 f1 c1 rx q => ?_)⟩
  cases d <;> try exact q.elim
  rename_i c fs
  unfold Rep at rx
  obtain ⟨a, d, gs, rfl, _, hH, _, hD, r⟩ := rx
  dsimp only at q
  split at q
  · rename_i hm
    cases l : fs.lookup fd with
    | none => rw [l] at q; exact q.elim
    | some y =>
      rw [l] at q
      obtain ⟨u, h2, h3⟩ := repF_get r l
      exact ⟨a, _, d, gs, u, rfl, hH, (hc c hm).1, (hc c hm).2, hD, h2, q.val c1 h3⟩
  · exact q.elim
end
section
variable {K : PySem.W.Frag} {B : Addr → Prop} {m : List Addr} {ow : List (Option Addr)} {H H' : Hp} {S : Store} {c : Cell} {a : Addr}
theorem Cells.pub (cl : Cells K (fun x => B x ∨ x = a) m ow H S) (hB : ¬ B a) (ho : some a ∉ ow) (ham : a ∉ m) (r : CRep (wo K (fun x => B x ∨ x = a) m ow H) a c) : Cells K B (m ++ [a]) ow H (S ++ [c]) ∧ Le (wo K (fun x => B x ∨ x = a) m ow H) (wo K B (m ++ [a]) ow H) := by
  have le : Le (wo K (fun x => B x ∨ x = a) m ow H) (wo K B (m ++ [a]) ow H) := by
    refine ⟨rfl, fun x o e n z => ?_, fun n x e => ?_, fun _ _ e _ _ => e⟩
    · rintro (h | h | h)
      · exact z (.inl (.inl h))
      · rcases List.mem_append.mp h with h | h
        · exact z (.inr (.inl h))
        · exact z (.inl (.inr (List.mem_singleton.mp h)))
      · exact z (.inr (.inr h))
    · show (m ++ [a])[n]? = some x
      have e : m[n]? = some x := e
      rw [List.getElem?_append_left (List.getElem?_eq_some_iff.mp e).1]
      exact e
  refine ⟨⟨fun x hx => cl.hB x (.inl hx), ?_, fun x hx => ?_, fun x hx z => ?_, cl.od, cl.oh, by simp [cl.len], fun n x y h1 h2 => ?_, cl.tb, fun x z => z.elim (fun h => cl.nt x (.inl (.inl h))) fun h => h.elim (fun h => (List.mem_append.mp h).elim (fun h => cl.nt x (.inr (.inl h))) fun h => cl.nt x (.inl (.inr (List.mem_singleton.mp h)))) fun h => cl.nt x (.inr (.inr h))⟩, le⟩
  · rw [List.nodup_append]
    exact ⟨cl.nd, by simp, fun x hx y hy => by rw [List.mem_singleton.mp hy]; exact fun z => ham (z ▸ hx)⟩
  · rcases List.mem_append.mp hx with hx | hx
    · exact cl.no x hx
    · rw [List.mem_singleton.mp hx]; exact ho
  · rcases hx with hx | hx
    · rcases List.mem_append.mp hx with hx | hx
      · exact cl.nB x (.inl hx) (.inl z)
      · rw [List.mem_singleton.mp hx] at z; exact hB z
    · exact cl.nB x (.inr hx) (.inl z)
  · by_cases l : n < m.length
    · rw [List.getElem?_append_left l] at h1
      rw [List.getElem?_append_left (by rw [← cl.len]; exact l)] at h2
      exact (cl.cs n x y h1 h2).le le fun o e _ => e
    · rw [List.getElem?_append_right (by omega)] at h1
      rw [List.getElem?_append_right (by rw [← cl.len]; omega)] at h2
      rw [cl.len] at h1
      cases n' : n - S.length with
      | zero =>
        rw [n'] at h1 h2
        simp at h1 h2
        subst h1 h2
        exact r.le le fun o e _ => e
      | succ k => rw [n'] at h1; simp at h1
end
def pubC (c : Cell) (S : Store) : R D := .ok (.ref S.length) (S ++ [c])
def eMkC (c : String) (f : Cell → List D → Store → R Cell) (g : Sx D) (a : Sx (List D)) (e : En) (S : Store) : R D := (g e S).bind fun x S1 => match x with
  | .cls c' => if c' = c then (a e S1).bind fun ds S2 => (f (.ins c []) ds S2).bind fun c' S3 => pubC c' S3 else .no
  | _ => .no
def eLstC (a : Sx (List D)) (e : En) (S : Store) : R D := (a e S).bind fun xs S1 => if xs.length ≤ sizeLine then pubC (.lst xs) S1 else .no
theorem made_postC {K : PySem.W.Frag} {B : Addr → Prop} {ow : List (Option Addr)} {m : List Addr} {H : Hp} {S : Store} {W : Value → Option Addr → Hp → Prop} {Q : VK} {r : R Cell} {a dx : Addr} {C : Addr} (cl : Cells K B m ow H S) (ha : H a = none) (hd : H dx = none) (hne : dx ≠ a)
    (q : Post K B ow m H Rep W Q (r.bind fun c S => pubC c S)) : PostN K (hidB B ow) m a (L2.upd (L2.upd H dx (.own a)) a (.ins C dx [])) (fun c d => W c d) (fun v H3 => v = .non ∧ Q (.ref a) H3) r := by
  have s : Same H (L2.upd (L2.upd H dx (.own a)) a (.ins C dx [])) := fun b o hb => by
    rw [upd_ne (ne_of_none hb ha), upd_ne (ne_of_none hb hd)]
    exact hb
  have fut : ∀ {m' : List Addr} {H' : Hp}, Fut m (off a (L2.upd (L2.upd H dx (.own a)) a (.ins C dx []))) m' H' → Fut m H m' H' := fun {m' H'} f => by
    have f2 := fut_off s f
    obtain ⟨⟨r, e, hr⟩, k, d⟩ := f2
    have g : ∀ x, Fr (off a H) x → Fr H x := fun x h o e => by
      by_cases z : x = a
      · rw [z, ha] at e; cases e
      · exact h o (by rw [off_ne z]; exact e)
    refine ⟨⟨r, e, fun x hx => g x (hr x hx)⟩, fun x o h n hm => k x o ?_ n hm, fun x h => g x (d x h)⟩
    rw [off_ne (ne_of_none h ha)]
    exact h
  cases r with
  | no => exact q
  | er x S =>
    intro c d m' H' f c' rx
    have le : Le (wo K (fun x => hidB B ow x ∨ x = a) m' [] H') (wo K B m' ow H') := by
      rw [← wo_hid (B := B) (ow := ow)]
      exact le_hid
    exact q c d m' H' (fut f) (cl.ofHid c'.unhide) (ExR.le le rx)
  | ok c S =>
    intro m' H' f c' rc
    have hB : ¬ hidB B ow a := fun z => z.elim (fun z => cl.hB a z (.none ha)) fun z => cl.oh a z (.none ha)
    obtain ⟨c2, le⟩ := c'.pub hB (List.not_mem_nil) (fun z => c'.nB a (.inl z) (.inr rfl)) rc
    obtain ⟨⟨r, e, hr⟩, k, d⟩ := fut f
    refine ⟨rfl, q _ (m' ++ [a]) H' ⟨⟨r ++ [a], by rw [e, List.append_assoc], fun x hx => ?_⟩, k, d⟩ (cl.ofHid c2) ?_⟩
    · rcases List.mem_append.mp hx with hx | hx
      · exact hr x hx
      · rw [List.mem_singleton.mp hx]; exact .none ha
    · unfold Rep
      refine ⟨a, rfl, ?_⟩
      show (m' ++ [a])[S.length]? = some a
      rw [← c'.len]
      simp
section
variable {K : PySem.W.Frag} {X : Cx} {W : WX} {ex ex2 : Expr} {es : List Expr} {f g : Sx D} {a : Sx (List D)} {pos p p0 apos : Pos} {i lv j : Nat} {x m : Str} {ps : List Str} {sp : Sp} {F : Cell → List D → Store → R Cell} {cs : List String} {c : String} {fa : Addr}
theorem mk_rdC {tf : TE} {ta : TA} (h2 : ∀ b m ow H σ e S Q, At K b m ow H σ e S → Post K b.B ow m H Rep (fun c d => W c d σ) Q (g e S) → tf σ H Q) (h1 : ∀ b m ow H σ e S Q, At K b m ow H σ e S → Post K b.B ow m H Reps (fun c d => W c d σ) Q (a e S) → ta σ H Q) (hs : Shi K sp F) :
    ∀ b m ow H σ e S Q, At K b m ow H σ e S → Post K b.B ow m H Rep (fun c d => W c d σ) Q (eMkC c F g a e S) → tMkW (He.ga K c) sp W tf ta σ H Q := by
  refine fun b m ow H σ e S Q t q => h2 b m ow H σ e S _ t (Post.bind q fun d S1 v m1 H1 f1 c1 rx q => ?_)
  cases d <;> try exact q.elim
  rename_i c'
  dsimp only at q
  split at q
  · rename_i hi
    subst hi
    unfold Rep at rx
    subst rx
    refine ⟨rfl, h1 b m1 ow H1 σ e S1 _ (t.go f1 c1) (Post.bind q fun ds S2 vs m2 H2 f2 c2 ry q => fun x dx hx hd hne => ?_)⟩
    have s : Same H2 (L2.upd (L2.upd H2 dx (.own x)) x (.ins (He.ga K c') dx [])) := fun b o hb => by
      rw [upd_ne (ne_of_none hb hx), upd_ne (ne_of_none hb hd)]
      exact hb
    have hz : ¬ zf (hidB b.B ow) m2 [] x := by
      rw [zf_hid]
      exact fun z => c2.full x z (.none hx)
    have ch := c2.toHid.same s
    have le : Le (wo K (hidB b.B ow) m2 [] H2) (wo K (fun y => hidB b.B ow y ∨ y = x) m2 [] (L2.upd (L2.upd H2 dx (.own x)) x (.ins (He.ga K c') dx []))) := ⟨rfl, fun y o e _ z => by
      rintro ((h | h) | h | h)
      · exact z (.inl h)
      · have e : H2 y = some o := e
        rw [h, hx] at e; cases e
      · exact z (.inr (.inl h))
      · exact z (.inr (.inr h)), fun _ _ e => e, fun y o e _ _ => s _ _ e⟩
    refine hs (hidB b.B ow) m2 S2 (.ins c' []) ds x vs _ _ _ hz ⟨fun y hy z => ?_, ch.nd, fun y _ h => (List.not_mem_nil h).elim, fun y hy z => ?_, fun i j y h => by simp at h, fun y h => (List.not_mem_nil h).elim, ch.len, fun n y cc h1 h2 => ?_, ch.tb, fun y z xs hx => if e : y = x then (by rw [e, upd_same] at hx; cases hx) else ch.nt y (z.imp (fun h => h.elim id fun h => (e h).elim) id) xs hx⟩ ⟨dx, [], upd_same, by unfold RepF; rfl⟩ ⟨_, _, rfl⟩ (Reps.le le ds (by rw [wo_hid]; exact ry)) (made_postC c2 hx hd hne q)
    · rcases hy with hy | hy
      · exact ch.hB y hy z
      · exact (hy ▸ z : Fr _ x).no upd_same fun _ z => by cases z
    · rcases hy with hy | hy
      · rcases z with z | z
        · exact ch.nB y (.inl hy) z
        · rw [z] at hy; exact hz (.inr (.inl hy))
      · exact (List.not_mem_nil hy).elim
    · have := c2.toHid.cs n y cc h1 h2
      exact this.le le fun o e _ => s _ _ e
  · exact q.elim
theorem x_mkC (hK : X.K = K) (hf : Ev K X W (.Name x p) g) (M : Mk K (He.ga K c) fa) (hF : Fs X.prog X.w K X.mg X.base fa lv sp) (hs : Shi K sp F) (hr : Room j X.A) (hk : lv + 1 ≤ j) (tk : Takes X W) (ha : Ea K X W (ex :: es) a)
    (he : starEach (ex :: es) X.env = (false, eval ex X.env) :: starEach es X.env := by rfl) (hpl : (backTo pos (starEach es X.env)).any (·.1) = false := by rfl) : Ev K X W (.Call (.Name x p) (ex :: es) [] pos) (eMkC c F g a) := by
  subst hK
  obtain ⟨tb, p2, h2⟩ := hf.run
  obtain ⟨ta, p1, h1⟩ := ha.run
  exact ⟨_, pe_clsW p2 M hF hr hk tk p1 he hpl, mk_rdC h2 h1 hs⟩
theorem x_lstC (ha : Ea K X W es a) : Ev K X W (.List es pos) (eLstC a) := by
  obtain ⟨ta, p1, h1⟩ := ha.run
  refine ⟨_, pe_lst p1, fun b m ow H σ e S Q t q => h1 b m ow H σ e S _ t (Post.bind q fun x S1 v m1 H1 f1 c1 rx q => ?_)⟩
  split at q
  · rename_i hl
    have hvl := reps_len rx
    rw [← hvl] at hl
    refine ⟨hl, fun p hp => ?_⟩
    have s : Same H1 (L2.upd H1 p (.lst v)) := same_mut (Same.refl _) hp
    have cs := c1.same s
    have nB : ¬ b.B p := fun z => c1.hB p z (.none hp)
    have no : some p ∉ ow := fun z => c1.oh p z (.none hp)
    have nm : p ∉ m1 := fun z => c1.full p (.inr (.inl z)) (.none hp)
    have le : Le (wo K b.B m1 ow (L2.upd H1 p (.lst v))) (wo K (fun x => b.B x ∨ x = p) m1 ow (L2.upd H1 p (.lst v))) → True := fun _ => True.intro
    have l1 : Le (wo K b.B m1 ow H1) (wo K (fun x => b.B x ∨ x = p) m1 ow (L2.upd H1 p (.lst v))) := le_hide hp
    have ch : Cells K (fun x => b.B x ∨ x = p) m1 ow (L2.upd H1 p (.lst v)) S1 := ⟨fun x hx z => hx.elim (fun h => cs.hB x h z) fun h => (h ▸ z : Fr _ p).no upd_same fun _ z => (by cases z), cs.nd, cs.no, fun x hx z => z.elim (cs.nB x hx) fun h => hx.elim (fun q => nm (h ▸ q)) fun q => no (h ▸ q), cs.od, cs.oh, cs.len, fun n y cc h1 h2 => (c1.cs n y cc h1 h2).le l1 fun o e _ => s _ _ e, cs.tb, fun y z xs hx => if e : y = p then (by rw [e, upd_same] at hx; cases hx) else cs.nt y (z.imp (fun h => h.elim id fun h => (e h).elim) id) xs hx⟩
    obtain ⟨c2, l2⟩ := ch.pub (c := .lst x) nB no nm ⟨v, upd_same, hl, Reps.le l1 x rx⟩
    refine q _ (m1 ++ [p]) _ ⟨⟨[p], rfl, fun x hx => by rw [List.mem_singleton.mp hx]; exact .none hp⟩, fun x o h n _ => s _ _ h, fun x h => h.same s⟩ c2 ?_
    unfold Rep
    refine ⟨p, rfl, ?_⟩
    show (m1 ++ [p])[S1.length]? = some p
    rw [← c1.len]
    simp
  · exact q.elim
end
end Sh
namespace Sh
open PySem PySem.Spec PyProof.Rows L2 Nk StX
variable [TabSet] [BasePred]
theorem room64 {k : Nat} {A : Around} (h : Room k A) : A.units + 64 < cLine := h.units
theorem room65 {k : Nat} {A : Around} (h : Room k A) : A.units + 65 < cLine := by have := h.un; omega
def allB (B : Addr → Prop) (m : List Addr) (ow : List (Option Addr)) : Addr → Prop := fun a => B a ∨ a ∈ m ∨ some a ∈ ow
section
variable {K : PySem.W.Frag} {B : Addr → Prop} {m : List Addr} {ow : List (Option Addr)} {H H' : Hp} {S : Store}
theorem zf_all : zf (allB B m ow) [] [] = zf B m ow := by
  funext a
  unfold zf allB
  apply propext
  constructor
  · rintro (h | h | h)
    · exact h
    · exact (List.not_mem_nil h).elim
    · exact (List.not_mem_nil h).elim
  · exact fun h => .inl h
theorem Cells.all (c : Cells K B m ow H S) : Cells K (allB B m ow) [] [] H [] :=
  ⟨fun a h => c.fullF a h, List.nodup_nil, fun _ h => (List.not_mem_nil h).elim, fun a h => h.elim (fun h => (List.not_mem_nil h).elim) fun h => (List.not_mem_nil h).elim, fun i j a h => by simp at h, fun a h => (List.not_mem_nil h).elim, rfl, fun n a x h1 h2 => by simp at h1, c.tb, fun a z => c.nt a (zf_all ▸ z)⟩
theorem fut_pure (f : Fut [] H [] H') : Fut m H m H' := ⟨⟨[], by simp, by simp⟩, fun a o h n _ => f.keep a o h n List.not_mem_nil, f.dom⟩
theorem Cells.pure (c : Cells K B m ow H S) (f : Fut [] H [] H') (c' : Cells K (allB B m ow) [] [] H' []) : Cells K B m ow H' S := by
  have f2 : Fut m H m H' := fut_pure f
  exact ⟨fun a h z => c.hB a h (f.dom a z), c.nd, c.no, c.nB, c.od, fun a h z => c.oh a h (f.dom a z), c.len, fun n a x h1 h2 => (c.cs n a x h1 h2).le f2.le fun o e n => f.keep a o e n List.not_mem_nil, c'.tb, fun a z => c'.nt a (zf_all.symm ▸ z)⟩
mutual
def D.pureD : D → Bool
  | .tup ds => D.puresD ds
  | .lst ds => D.puresD ds
  | .scr ds => D.puresD ds
  | .tpl ds => D.puresD ds
  | .obj _ fs => D.puresF fs
  | .exc _ fs => D.puresF fs
  | .dk _ => false
  | .dt _ => false
  | .fk kvs => D.puresK kvs
  | .ft _ => false
  | .ref _ => false
  | _ => true
def D.puresD : List D → Bool
  | [] => true
  | d :: ds => d.pureD && D.puresD ds
def D.puresF : List (Str × D) → Bool
  | [] => true
  | d :: ds => d.2.pureD && D.puresF ds
def D.puresK : List (Key × D) → Bool
  | [] => true
  | d :: ds => d.2.pureD && D.puresK ds
end
end
def eqO (Fs : List (String × (List D → Store → R D))) : D → D → Bool
  | .obj c fs, .obj c' gs => c == c' && (D.obj c fs).pureD && (D.obj c gs).pureD && match Fs.lookup c with
    | some F => match F [.obj c fs, .obj c gs] [] with
      | .ok (.bl true) [] => true
      | _ => false
    | none => false
  | _, _ => false
end Sh
namespace Sh
open PySem
def Sl.free : Sl → Bool
  | .own _ => false
  | _ => true
theorem notOwn_free {i : Nat} {e : En} : notOwn i e = (match e[i]? with | some s => s.free | none => true) := by
  unfold notOwn
  cases e[i]? with
  | none => rfl
  | some s => cases s <;> rfl
theorem free_no : Sl.no.free = true := rfl
theorem free_val {d : D} : (Sl.val d).free = true := rfl
theorem free_own {c : Cell} : (Sl.own c).free = false := rfl
theorem ofStr_inj {a b : String} (h : Str.ofString a = Str.ofString b) : a = b := by
  rw [Str.ofString_eq_toList, Str.ofString_eq_toList] at h
  have h1 : (a.toList.map Char.toNat).toArray = (b.toList.map Char.toNat).toArray := Str.mk.inj h
  have h2 : a.toList.map Char.toNat = b.toList.map Char.toNat := by simpa using h1
  have inj : ∀ (xs ys : List Char), xs.map Char.toNat = ys.map Char.toNat → xs = ys := by
    intro xs
    induction xs with
    | nil => intro ys h; cases ys with
      | nil => rfl
      | cons y r => cases h
    | cons x xs ih => intro ys h; cases ys with
      | nil => cases h
      | cons y r =>
        have h := List.cons.inj h
        rw [ih r h.2, show x = y from Char.ext (UInt32.toNat_inj.mp h.1)]
  have h3 : a.toList = b.toList := inj _ _ h2
  exact String.toList_inj.mp h3
theorem ofStr_beq {a b : String} : (Str.ofString a == Str.ofString b) = (a == b) := by
  by_cases h : a = b
  · subst h; simp
  · have h2 : Str.ofString a ≠ Str.ofString b := fun z => h (ofStr_inj z)
    rw [beq_eq_false_iff_ne.mpr h, beq_eq_false_iff_ne.mpr h2]
theorem ofStr_eq {a b : String} : (Str.ofString a = Str.ofString b) = (a = b) := propext ⟨ofStr_inj, fun h => h ▸ rfl⟩
end Sh
namespace Sh
open PySem PyProof.Rows L2
theorem dMul_L {a b : Int} (h : -(2 ^ 64) < a ∧ a < 2 ^ 64) : dMul (.int a) (.int b) = some (.int (a * b)) := by
  show alt2 (oI CMul _) _ (.int a) (.int b) = _
  unfold alt2 oI
  dsimp only
  rw [if_pos (show CMul a b from .inl h)]
theorem dMul_R {a b : Int} (h : -(2 ^ 64) < b ∧ b < 2 ^ 64) : dMul (.int a) (.int b) = some (.int (a * b)) := by
  show alt2 (oI CMul _) _ (.int a) (.int b) = _
  unfold alt2 oI
  dsimp only
  rw [if_pos (show CMul a b from .inr h)]
theorem dAdd_I {a b : Int} : dAdd (.int a) (.int b) = some (.int (a + b)) := rfl
theorem dSub_I {a b : Int} : dSub (.int a) (.int b) = some (.int (a - b)) := rfl
theorem dMod_I {a b : Int} (h : 0 < b) : dMod (.int a) (.int b) = some (.int (a % b)) := by
  unfold dMod oI
  dsimp only
  rw [if_pos h]
theorem dFdiv_I {a b : Int} (h : 0 < b) (hb : b < 2 ^ 64) : dFdiv (.int a) (.int b) = some (.int (a / b)) := by
  unfold dFdiv oI
  dsimp only
  rw [if_pos (show CDivW a b from Nk.c_divW h (by omega))]
theorem dPow_I {a b : Int} (h : 0 ≤ b ∧ b ≤ 1000000) (ha : -(2 ^ 63) ≤ a ∧ a < 2 ^ 63) : dPow (.int a) (.int b) = some (.int (a ^ b.toNat)) := by
  unfold dPow oI
  dsimp only
  rw [if_pos (show CPow a b from Nk.c_pow h ha)]
theorem dLt_I {a b : Int} : dLt (.int a) (.int b) = some (.bl (decide (a < b))) := rfl
theorem dLe_I {a b : Int} : dLe (.int a) (.int b) = some (.bl (decide (a ≤ b))) := rfl
theorem dGt_I {a b : Int} : dGt (.int a) (.int b) = some (.bl (decide (b < a))) := rfl
theorem dGe_I {a b : Int} : dGe (.int a) (.int b) = some (.bl (decide (b ≤ a))) := rfl
theorem dInt_I {a : Int} : dInt [.int a] = some (.int a) := rfl
theorem dInt_B {a : Bool} : dInt [.bl a] = some (.int (if a then 1 else 0)) := rfl
theorem dAbs_I {a : Int} : dAbs [.int a] = some (.int (if a < 0 then -a else a)) := rfl
theorem dLen_L {xs : List D} : dLen [.lst xs] = some (.int xs.length) := rfl
theorem pys_ints (xs : List Int) : D.pys (xs.map D.int) = some (xs.map PyData.int) := by
  induction xs with
  | nil => rfl
  | cons x r ih => simp only [List.map_cons, D.pys, D.py, ih]
theorem ix_L {xs : List D} {k : Int} : D.ix (.lst xs) (.int k) = atI xs k := by
  show (match atI xs k with | some d => some d | none => _) = _
  cases atI xs k <;> rfl
theorem at0 {a b c : D} : atI [a, b, c] 0 = some a := rfl
theorem at1 {a b c : D} : atI [a, b, c] 1 = some b := rfl
theorem at2 {a b c : D} : atI [a, b, c] 2 = some c := rfl
theorem ixN0 : ixN 3 0 = some 0 := rfl
theorem ixN1 : ixN 3 1 = some 1 := rfl
theorem ixN2 : ixN 3 2 = some 2 := rfl
end Sh
namespace Sh
open PySem PySem.Spec PyProof.Rows L2 Nk StX
variable [TabSet]
theorem entry {K : PySem.W.Frag} {H : Hp} {a : Addr} {ns : List Int} {f : List D → Store → R D} (hT : LamX.Tabs (TabSet.TS K) H) (hS : SqL K H a (ns.map V.int)) (hl : ns.length ≤ 63) (h : ∃ S, f [.scr (ns.map D.int)] [] = .ok (.bl true) S) : spSh K f [.ref a] H (fun v _ => v = .bl true) (fun _ _ _ => False) := by
  obtain ⟨S, e⟩ := h
  refine ⟨fun _ => False, [], [], [.scr (ns.map D.int)], ⟨fun _ h => h.elim, List.nodup_nil, fun _ h => (List.not_mem_nil h).elim, fun _ h => h.elim (fun h => (List.not_mem_nil h).elim) fun h => (List.not_mem_nil h).elim, fun i j x h => by simp at h, fun _ h => (List.not_mem_nil h).elim, rfl, fun n x c h1 h2 => by simp at h1, hT, fun a z => z.elim (fun h => h.elim) fun h => h.elim (fun h => (List.not_mem_nil h).elim) fun h => (List.not_mem_nil h).elim⟩, reps_cons ?_ reps_nil, ?_⟩
  · unfold Rep
    refine ⟨a, ns.map V.int, rfl, ⟨?_, by rw [List.length_map]; exact Nat.le_trans hl (by decide)⟩, reps_ints ns⟩
    rcases hS with h | h
    · refine .inl ⟨?_, h⟩
      rintro (z | z | z)
      · exact z
      · exact List.not_mem_nil z
      · exact List.not_mem_nil z
    · exact .inr h
  · rw [e]
    intro v m' H' f c r
    unfold Rep at r
    exact r
end Sh
namespace Sh
open PySem L2
theorem forD_cons {g : Tg} {b : Sy} {d : D} {ds : List D} {e : En} {S : Store} : forD g b (d :: ds) e S = match g d e with | none => .no | some e1 => (b e1 S).turn (forD g b ds) := rfl
theorem forD_nil {g : Tg} {b : Sy} {e : En} {S : Store} : forD g b [] e S = .nx e S := rfl
theorem mapA_cons {g : Tg} {t : Sx Bool} {f : Sx D} {acc : List D} {d : D} {ds : List D} {e : En} {S : Store} : mapA g t f acc (d :: ds) e S = match g d e with | none => .no | some e1 => (t e1 S).bind fun c S1 => if c = true then (f e1 S1).bind fun y S2 => mapA g t f (acc ++ [y]) ds e S2 else mapA g t f acc ds e S1 := rfl
theorem mapA_nil {g : Tg} {t : Sx Bool} {f : Sx D} {acc : List D} {e : En} {S : Store} : mapA g t f acc [] e S = .ok acc S := rfl
theorem mapA_map {g : Tg} {f : Sx D} {e : En} {S : Store} (k : D → D) : ∀ (ds acc : List D), (∀ d ∈ ds, ∃ e1, g d e = some e1 ∧ f e1 S = .ok (k d) S) → mapA g tYesD f acc ds e S = .ok (acc ++ ds.map k) S
  | [], acc, _ => by rw [mapA_nil, List.map_nil, List.append_nil]
  | d :: ds, acc, h => by
    obtain ⟨e1, h1, h2⟩ := h d List.mem_cons_self
    rw [mapA_cons, h1]
    show (R.ok true S).bind _ = _
    rw [ok_bind, if_pos rfl, h2, ok_bind, mapA_map k ds (acc ++ [k d]) fun d hd => h d (List.mem_cons_of_mem _ hd), List.append_assoc]
    rfl
end Sh
namespace Sh
open PySem L2
theorem app_get {S : Store} {c : Cell} : (S ++ [c])[S.length]? = some c := by simp
theorem app_set {S : Store} {c c' : Cell} : (S ++ [c]).set S.length c' = S ++ [c'] := by simp
end Sh
namespace Sh
open PySem PySem.Spec PyProof.Rows L2 Nk
variable [TabSet] [BasePred]
section
variable {K : PySem.W.Frag} {X : Cx} {W : WX} {ex : Expr} {es : List Expr} {a : Sx (List D)} {pos p : Pos} {lv j : Nat} {x : Str} {ps : List Str} {sp : Sp} {F : List D → Store → R D}
theorem x_dg (hgd : X.A.guards = some []) (hd : Dg X.prog X.w X.K X.mg X.base x lv ps sp) (hs : Shp K sp F) (hr : Room j X.A) (hk : lv ≤ j) (hg : Gl X x) (tk : Takes X W) (ha : Ea K X W (ex :: es) a)
    (hdb : (x == ("__debug__" : Str)) = false := by decide) (he : starEach (ex :: es) X.env = (false, eval ex X.env) :: starEach es X.env := by rfl) (hpl : (backTo pos (starEach es X.env)).any (·.1) = false := by rfl) : Ev K X W (.Call (.Name x p) (ex :: es) [] pos) (eDf F a) := by
  obtain ⟨ta, p1, h1⟩ := ha.run
  exact ⟨_, pe_dg hd hgd hr hk hg tk p1 hdb he hpl, fun b m ow H σ e S Q t q => h1 b m ow H σ e S _ t (Post.bind q fun ds S1 vs m1 H1 f1 c1 rx q => hs.at c1 rx q)⟩
end
end Sh
namespace Sh
open PySem PySem.Spec PyProof.Rows L2 Nk
variable [TabSet] [BasePred]
section
variable {K : PySem.W.Frag} {B : Addr → Prop} {m : List Addr} {ow : List (Option Addr)} {H : Hp}
def PostO (K : PySem.W.Frag) (B : Addr → Prop) (ow : List (Option Addr)) (m : List Addr) (H : Hp) (RP : Wo → α → β → Prop) (W : Value → Option Addr → Hp → Prop) (Q : β → Hp → Prop) : R α → Prop
  | .ok y S' => ∀ a m' H', Fut m H m' H' → Cells K B m' ow H' S' → RP (wo K B m' [] H') y a → Q a H'
  | .er x S' => ∀ c d m' H', Fut m H m' H' → Cells K B m' ow H' S' → ExR (wo K B m' ow H') x c d → W c d H'
  | .no => False
end
section
variable {K : PySem.W.Frag} {B : Addr → Prop} {m m' : List Addr} {ow : List (Option Addr)} {H H' : Hp} {α β γ δ : Type} {RP : Wo → β → α → Prop} {RP2 : Wo → δ → γ → Prop} {W : Value → Option Addr → Hp → Prop} {Q : α → Hp → Prop} {Q2 : γ → Hp → Prop}
theorem PostO.go {r : R β} (h : PostO K B ow m H RP W Q r) (f : Fut m H m' H') : PostO K B ow m' H' RP W Q r := by
  cases r with
  | ok y S' => exact fun a m2 H2 f2 => h a m2 H2 (f.trans f2)
  | er x S' => exact fun c d m2 H2 f2 => h c d m2 H2 (f.trans f2)
  | no => exact h
theorem PostO.bind {r : R β} {k : β → Store → R δ} (h : PostO K B ow m H RP2 W Q2 (r.bind k)) (g : ∀ y S' a m' H', Fut m H m' H' → Cells K B m' ow H' S' → RP (wo K B m' [] H') y a → PostO K B ow m' H' RP2 W Q2 (k y S') → Q a H') : PostO K B ow m H RP W Q r := by
  cases r with
  | ok y S' => exact fun a m2 H2 f2 c2 r2 => g y S' a m2 H2 f2 c2 r2 (PostO.go h f2)
  | er x S' => exact h
  | no => exact h
end
end Sh
namespace Sh
open PySem PySem.Spec PyProof.Rows L2 Nk StX
variable [TabSet] [BasePred]
def insS (x : Str) : List Str → List Str
  | [] => [x]
  | y :: r => if x.cps.toList ≤ y.cps.toList then x :: y :: r else y :: insS x r
def srtS : List Str → List Str
  | [] => []
  | x :: r => insS x (srtS r)
theorem insS_perm (x : Str) : ∀ l, (insS x l).Perm (x :: l)
  | [] => .refl _
  | y :: r => by
    unfold insS
    split
    · exact .refl _
    · exact ((insS_perm x r).cons y).trans (.swap x y r)
theorem srtS_perm : ∀ l, (srtS l).Perm l
  | [] => .refl _
  | x :: r => by
    unfold srtS
    exact (insS_perm x _).trans ((srtS_perm r).cons x)
theorem pw_of_rising : ∀ (p : Str) (l : List Str), risingS p l = true → (p :: l).Pairwise (fun a b => a.cps.toList ≤ b.cps.toList)
  | p, [], _ => List.pairwise_singleton _ _
  | p, x :: r, h => by
    have h : (!ltCps x.cps.toList p.cps.toList && risingS x r) = true := h
    rw [Bool.and_eq_true, ltCps_eq] at h
    have h2 := pw_of_rising x r h.2
    have hx : p.cps.toList ≤ x.cps.toList := by
      have := h.1
      simp only [Bool.not_eq_true', decide_eq_false_iff_not] at this
      exact List.not_lt.mp this
    refine List.pairwise_cons.mpr ⟨fun y hy => ?_, h2⟩
    rcases List.mem_cons.mp hy with rfl | hy
    · exact hx
    · exact List.le_trans hx (List.rel_of_pairwise_cons h2 hy)
theorem pw_of_sorted : ∀ (l : List Str), sortedS l = true → l.Pairwise (fun a b => a.cps.toList ≤ b.cps.toList)
  | [], _ => .nil
  | x :: r, h => pw_of_rising x r h
theorem insS_pw (x : Str) : ∀ l : List Str, l.Pairwise (fun a b => a.cps.toList ≤ b.cps.toList) → (insS x l).Pairwise (fun a b => a.cps.toList ≤ b.cps.toList)
  | [], _ => List.pairwise_singleton _ _
  | y :: r, h => by
    unfold insS
    split
    · rename_i hxy
      refine List.pairwise_cons.mpr ⟨fun z hz => ?_, h⟩
      rcases List.mem_cons.mp hz with rfl | hz
      · exact hxy
      · exact List.le_trans hxy (List.rel_of_pairwise_cons h hz)
    · rename_i hxy
      have hyx : y.cps.toList ≤ x.cps.toList := (List.le_total _ _).resolve_left hxy
      refine List.pairwise_cons.mpr ⟨fun z hz => ?_, insS_pw x r (List.pairwise_cons.mp h).2⟩
      rcases List.mem_cons.mp ((insS_perm x r).mem_iff.mp hz) with rfl | hz
      · exact hyx
      · exact List.rel_of_pairwise_cons h hz
theorem srtS_pw : ∀ l : List Str, (srtS l).Pairwise (fun a b => a.cps.toList ≤ b.cps.toList)
  | [] => .nil
  | x :: r => insS_pw x _ (srtS_pw r)
theorem str_ext {a b : Str} (h : a.cps.toList = b.cps.toList) : a = b := by
  cases a; cases b; congr; exact Array.toList_inj.mp h
theorem srt_uniq (xs ys : List Str) (hp : ys.Perm xs) (hs : sortedS ys = true) : ys = srtS xs :=
  (hp.trans (srtS_perm xs).symm).eq_of_pairwise (fun a b _ _ h1 h2 => str_ext (List.le_antisymm h1 h2)) (pw_of_sorted ys hs) (srtS_pw xs)
section
variable {K : PySem.W.Frag} {X : Cx}
theorem strs_short {w : Wo} : ∀ {ds : List D} {vs : List V} {ys : List Str}, Reps w ds vs → D.strs ds = some ys → ∀ y ∈ ys, y.length ≤ sizeLine
  | [], vs, ys, r, e, y, hy => by unfold D.strs at e; cases e; cases hy
  | d :: ds, vs, ys, r, e, y, hy => by
    unfold Reps at r
    obtain ⟨v, us, rfl, a, r⟩ := r
    cases d <;> unfold D.strs at e <;> try cases e
    rename_i x
    cases h2 : D.strs ds with
    | none => rw [h2] at e; cases e
    | some zs =>
      rw [h2] at e
      cases e
      rcases List.mem_cons.mp hy with rfl | hy
      · exact (rep_strD a).2
      · exact strs_short r h2 y hy
end
end Sh
namespace Sh
open PySem PySem.Spec PyProof.Rows L2 Nk StX
variable [TabSet] [BasePred]
def sPar (i j : Nat) (a : Sx (List D)) (e : En) (S : Store) : RS := (a e S).run e fun xs S1 => match xs with
  | [x, y] => if notOwn i e = true ∧ notOwn j (e.set i (.val x)) = true then .nx ((e.set i (.val x)).set j (.val y)) S1 else .no
  | _ => .no
theorem s_par {K : PySem.W.Frag} {X : Cx} {W : WX} {ex ex2 : Expr} {a : Sx (List D)} {i j : Nat} {x y : Str} {px py pt pos : Pos} {kt k2 pt2} (hc : X.calm = true) (hN : X.N.Nodup) (hi : X.N[i]? = some x) (hj : X.N[j]? = some y) (hij : i ≠ j)
    (hx : X.env.scope.names.lookup x = some .local) (hy : X.env.scope.names.lookup y = some .local) (ha : Ea K X W [ex, ex2] a)
    (hw : swappedStores [.Tuple [.Name x px, .Name y py] kt pt] (.Tuple [ex, ex2] k2 pt2) X.env = pure (some [x, y]))
    (hs : swapsWithSole [.Tuple [.Name x px, .Name y py] kt pt] (.Tuple [ex, ex2] k2 pt2) pos.line X.env = pure false := by rfl) : Es K X W (.Assign [.Tuple [.Name x px, .Name y py] kt pt] (.Tuple [ex, ex2] k2 pt2) pos) (sPar i j a) := by
  obtain ⟨ta, p1, h1⟩ := ha.run
  refine ⟨_, ps_par hc hN hi hj hij hx hy p1 hw hs, fun b m ow H σ e S D t z => h1 b m ow H σ e S _ t (PostS.run t z fun xs S' vs m' H' t' f' r z => ?_)⟩
  split at z
  · rename_i d1 d2
    split at z
    · rename_i hn
      unfold Reps at r
      obtain ⟨v1, us, rfl, r1, r⟩ := r
      unfold Reps at r
      obtain ⟨v2, us, rfl, r2, r⟩ := r
      unfold Reps at r
      subst r
      exact ⟨v1, v2, rfl, z _ m' _ H' ((t'.set' hn.1 r1).set' hn.2 r2) (Le.refl _)⟩
    · exact z.elim
  · exact z.elim
end Sh
namespace Sh
open PySem PySem.Spec PyProof.Rows L2 Nk StX
variable [TabSet] [BasePred]
section
variable {K : PySem.W.Frag} {B : Addr → Prop} {m m' : List Addr} {ow : List (Option Addr)} {H H' H0 : Hp} {S S' : Store} {a : Addr} {σ : L2.St} {e : En}
theorem le_back (ha : some a ∈ ow) : Le (wo K B m ow H) (wo K (fun x => B x ∨ x = a) m [] H) := ⟨rfl, fun x o _ _ z => by
  rintro ((h | h) | h | h)
  · exact z (.inl h)
  · exact z (.inr (.inr (h ▸ ha)))
  · exact z (.inr (.inl h))
  · exact (List.not_mem_nil h).elim, fun _ _ e => e, fun _ _ e _ _ => e⟩
theorem Cells.back (ha : some a ∈ ow) (c : Cells K B m ow H S) : Cells K (fun x => B x ∨ x = a) m [] H S := by
  refine ⟨fun x hx => hx.elim (c.hB x) fun h => h ▸ c.oh a ha, c.nd, fun x _ h => (List.not_mem_nil h).elim, fun x hx z => ?_, fun i j x h => by simp at h, fun x h => (List.not_mem_nil h).elim, c.len, fun n x y h1 h2 => (c.cs n x y h1 h2).le (le_back ha) fun o e _ => e, c.tb, fun x z => z.elim (fun h => h.elim (fun h => c.nt x (.inl h)) fun h => c.nt x (.inr (.inr (h ▸ ha)))) fun h => h.elim (fun h => c.nt x (.inr (.inl h))) fun h => (List.not_mem_nil h).elim⟩
  rcases hx with hx | hx
  · rcases z with z | z
    · exact c.nB x (.inl hx) z
    · exact c.no x hx (z ▸ ha)
  · exact (List.not_mem_nil hx).elim
theorem fut_offR {X : Hp} (f : Fut m X m' H) (h : Fr X a) : Fut m X m' (off a H) := by
  obtain ⟨p, k, d⟩ := f
  refine ⟨p, fun x o e n hm => ?_, fun x hx => ?_⟩
  · rw [off_ne (fun z => h.no (by rw [← z]; exact e) n)]
    exact k x o e n hm
  · by_cases z : x = a
    · exact z ▸ h
    · refine d x fun o e => hx o ?_
      rw [off_ne z]; exact e
theorem At.self {b : Bs} {c : String} {fs : List (Str × D)} (t : At K b m ow H σ e S) (hs : b.sf = some a) (f : Fut m (off a H) m' H') (cl : Cells K b.B m' ow H' S') (r : CRep (wo K b.B m' ow H') a (.ins c fs)) :
    At K b m' ow H' σ (e.set 0 (.own (.ins c fs))) S' := by
  obtain ⟨g1, g2, k1, fs1, g3⟩ := t.sf a hs
  have ha : some a ∈ ow := List.mem_of_getElem? g2
  have h0 : 0 < e.length := (List.getElem?_eq_some_iff.mp g3).1
  have keep : ∀ x o, H x = some o → (∀ ps, o ≠ .tbl ps) → x ≠ a → x ∉ m → H' x = some o := fun x o h n hx hm => f.keep x o (by rw [off_ne hx]; exact h) n hm
  have le : Le (wo K b.B m ow H) (wo K b.B m' ow H') := by
    obtain ⟨⟨q, rfl, hq⟩, _, _⟩ := f
    refine ⟨rfl, fun x o ho n z => ?_, fun n x hx => ?_, fun x o ho n z => keep x o ho n (fun q => z (.inr (.inr (q ▸ ha)))) fun q => z (.inr (.inl q))⟩
    · rintro (h | h | h)
      · exact z (.inl h)
      · rcases List.mem_append.mp h with h | h
        · exact z (.inr (.inl h))
        · have hxa : x ≠ a := fun q => z (.inr (.inr (q ▸ ha)))
          exact (hq x h).no (by rw [off_ne hxa]; exact ho) n
      · exact z (.inr (.inr h))
    · show (m ++ q)[n]? = some x
      have h : m[n]? = some x := hx
      rw [List.getElem?_append_left (List.getElem?_eq_some_iff.mp h).1]
      exact h
  refine ⟨cl, ⟨by rw [List.length_set]; exact t.len.1, by rw [List.length_set]; exact t.len.2⟩, fun i s hi => ?_, ?_, t.new, fun i x hx => ?_, fun x hx => ?_, t.ph⟩
  · cases i with
    | zero =>
      rw [List.getElem?_set_self h0] at hi
      cases hi
      exact ⟨a, g1, g2, r⟩
    | succ i =>
      rw [List.getElem?_set_ne (by omega)] at hi
      have h := t.slots (i + 1) s hi
      cases s with
      | no => exact True.intro
      | val d => obtain ⟨v, h1, h2⟩ := h; exact ⟨v, h1, Rep.le le d h2⟩
      | own x =>
        obtain ⟨a2, h1, h2, h3⟩ := h
        have ne : a2 ≠ a := fun z => by
          have := t.cells.od (i + 1) 0 a (z ▸ h2) g2
          omega
        exact ⟨a2, h1, h2, h3.le le fun o eo n => keep a2 o eo n ne fun hm => t.cells.no a2 hm (List.mem_of_getElem? h2)⟩
  · exact (fut_offR t.fut (t.new a ha)).trans f
  · cases i with
    | zero => exact ⟨_, by rw [List.getElem?_set_self h0]⟩
    | succ i =>
      obtain ⟨c, hc⟩ := t.oe (i + 1) x hx
      exact ⟨c, by rw [List.getElem?_set_ne (by omega)]; exact hc⟩
  · rw [hs] at hx
    cases hx
    exact ⟨g1, g2, c, fs, by rw [List.getElem?_set_self h0]⟩
end
end Sh
namespace Sh
open PySem PySem.Spec PyProof.Rows L2 Nk StX
variable [TabSet] [BasePred]
theorem At.hid {b : Bs} {m m' : List Addr} {ow : List (Option Addr)} {H H' : Hp} {σ : L2.St} {e : En} {S S' : Store} {p : Addr} {K : PySem.W.Frag} (t : At K b m ow H σ e S) (f : Fut m H m' H') (hp : Fr H p) (c : Cells K (fun x => b.B x ∨ x = p) m' ow H' S') : At K ⟨fun x => b.B x ∨ x = p, b.m0, b.H0, b.sf⟩ m' ow H' σ e S' ∧ Le (wo K b.B m ow H) (wo K (fun x => b.B x ∨ x = p) m' ow H') := by
  have lp : Le (wo K b.B m ow H) (wo K (fun x => b.B x ∨ x = p) m' ow H') := by
    refine ⟨rfl, fun a o e n z => ?_, fun n a e => f.le (K := K) (B := b.B) (ow := ow) |>.m n a e, fun a o e n z => f.keep a o e n fun hm => z (.inr (.inl hm))⟩
    have z2 := f.le (K := K) (B := b.B) (ow := ow) |>.z a o e n z
    rintro ((h | h) | h | h)
    · exact z2 (.inl h)
    · exact hp.no (h ▸ e) n
    · exact z2 (.inr (.inl h))
    · exact z2 (.inr (.inr h))
  refine ⟨⟨c, t.len, fun j s hs => ?_, t.fut.trans f, t.new, t.oe, t.sf, BasePred.grow _ _ (t.fut.dom p hp) t.ph⟩, lp⟩
  have h := t.slots j s hs
  cases s with
  | no => exact True.intro
  | val d' => obtain ⟨u, h1, h2⟩ := h; exact ⟨u, h1, Rep.le lp d' h2⟩
  | own x =>
    obtain ⟨u, h1, h2, h3⟩ := h
    exact ⟨u, h1, h2, h3.le lp fun o e n => f.keep u o e n fun hm => t.cells.no u hm (List.mem_of_getElem? h2)⟩
end Sh
namespace Sh
open PySem PySem.Spec PyProof.Rows L2 Nk StX
variable [TabSet] [BasePred]
structure Eak (K : PySem.W.Frag) (X : Cx) (W : WX) (ks : List Keyword) (f : Sx (List D)) : Prop where
  run : ∃ ta, PK X ks ta ∧ ∀ b m ow H σ e S Q, At K b m ow H σ e S → Post K b.B ow m H Reps (fun c d => W c d σ) Q (f e S) → ta σ H Q
section
variable {K : PySem.W.Frag} {X : Cx} {W : WX} {ex ex2 : Expr} {ks : List Keyword} {f g : Sx D} {a : Sx (List D)} {nm : Option Str} {kp : Pos}
theorem ak_nil : Eak K X W [] aNil := ⟨_, pk_nil, fun b m ow H σ e S Q t q => q [] m H (Fut.refl _ _) t.cells reps_nil⟩
theorem ak_cons (hf : Ev K X W ex f) (ha : Eak K X W ks a) : Eak K X W (⟨nm, ex, kp⟩ :: ks) (aCons f a) := by
  obtain ⟨te, p1, h1⟩ := hf.run
  obtain ⟨ta, p2, h2⟩ := ha.run
  refine ⟨_, pk_cons p1 p2, fun b m ow H σ e S Q t q => h1 b m ow H σ e S _ t (Post.bind q fun d S1 v m1 H1 f1 c1 rx q => h2 b m1 ow H1 σ e S1 _ (t.go f1 c1) (Post.bind q fun ds S2 vs m2 H2 f2 c2 ry q => ?_))⟩
  exact q _ m2 H2 (Fut.refl _ _) c2 (reps_cons (Rep.le f2.le d rx) ry)
end
def FsK (P : Program) (w : World) (K : PySem.W.Frag) (mg : Str → Option Value) (base : Heap) (f : Addr) (k : Nat) (ks : List Str) (sp : Sp) : Prop :=
  ∃ (fd : FuncData) (ps : List Str) (g : List Value → List Value → List Value) (sp' : Sp) (gV : List V → List V → List V), FnOk P w K mg base (L2.CX P w) k f fd ps sp' ∧ KBn K fd ps 1 ks g gV ∧ ∀ x zs H Q E, sp (x :: zs) H Q E → sp' (gV [x] zs) H Q E
theorem fsK_mk {P : Program} {w : World} {K : PySem.W.Frag} {mg : Str → Option Value} {base : Heap} {f : Addr} {k : Nat} {ps : List Str} {sp : Sp} {ks : List Str} {gV : List V → List V → List V} (F : FoK P w K mg base f k ps sp 1 ks gV) : FsK P w K mg base f k ks (fun vs H Q E => ∃ x zs, vs = x :: zs ∧ sp (gV [x] zs) H Q E) := by
  obtain ⟨fd, g, F, hb⟩ := F
  exact ⟨fd, ps, g, sp, gV, F, hb, fun x zs H Q E h => by obtain ⟨x', zs', e, h⟩ := h; cases e; exact h⟩
def kwF (g : List D → List D) (F : List D → Store → R D) (ds : List D) (S : Store) : R D := match ds with
  | x :: zs => F (x :: g zs) S
  | _ => .no
section
variable {K : PySem.W.Frag} {sp : Sp} {F : List D → Store → R D} {G : Cell → List D → Store → R Cell} {g : List D → List D} {gv : List V → List V}
theorem shp_kw (hs : Shp K sp F) (hg : ∀ w ds vs, Reps w ds vs → Reps w (g ds) (gv vs)) : Shp K (fun vs H Q E => ∃ x zs, vs = x :: zs ∧ sp (x :: gv zs) H Q E) (kwF g F) := by
  intro B m S ds vs H Q E c r q
  cases ds with
  | nil => exact q.elim
  | cons x zs =>
    unfold Reps at r
    obtain ⟨v, us, rfl, a, b⟩ := r
    exact ⟨v, us, rfl, hs B m S _ _ H Q E c (reps_cons a (hg _ _ _ b)) q⟩
end
section
variable {X : Cx} {W : WX} {K : PySem.W.Frag} {ex2 : Expr} {g : Sx D} {a : Sx (List D)} {pos p apos : Pos} {lv j : Nat} {x m : Str} {sp : Sp} {ks : List Str} {kws : List Keyword} {c : String} {fp fa C : Addr} {mc : Value} {ta : TE} {tk : TA} {pl : Sem Bool}
theorem run_fsK {A : Around} {pins : List (Addr × Obj)} {σ : L2.St} {H : Hp} {s : Shared} {E : XK} {Q : VK} {v : V} {u : Value} {ws : List Value} {zs : List V} (F : FsK X.prog X.w X.K X.mg X.base fa lv ks sp) (hr : Room lv X.A) (hx : PassesAt (L2.CX X.prog X.w) X σ E) (I : Inv X pins σ H s) (rv : RelV v u) (r : Vals zs ws) (hl : zs.length = ks.length) (h : sp (v :: zs) H Q E) :
    codeAny (model X.prog X.w) X.A (.call (.ref fa) ⟨[u], ks.zip ws⟩) (fun r s' => match r with | .ok (.ret v) => EP X pins σ Q v s' | .ok _ => False | .error e => X.xe e s') s := by
  obtain ⟨fd, ps, gg, sp', gV, F, hb, hsp⟩ := F
  have r2 := hb.rel (.cons rv .nil) r
  refine codeAny_mono (F.run X.A X.stack s H ⟨[u], ks.zip ws⟩ (gg [u] ws) (gV [v] zs) Q E hr I.env0 (hb.to s [u] ws I.kIn rfl (r.length.symm.trans hl)) r2 (hsp _ _ _ _ _ h)) fun r s' hq => ?_
  cases r with
  | error e => exact hx pins H s e s' I hq
  | ok fl =>
    cases fl with
    | ret u => exact I.after hq
    | next => exact False.elim hq
    | brk => exact False.elim hq
    | cont => exact False.elim hq
theorem pe_cmKW (he : PE X ex2 ta) (r : ClX.CRead X.K C mc) (k : ClX.CMet X.K C mc m fp fa) (F : FsK X.prog X.w X.K X.mg X.base fa lv ks sp) (hr : Room j X.A) (hk : lv ≤ j) (tk' : Takes X W) (hkw : PK X kws tk)
    (hall : (backToKw pos (keywordEach kws X.env)).all (·.1.isSome) = true := by rfl) (hks : (backToKw pos (keywordEach kws X.env)).filterMap (·.1) = ks := by rfl)
    (hpl : ((backTo pos (starEach [] X.env)).any (·.1) || (backToKw pos (keywordEach kws X.env)).any (·.1.isNone)) = false := by rfl)
    (ht : eval (.Call (.Attribute ex2 m apos) [] kws pos) X.env = (do
      let ov ← eval ex2 X.env
      standAt apos.atName
      let (f, first) ← holding [ov] (getMethod ov m pl)
      callWith pos f first (backTo pos (starEach [] X.env)) (backToKw pos (keywordEach kws X.env))) := by rfl) :
    PE X (.Call (.Attribute ex2 m apos) [] kws pos) (fun σ H Q => ta σ H fun x H1 => x = .ref C ∧ tk σ H1 fun zs H2 => zs.length = ks.length ∧ sp (.ref C :: zs) H2 Q (WE W σ)) := by
  refine ⟨fun pins s σ H Q I h => ?_⟩
  refine PySem.W.methodCall_KW (pl := pl) (thn (he.run pins s σ H _ I h) fun u s1 ⟨x, H1, I1, rx, ex, q⟩ => ?_) ht
  subst ex
  obtain rfl : u = Value.ref C := rx
  refine ClX.getmethcm_ok I1 r k fun s2 I2 => ?_
  refine PySem.W.callWith_of (P := PySem.W.MethP X.K s1.heap.objs.size fa (.ref C)) hpl (PySem.W.keeps_M k.fi) (evalArgs_kw2_nil hall ?_)
  refine thn (hkw.run pos _ s2 σ H1 _ I2 q) fun ws s3 ⟨zs, H2, I3, rz, l, q2⟩ => ?_
  refine ⟨⟨ClX.pin_at I3, I3.kIn⟩, ?_⟩
  rw [hks]
  have z : wpAny (model X.prog X.w) X.A (call (.ref s1.heap.objs.size) [] (ks.zip ws)) (EP X ((s1.heap.objs.size, PySem.W.methodObj (.ref fa) (.ref C)) :: pins) σ Q) X.xe s3 :=
    wpAny_call (ks_codeAny_call_bound (ClX.pin_at I3) (run_fsK (A := X.A) (v := .ref C) (u := .ref C) F (hr.mono hk) (passAt tk' σ) I3 rfl rz l q2))
  exact thn z fun _ _ y => ClX.unpinE y
theorem x_cmK {F : List D → Store → R D} (hK : X.K = K) (ho : Ev K X W ex2 g) (r : ClX.CRead K (He.ga K c) mc) (hc : ClX.CMet K (He.ga K c) mc m fp fa) (hF : FsK X.prog X.w K X.mg X.base fa lv ks sp) (hs : Shp K sp F) (hr : Room j X.A) (hk : lv ≤ j) (tk' : Takes X W) (ha : Eak K X W kws a) (hn : ∀ e S ds S', a e S = .ok ds S' → ds.length = ks.length)
    (hall : (backToKw pos (keywordEach kws X.env)).all (·.1.isSome) = true := by rfl) (hks : (backToKw pos (keywordEach kws X.env)).filterMap (·.1) = ks := by rfl)
    (hpl : ((backTo pos (starEach [] X.env)).any (·.1) || (backToKw pos (keywordEach kws X.env)).any (·.1.isNone)) = false := by rfl)
    (ht : eval (.Call (.Attribute ex2 m apos) [] kws pos) X.env = (do
      let ov ← eval ex2 X.env
      standAt apos.atName
      let (f, first) ← holding [ov] (getMethod ov m pl)
      callWith pos f first (backTo pos (starEach [] X.env)) (backToKw pos (keywordEach kws X.env))) := by rfl) : Ev K X W (.Call (.Attribute ex2 m apos) [] kws pos) (eCm c F g a) := by
  subst hK
  obtain ⟨tb, p2, h2⟩ := ho.run
  obtain ⟨ta, p1, h1⟩ := ha.run
  refine ⟨_, pe_cmKW p2 r hc hF hr hk tk' p1 hall hks hpl ht, fun b m ow H σ e S Q t q => h2 b m ow H σ e S _ t (Post.bind q fun d S1 v m1 H1 f1 c1 rx q => ?_)⟩
  cases d <;> try exact q.elim
  rename_i c'
  dsimp only at q
  split at q
  · rename_i hi
    subst hi
    have rx0 := rx
    unfold Rep at rx
    subst rx
    refine ⟨rfl, h1 b m1 ow H1 σ e S1 _ (t.go f1 c1) ?_⟩
    have hl := hn e S1
    generalize a e S1 = R at q hl ⊢
    cases R with
    | no => exact q
    | er x S2 => exact q
    | ok ds S2 =>
      intro vs m2 H2 f2 c2 ry
      exact ⟨by rw [reps_len ry]; exact hl ds S2 rfl, hs.at c2 (reps_cons (Rep.le f2.le _ rx0) ry) (Post.go q f2)⟩
  · exact q.elim
end
theorem kn_nil : ∀ (e : En) (S : Store) (ds : List D) (S' : Store), aNil e S = .ok ds S' → ds.length = 0 := fun e S ds S' h => by cases h; rfl
theorem kn_cons {f : Sx D} {a : Sx (List D)} {n : Nat} (h : ∀ (e : En) (S : Store) (ds : List D) (S' : Store), a e S = .ok ds S' → ds.length = n) : ∀ (e : En) (S : Store) (ds : List D) (S' : Store), aCons f a e S = .ok ds S' → ds.length = n + 1 := fun e S ds S' q => by
  unfold aCons at q
  cases r : f e S with
  | no => rw [r] at q; cases q
  | er x S1 => rw [r] at q; cases q
  | ok d S1 =>
    rw [r, ok_bind] at q
    cases r2 : a e S1 with
    | no => rw [r2] at q; cases q
    | er x S1 => rw [r2] at q; cases q
    | ok xs S2 =>
      rw [r2, ok_bind] at q
      cases q
      rw [List.length_cons, h e S1 xs _ r2]
end Sh
namespace Sh
open PySem PySem.Spec PyProof.Rows L2 Nk StX
variable [TabSet] [BasePred]
def rMulS : R2 := fun x y H Q => ∃ (z : Str) (n : Int), x = .str z ∧ y = .int n ∧ 1 ≤ n ∧ n ≤ 1000 ∧ z.length ≤ 1000 ∧ Q (.str (Txt.mul z n)) H
theorem op_mulS {X : Cx} : OpR X (binaryOp .Mult) rMulS := by
  intro pins s σ H x y v u Q I rx ry h
  obtain ⟨z, n, rfl, rfl, h1, h2, h3, q⟩ := h
  obtain ⟨t, rfl⟩ := _root_.id rx
  obtain ⟨t2, rfl⟩ := _root_.id ry
  refine SB.mul ⟨?_, fun _ _ => ?_, fun _ _ => ?_⟩ fun t' k => ⟨.str (Txt.mul z n), H, I.tok _, ⟨t', rfl⟩, q⟩
  · simp only [Bool.or_eq_false_iff, decide_eq_false_iff_not]
    omega
  · intro hh
    have h4 : (1000 : Int) ≤ (2 ^ 63 - 1) / n := by
      rw [Int.le_ediv_iff_mul_le (by omega)]
      have : (1000 : Int) * n ≤ 1000 * 1000 := by omega
      omega
    omega
  · have h5 : z.length * n.toNat ≤ 1000 * 1000 := Nat.mul_le_mul h3 (by omega)
    show decide (_ > sizeLine) = false
    simp only [decide_eq_false_iff_not]
    have := sizeLine_eq
    omega
def dMulS (x y : D) : Option D := match x, y with
  | .str z, .int n => if 1 ≤ n ∧ n ≤ 1000 ∧ z.length ≤ 1000 ∧ (Txt.mul z n).length ≤ sizeLine then some (.str (Txt.mul z n)) else none
  | _, _ => none
section
variable {K : PySem.W.Frag} {X : Cx} {W : WX}
theorem ops_mulS : OpS K X (binaryOp .Mult) dMulS := by
  refine ⟨_, op_mulS, fun w hw hf x y dx dy Q rx ry q => ?_⟩
  unfold dMulS at q
  split at q
  · rename_i z n
    obtain ⟨rfl, _⟩ := rep_strD rx
    cases rep_intD ry
    obtain ⟨h, q⟩ := Pz.ite q
    exact ⟨z, n, rfl, rfl, h.1, h.2.1, h.2.2.1, q.here (rep_str h.2.2.2)⟩
  · exact (q : False).elim
def dStrS : List D → Option D
  | [.str z] => some (.str z)
  | _ => none
theorem calls_strI : CallS K X (.type "str") dStrI := by
  refine ⟨_, call_str_int, fun w hw hf xs ds Q r q => ?_⟩
  unfold dStrI at q
  split at q
  · rename_i i
    obtain ⟨v, rfl, r1⟩ := reps1 r rfl
    cases rep_intD r1
    obtain ⟨h, q⟩ := Pz.ite q
    exact ⟨i, rfl, h, q.here (rep_str (int_text_fits h))⟩
  · exact (q : False).elim
theorem calls_strS : CallS K X (.type "str") dStrS := by
  refine ⟨_, SkE.call_str_str, fun w hw hf xs ds Q r q => ?_⟩
  unfold dStrS at q
  split at q
  · rename_i z
    obtain ⟨v, rfl, r1⟩ := reps1 r rfl
    obtain ⟨rfl, hl⟩ := rep_strD r1
    exact ⟨z, rfl, q.here (rep_str hl)⟩
  · exact (q : False).elim
def dStr : List D → Option D := alt1 dStrI dStrS
theorem calls_str : CallS K X (.type "str") dStr := CallS.or calls_strI calls_strS
end
theorem dStr_I {i : Int} (h : i.natAbs.log2 < 1920) : dStr [.int i] = some (.str (toString i)) := by
  simp only [dStr, alt1, dStrI]
  rw [if_pos h]
theorem dStr_S {z : Str} : dStr [.str z] = some (.str z) := rfl
theorem log_small {i : Int} (h0 : 0 ≤ i) (h : i ≤ 4294967296) : i.natAbs.log2 < 1920 := by
  have h1 : i.natAbs < 2 ^ 33 := by omega
  have h2 : i.natAbs.log2 < 33 := by
    by_cases z : i.natAbs = 0
    · rw [z]; decide
    · exact (Nat.log2_lt z).mpr h1
  omega
theorem dStr_N {i : Int} (h0 : 0 ≤ i) (h : i ≤ 4294967296) : dStr [.int i] = some (.str (toString i)) := dStr_I (log_small h0 h)
theorem fmt_N {i : Int} (h0 : 0 ≤ i) (h : i ≤ 4294967296) : fmtD (.int i) = some (.str (toString i)) := by
  unfold fmtD
  exact if_pos (log_small h0 h)
def kJs (acc : Str) (fs : List (Sx D)) (e : En) (x : D) (S1 : Store) : R D := match x with
  | .str y => if (acc ++ y).length ≤ sizeLine then eJs fs (acc ++ y) e S1 else .no
  | _ => .no
theorem kJs_s {acc y : Str} {fs : List (Sx D)} {e : En} {S1 : Store} : kJs acc fs e (.str y) S1 = if (acc ++ y).length ≤ sizeLine then eJs fs (acc ++ y) e S1 else .no := rfl
theorem eJs_nil {acc : Str} {e : En} {S : Store} : eJs [] acc e S = .ok (.str acc) S := by rw [eJs]
theorem eJs_cons {f : Sx D} {fs : List (Sx D)} {acc : Str} {e : En} {S : Store} : eJs (f :: fs) acc e S = (f e S).bind (kJs acc fs e) := by rw [eJs]; rfl
end Sh
namespace L2
open PySem PySem.Spec PyProof.Rows
def keyX (e : Int × Value) : Str := match e.2 with | .str k _ => k | _ => Str.empty
def GoodX (w : World) (e : Int × Value) : Prop := ∃ k tk, e.2 = Value.str k tk ∧ e.1 = hashStr w k
def SetX (w : World) (h : Heap) (a : Addr) (S : Str → Bool) (n : Nat) : Prop :=
  ∃ o es ep t, h.get? a = some o ∧ o.ExactSet ∧ o.data = .set es ep t ∧ (∀ e ∈ es.toList, GoodX w e) ∧ (es.toList.map (keyX)).Nodup ∧ (∀ k, S k = true ↔ k ∈ es.toList.map (keyX)) ∧
    es.size < scanBound ∧ t.fits es.size = true ∧ es.size = n ∧ Ris t.place.toList ∧ (w.params.followText "set-order" = true ∨ t.led = true)
section
variable {P : Program} {w : World} {h h' : Heap} {a : Addr} {S : Str → Bool} {n : Nat}
theorem SetX.at (R : SetX w h a S n) (k : ∀ o, h.get? a = some o → h'.get? a = some o) : SetX w h' a S n := by
  obtain ⟨o, es, ep, t, ho, r⟩ := R
  exact ⟨o, es, ep, t, k o ho, r⟩
theorem SetX.lt (R : SetX w h a S n) : a < h.objs.size := by
  obtain ⟨o, es, ep, t, ho, r⟩ := R
  exact Heap.lt_size ho
theorem SetX.congr {S' : Str → Bool} (R : SetX w h a S n) (e : ∀ k, S' k = S k) : SetX w h a S' n := by
  have q : S' = S := funext e
  rw [q]; exact R
theorem goodX_elems {l : List (Int × Value)} (g : ∀ e ∈ l, GoodX w e) : ElemsOf (PySem.strKind P w) l := fun e he => by
  obtain ⟨k, tk, h1, h2⟩ := g e he
  exact ⟨⟨k, by rw [h1]; exact strKind_is P w k tk, h2⟩, by rw [h1] <;> rfl⟩
theorem goodX_is {e : Int × Value} (g : GoodX w e) (k : Str) : (PySem.strKind P w).is k e.2 = true ↔ (keyX) e = k := by
  obtain ⟨k0, tk, h1, _⟩ := g
  unfold keyX
  rw [h1]
  show ((k0 == k) = true) ↔ k0 = k
  exact beq_iff_eq
theorem goodX_mem {l : List (Int × Value)} (g : ∀ e ∈ l, GoodX w e) (k : Str) : k ∈ l.map (keyX) ↔ ∃ e ∈ l, (PySem.strKind P w).is k e.2 = true := by
  rw [List.mem_map]
  constructor
  · rintro ⟨e, he, q⟩
    exact ⟨e, he, (goodX_is (g e he) k).2 q⟩
  · rintro ⟨e, he, q⟩
    exact ⟨e, he, (goodX_is (g e he) k).1 q⟩
end
section
variable {P : Program} {w : World} {A : Around} {E : Value → Shared → Prop} {s : Shared} {a : Addr} {S : Str → Bool} {n : Nat}
theorem setX_add_tail {g : Bool → Sem Unit} (hg : ∀ (b : Bool) (s₁ : Shared) (Q' : Unit → Shared → Prop), Q' () s₁ → wpAny (model P w) A (g b) Q' E s₁)
    {o : Obj} {es : Array (Int × Value)} {ep : Nat} {t : SetTable} (ho : s.heap.get? a = some o) (hex : o.ExactSet) (hd : o.data = .set es ep t)
    {es1 : Array (Int × Value)} {t2 : SetTable} {S' : Str → Bool} (g1 : ∀ e ∈ es1.toList, GoodX w e) (nd1 : (es1.toList.map (keyX)).Nodup) (m1 : ∀ k, S' k = true ↔ k ∈ es1.toList.map (keyX))
    (hb1 : es1.size < scanBound) (hf2 : t2.fits es1.size = true) (hr : Ris t2.place.toList) (hl : w.params.followText "set-order" = true ∨ t2.led = true) {wasDummy : Bool} {R : Option Bool → Shared → Prop}
    (hR : ∀ h', Heap.SameBut a s.heap h' → SetX w h' a S' es1.size → R (some true) { s with heap := h' }) :
    wpAny (model P w) A (do
        storeSet a es1 t2
        if (!wasDummy && t2.tooFull) = true then do
            g (relayAll t2 es1 (SetTable.grown es1.size)).2.2
            storeSet a (relayAll t2 es1 (SetTable.grown es1.size)).1 (relayAll t2 es1 (SetTable.grown es1.size)).2.1
            pure (some true)
          else pure (some true)) R E s := by
  refine wpAny_bind (wpAny_storeSet_of ho hd ?_ (fits_of_scanBound hb1))
  have ho1 := store_at (es' := es1) (t' := t2) ho hd
  have sb1 := Heap.SameBut.update s.heap a (Obj.putSet es1 t2)
  split
  · have pm := relayAll_perm t2 es1 (SetTable.grown es1.size)
    have hf3 := relayAll_fits t2 es1 (SetTable.grown es1.size)
    have hr3 := relayAll_ris t2 es1 (SetTable.grown es1.size)
    have hl3 := relayAll_led t2 es1 (SetTable.grown es1.size)
    generalize relayAll t2 es1 (SetTable.grown es1.size) = Z at pm hf3 hr3 hl3 ⊢
    obtain ⟨es2, t3, gave⟩ := Z
    dsimp only at pm hf3 hr3 hl3 ⊢
    have hsz : es2.size = es1.size := by rw [← Array.length_toList, pm.length_eq, Array.length_toList]
    have hb2 : es2.size < scanBound := by rw [hsz]; exact hb1
    refine wpAny_bind (hg _ _ _ ?_)
    refine wpAny_bind (wpAny_storeSet_of ho1 rfl ?_ (fits_of_scanBound hb2))
    have ho2 := store_at (es' := es2) (t' := t3) ho1 rfl
    refine wpAny_pure (hR _ (sb1.trans (Heap.SameBut.update _ a _)) ?_)
    exact ⟨_, es2, _, t3, ho2, hex, rfl, fun e he => g1 e (pm.mem_iff.mp he), (pm.map (keyX)).nodup_iff.mpr nd1, fun k => (m1 k).trans (pm.map (keyX)).mem_iff.symm, hb2, hf3, hsz, hr3,
      hl.imp id fun z => by rw [hl3]; exact z⟩
  · exact wpAny_pure (hR _ sb1 ⟨_, es1, _, t2, ho1, hex, rfl, g1, nd1, m1, hb1, hf2, rfl, hr, hl⟩)
theorem setX_add_hashed {k : Str} {tk : Tok} {Q : Bool → Shared → Prop} (R : SetX w s.heap a S n) (room : n + 1 < scanBound)
    (hQ : ∀ h', Heap.SameBut a s.heap h' → SetX w h' a (fun j => S j || decide (j = k)) (if S k = true then n else n + 1) → Q (!S k) { s with heap := h' }) :
    wpAny (model P w) A (setAddHashed a (.str k tk) ((PySem.strKind P w).hash k)) Q E s := by
  obtain ⟨o, es, ep, t, ho, hex, hd, g, nd, hm, hb, hf, hn, hr, hl⟩ := R
  have hkey : (PySem.strKind P w).is k (.str k tk) = true := strKind_is P w k tk
  have hsc : (Value.str k tk).scannable = true := rfl
  have hel : ElemsOf (PySem.strKind P w) es.toList := goodX_elems g
  unfold setAddHashed setAddHashedIn
  refine wpAny_holding (wpAny_bind (wpAny_setState_of ho hd hf ?_))
  dsimp only
  rw [byScan_of hsc hb hel]
  simp only [↓reduceIte]
  unfold setAddByScan
  refine wpAny_bind ?_
  refine wpAny_bind (wpAny_rule ?_)
  refine wpAny_bind (wpAny_setScan_of hkey ho hd hf hel ?_)
  cases hfi : List.findIdx? (fun e => (PySem.strKind P w).is k e.2) es.toList with
  | some j =>
    dsimp only
    obtain ⟨hj, pj, _⟩ := List.findIdx?_eq_some_iff_getElem.mp hfi
    have hSk : S k = true := (hm k).2 ((goodX_mem (P := P) (w := w) g k).2 ⟨es.toList[j], List.getElem_mem hj, pj⟩)
    refine wpAny_pure (wpAny_pure ?_)
    have q := hQ s.heap (Heap.SameBut.refl a s.heap) ⟨o, es, ep, t, ho, hex, hd, g, nd, fun i => by
      rw [Bool.or_eq_true, decide_eq_true_eq, ← hm i]
      exact ⟨fun z => z.elim id (fun e => e ▸ hSk), .inl⟩, hb, hf, by rw [if_pos hSk]; exact hn, hr, hl⟩
    rw [hSk] at q
    exact q
  | none =>
    dsimp only
    have hnk : k ∉ es.toList.map (keyX) := fun z => by
      obtain ⟨e, he, q⟩ := (goodX_mem (P := P) (w := w) g k).1 z
      have c := List.findIdx?_eq_none_iff.mp hfi e he
      rw [q] at c
      cases c
    have hSk : S k = false := by
      cases q : S k with
      | false => rfl
      | true => exact absurd ((hm k).1 q) hnk
    have hgw : ∀ (b : Bool) {s₁ : Shared} {Q' : Unit → Shared → Prop}, Q' () s₁ → wpAny (model P w) A (match b with | true => rule "set.scan.the-table-gave-way" | false => pure ()) Q' E s₁ :=
      fun b s₁ Q' q => by cases b <;> first | exact wpAny_pure q | exact wpAny_rule q
    have pm := layNew_perm t es ((PySem.strKind P w).hash k) (.str k tk)
    have hf1 := layNew_fits t es ((PySem.strKind P w).hash k) (.str k tk)
    have hr1 := layNew_ris t es ((PySem.strKind P w).hash k) (.str k tk) hr
    have hl1 := layNew_led t es ((PySem.strKind P w).hash k) (.str k tk)
    generalize layNew t es ((PySem.strKind P w).hash k) (.str k tk) = Z at pm hf1 hr1 hl1 ⊢
    obtain ⟨es1, t1, wasDummy, gave⟩ := Z
    dsimp only at pm hf1 hr1 hl1 ⊢
    rw [Array.toList_push] at pm
    have pc : es1.toList.Perm (((PySem.strKind P w).hash k, Value.str k tk) :: es.toList) := pm.trans (List.perm_append_singleton _ _)
    have pk : (es1.toList.map (keyX)).Perm (k :: es.toList.map (keyX)) := pc.map (keyX)
    have g1 : ∀ e ∈ es1.toList, GoodX w e := fun e he => by
      rcases List.mem_cons.mp (pc.mem_iff.mp he) with z | z
      · rw [z]; exact ⟨k, tk, rfl, rfl⟩
      · exact g e z
    have nd1 : (es1.toList.map (keyX)).Nodup := pk.nodup_iff.mpr (List.nodup_cons.mpr ⟨hnk, nd⟩)
    have m1 : ∀ i, (S i || decide (i = k)) = true ↔ i ∈ es1.toList.map (keyX) := fun i => by
      rw [Bool.or_eq_true, decide_eq_true_eq, hm i, pk.mem_iff, List.mem_cons]
      exact Or.comm
    have hsz : es1.size = n + 1 := by rw [← Array.length_toList, pc.length_eq, List.length_cons, Array.length_toList, hn]
    have hb1 : es1.size < scanBound := by rw [hsz]; exact room
    have hled : w.params.followText "set-order" = true ∨ t1.led = true := hl.imp id fun z => by rw [hl1]; exact z
    have fin : ∀ h', Heap.SameBut a s.heap h' → SetX w h' a (fun j => S j || decide (j = k)) es1.size → Q true { s with heap := h' } := fun h' sb r => by
      have q := hQ h' sb
      rw [hSk] at q
      rw [hsz] at r
      exact q r
    refine wpAny_bind (hgw _ ?_)
    split
    · refine wpAny_bind ?_
      rw [hashByValue_scannable 8 hsc]
      refine wpAny_pure ?_
      refine setX_add_tail ?_ ho hex hd g1 nd1 m1 hb1 ?_ ?_ ?_ ?_
      · intro b s₁ Q' q; cases b <;> first | exact wpAny_pure q | exact wpAny_rule q
      · first | (split <;> first | exact hf1 | exact SetTable.fits_plain_off hf1) | exact hf1
      · first | (split <;> exact hr1) | exact hr1
      · first | (split <;> exact hled) | exact hled
      · intro h' sb r; dsimp only; exact wpAny_pure (fin h' sb r)
    · refine wpAny_bind (wpAny_pure ?_)
      simp only [↓reduceIte]
      refine setX_add_tail ?_ ho hex hd g1 nd1 m1 hb1 hf1 hr1 hled ?_
      · intro b s₁ Q' q; cases b <;> first | exact wpAny_pure q | exact wpAny_rule q
      · intro h' sb r; dsimp only; exact wpAny_pure (fin h' sb r)
end
theorem setX_new_at {w : World} {h : Heap} {a : Addr} {ns : List Str} (ho : h.get? a = some { cls := .type "set", dict := none, data := .set #[] 0 (.fresh 0 0 (!w.params.followText "set-order")) }) : SetX w h a (fun j => decide (j ∈ ns.take 0)) 0 :=
  ⟨_, #[], 0, _, ho, ⟨rfl, rfl, rfl⟩, rfl, (fun e he => by simp at he), (by simp), (fun k => by simp), (by decide), (by rfl), rfl, List.Pairwise.nil, by
    show _ ∨ (!w.params.followText "set-order") = true
    cases w.params.followText "set-order"
    · exact .inr rfl
    · exact .inl rfl⟩
section
variable {P : Program} {w : World} {A : Around} {E : Value → Shared → Prop} {s : Shared}
theorem set_update_strs {I : Addr} {fp wr : List Addr} {G : Array GenState → Array GenState → Prop} {n : Nat} {Pv : Nat → Value → Prop} {St : Nat → Shared → Prop} {R : Result → Shared → Prop}
    (W : WalksS P w A.in1 I fp wr G n Pv St) (S : Addr) (hSf : S ∉ fp) (ns : List Str) (hn : n = ns.length) (hb : ns.length + 1 < scanBound) (hval : ∀ i v, Pv i v → ∃ k t, ns[i]? = some k ∧ v = .str k t) :
    ∀ (k i : Nat) (s : Shared), n - i = k → i ≤ n → St i s → (∃ c, c ≤ i ∧ SetX w s.heap S (fun j => decide (j ∈ ns.take i)) c) →
      (∀ s' c, Moved (S :: wr) G s s' → c ≤ n → SetX w s'.heap S (fun j => decide (j ∈ ns)) c → R (.ok (.ret .none)) s') →
      codeAny (model P w) A (.builtin "set.update.loop" ⟨[.ref S, .ref I], []⟩) R s := by
  have hSw : S ∉ wr := fun h => hSf (W.sub _ h)
  have hsub : ∀ b ∈ wr, b ∈ S :: wr := fun b hb => List.mem_cons_of_mem _ hb
  intro k
  induction k with
  | zero =>
    intro i s hk' hi hst ⟨c, hc, hS⟩ hR
    have hin : i = n := by omega
    subst hin
    refine codeAny_builtin F.entry_set_update_loop ?_
    rw [Around.under_plainId F.plain_set_update_loop _]
    show wpAny _ A.in1 (pyNext (.ref I) >>= _) _ _ s
    refine wpAny_bind (W.done s _ _ hst fun s' hm => ?_)
    show wpAny _ A.in1 (ret Value.none) _ _ s'
    have e : ns.take i = ns := List.take_of_length_le (by omega)
    rw [e] at hS
    exact wpAny_pure (hR s' c (hm.mono hsub) hc (hS.at fun o e => hm.heap S o hSw e))
  | succ k ih =>
    intro i s hk' hi hst ⟨c, hc, hS⟩ hR
    have hlt : i < n := by omega
    refine codeAny_builtin F.entry_set_update_loop ?_
    rw [Around.under_plainId F.plain_set_update_loop _]
    show wpAny _ A.in1 (pyNext (.ref I) >>= _) _ _ s
    refine wpAny_bind (W.item i s _ _ hlt hst fun v s' hP hst' hm => ?_)
    obtain ⟨z, t, hz, rfl⟩ := hval i v hP
    have hS' : SetX w s'.heap S (fun j => decide (j ∈ ns.take i)) c := hS.at fun o e => hm.heap S o hSw e
    show wpAny _ A.in1 (holding [Value.str z t] (setAdd S (.str z t)) >>= _) _ _ s'
    refine wpAny_bind (wpAny_holding ?_)
    unfold setAdd
    refine wpAny_holding ?_
    refine wpAny_bind ((PySem.strKind P w).pyHash (k := z) (strKind_is _ _ _ _) ?_)
    refine setX_add_hashed (s := { s' with toks := s'.toks + 1 }) hS' (by omega) fun h' hsb hS2 => ?_
    have hS3 : SetX w h' S (fun j => decide (j ∈ ns.take (i + 1))) (if decide (z ∈ ns.take i) = true then c else c + 1) := hS2.congr fun j => by
      rw [List.take_add_one, hz]
      simp [List.mem_append]
    have hc3 : (if decide (z ∈ ns.take i) = true then c else c + 1) ≤ i + 1 := by
      split <;> omega
    refine wpAny_pure ⟨plainId_quiet F.plain_set_update_loop _, ih (i + 1) _ (by omega) hlt (W.frame _ s' _ _ hst' (Nat.le_succ _) fun b hb o e => ?_) ⟨_, hc3, hS3⟩ fun s'' c2 hm'' hc'' hS'' => ?_⟩
    · rw [hsb.2 b (fun h : b = S => hSf (by rw [← h]; exact hb))]; exact e
    · refine hR s'' c2 (Moved.trans W.gtrans ((hm.mono hsub).then_heap (Nat.le_succ _) fun b o hb e => ?_) hm'') hc'' hS''
      rw [hsb.2 b (fun h : b = S => hb (by rw [h]; exact List.mem_cons_self))]; exact e
theorem call_set_lstS {l : Addr} {items : Array Value} (ns : List Str) {Q : Value → Shared → Prop} (hh : A.handled = none) (hl : s.heap.IsList l items) (hit : StrsAre items.toList ns) (hb : ns.length + 1 < scanBound)
    (h : ∀ (h' : Heap) (tk c : Nat), SetX w h' s.heap.objs.size (fun j => decide (j ∈ ns)) c → c ≤ ns.length → (∀ b o, s.heap.get? b = some o → h'.get? b = some o) → Q (.ref s.heap.objs.size) { s with heap := h', toks := tk }) :
    wpAny (model P w) A (call (.type "set") [.ref l]) Q E s := by
  have hisz : items.size = ns.length := by
    have q := StrsAre.length hit
    rw [Array.length_toList] at q
    exact q
  obtain ⟨c, tl, hmro⟩ := F.called_set.mro
  have hmade := F.called_set.made
  have hsub := F.called_set.sub
  refine wpAny_call (codeAny_of_tree ?_)
  show wpAny _ _ (callAny (.type "set") _) _ _ _
  refine wpAny_pure ⟨Code.quiet_builtin _ (by decide +kernel), codeAny_builtin F.entry_type_call ?_⟩
  rw [Around.under_plain (weight_type_call_type "set" [.ref l] []) rfl]
  have h1 := F.called_set.notType
  have h2 := F.called_set.canCreate
  have hct := F.typeCall_set_1 (.ref l)
  repeat (any_goals (first | assumption | wp_step))

  refine codeAny_mono (code_set_led1 (.ref l) (E := E) (Q₁ := fun obj s₁ => obj = .ref s.heap.objs.size ∧ s₁ = { s with heap := s.heap.push { cls := .type "set", dict := none, data := .set #[] 0 (.fresh 0 0 (!w.params.followText "set-order")) } }) ⟨rfl, rfl⟩) fun r s₁ hr => ?_
  cases r with
  | error e => exact hr
  | ok fl =>
    cases fl with
    | ret obj =>
      obtain ⟨rfl, rfl⟩ := hr
      have hS : (s.heap.push { cls := .type "set", dict := none, data := .set #[] 0 (.fresh 0 0 (!w.params.followText "set-order")) }).get? s.heap.objs.size = some { cls := .type "set", dict := none, data := .set #[] 0 (.fresh 0 0 (!w.params.followText "set-order")) } := Heap.get?_push_size _ rfl
      have hT : Shared.TypeIs { s with heap := s.heap.push { cls := .type "set", dict := none, data := .set #[] 0 (.fresh 0 0 (!w.params.followText "set-order")) } } (.ref s.heap.objs.size) "set" := ⟨_, hS, rfl⟩
      have hli := F.called_set.init.lookup
      have hbi := F.called_set.init.bind (.ref s.heap.objs.size)
      repeat (any_goals (first | assumption | wp_step))

      refine codeAny_mono (codeAny_call_builtin (R := wants (fun r s₂ => r = .none ∧ ∃ h' tk c, s₂ = { s with heap := h', toks := tk } ∧ SetX w h' s.heap.objs.size (fun j => decide (j ∈ ns)) c ∧ c ≤ ns.length ∧
          (∀ b o, s.heap.get? b = some o → h'.get? b = some o)) E) F.called_set.init.plain F.entry_set_init (check_set_init_1 hT ?_)) fun r₂ s₂ hr₂ => ?_
      · obtain ⟨ol, hol, hcl, nl, hdl⟩ := hl
        obtain ⟨ocls, odict, odata, oslots⟩ := ol
        simp only at hcl hdl
        subst hcl; subst hdl
        have hol' : (s.heap.push { cls := .type "set", dict := none, data := .set #[] 0 (.fresh 0 0 (!w.params.followText "set-order")) }).get? l = some { cls := .type "list", dict := odict, data := .seq items nl, slots := oslots } := Heap.get?_push_of_some _ hol
        have hsls := F.sub_list_set
        have hslf := F.sub_list_frozenset
        have hne : (Value.type "list" == Value.type "dict") = false := by decide
        have hl1 : (s.heap.push { cls := .type "set", dict := none, data := .set #[] 0 (.fresh 0 0 (!w.params.followText "set-order")) }).IsList l items := ⟨_, hol', rfl, nl, rfl⟩
        unfold Builtin.«set.__init__» noKeywords Builtin.Frozenset.updateFrom
        generalize hPI : pyIter = PI
        wp_walk
        subst hPI

        refine wpAny_pyIter_list hl1 ?_
        refine wpAny_bind (wpAny_runValue ?_)
        have hlS : l < s.heap.objs.size := Heap.lt_size hol
        have hh3 : A.in1.in1.in1.handled = none := by simp [hh]
        have hz1 : (s.heap.push { cls := .type "set", dict := none, data := .set #[] 0 (.fresh 0 0 (!w.params.followText "set-order")) }).objs.size = s.heap.objs.size + 1 := Heap.size_push ..
        have hneI : l ≠ (s.heap.push { cls := .type "set", dict := none, data := .set #[] 0 (.fresh 0 0 (!w.params.followText "set-order")) }).objs.size := by
          rw [Heap.size_push]; exact Nat.ne_of_lt (Nat.lt_succ_of_lt hlS)
        have hSf : s.heap.objs.size ∉ [(s.heap.push { cls := .type "set", dict := none, data := .set #[] 0 (.fresh 0 0 (!w.params.followText "set-order")) }).objs.size, l] := by
          rw [Heap.size_push]; simp only [List.mem_cons, List.mem_singleton, List.not_mem_nil, or_false, not_or]
          exact ⟨Nat.ne_of_lt (Nat.lt_succ_self _), Nat.ne_of_gt hlS⟩
        have hval : ∀ (i : Nat) (v : Value), items[i]? = some v → ∃ k t, ns[i]? = some k ∧ v = .str k t := fun i v hv => by
          have hi : i < ns.length := by rw [← hisz]; exact (Array.getElem?_eq_some_iff.mp hv).1
          obtain ⟨y, t, e1, e2⟩ := PyProof.Rows.StrsAre.item hit i v (by rw [Array.getElem?_toList]; exact hv)
          exact ⟨y, t, e2, e1⟩
        refine set_update_strs ((Walks.list hh3 _ l hneI items).toS) s.heap.objs.size
          hSf ns hisz hb hval (items.size - 0) 0 _ (by omega) (Nat.zero_le _)
          ⟨⟨_, Heap.get?_push_size _ rfl, rfl, rfl⟩, (hl1.push _)⟩ ?hS0 ?hR
        case hS0 =>
          have hget : ((s.heap.push { cls := .type "set", dict := none, data := .set #[] 0 (.fresh 0 0 (!w.params.followText "set-order")) }).push { cls := .type "list_iterator", data := .fields #[.ref l, .int 0 0] }).get? s.heap.objs.size
              = some { cls := .type "set", dict := none, data := .set #[] 0 (.fresh 0 0 (!w.params.followText "set-order")) } := Heap.get?_push_of_some _ hS
          exact ⟨0, Nat.le_refl 0, setX_new_at hget⟩
        case hR =>
          intro s' c' hm hc' hS'
          obtain ⟨h', g2, d', tk', os'⟩ := s'
          have eg : g2 = s.gens := hm.gens
          have ed : d' = s.drawn := hm.drawn
          have eo : os' = s.os := hm.os
          subst eg; subst ed; subst eo
          show wpAny _ _ _ _ _ _
          refine wpAny_pure ?_
          show wpAny _ _ (ret Value.none) _ _ _
          rw [hisz] at hc'
          refine wpAny_pure ⟨rfl, h', tk', c', rfl, hS', hc', fun b o e => ?_⟩
          have hb0 : b < s.heap.objs.size := Heap.lt_size e
          have hb1 : b ≠ s.heap.objs.size := Nat.ne_of_lt hb0
          have hb2 : b ≠ (s.heap.push { cls := .type "set", dict := none, data := .set #[] 0 (.fresh 0 0 (!w.params.followText "set-order")) }).objs.size := by
            rw [Heap.size_push]; exact Nat.ne_of_lt (Nat.lt_succ_of_lt hb0)
          exact hm.heap b o (by simp only [List.mem_cons, List.mem_singleton, List.not_mem_nil, or_false, not_or]; exact ⟨hb1, hb2⟩) (Heap.get?_push_of_some _ (Heap.get?_push_of_some _ e))

      · cases r₂ with
        | error e => exact hr₂
        | ok fl₂ =>
          cases fl₂ with
          | ret r =>
            obtain ⟨rfl, h', tk, c', rfl, hS', hc', hk'⟩ := hr₂
            repeat (any_goals (first | assumption | wp_step))
            exact h _ _ _ hS' hc' hk'
          | _ => exact hr₂.elim
    | _ => exact hr.elim
end
section
variable {P : Program} {w : World} {A : Around} {E : Value → Shared → Prop} {s : Shared} {a : Addr}
theorem sorted_setX {S : Str → Bool} {n : Nat} {Q : Value → Shared → Prop} (R : SetX w s.heap a S n) (hh : A.handled = none) (h64 : n < 64)
    (hQ : ∀ s' p (out : Array Value) (c : Nat) (ns : List Str), (∀ b o, s.heap.get? b = some o → s'.heap.get? b = some o) → s'.gens = s.gens → s'.os = s.os → s.heap.objs.size ≤ p →
      s'.heap.get? p = some (seqObj "list" out c) → StrsAre out.toList ns → sortedS ns = true → ns.Nodup → (∀ k, k ∈ ns ↔ S k = true) → ns.length = n → Q (.ref p) s') :
    wpAny (model P w) A (call (.builtin "sorted") [.ref a]) Q E s := by
  obtain ⟨o, es, ep, t, ho, hex, hd, g, nd, hm, hb, hf, hn, hr, hl⟩ := R
  refine Calls.call_function_entry kind_sorted plain_sorted entry_sorted (args_sorted1 _) ?_
  unfold Builtin.«sorted»
  refine wpAny_bind (m := checkCount "sorted" 1 1 _) (wpAny_pure ?_)
  refine wpAny_bind (collect_set (A := A.in1) hh ⟨o, ho, hex.1, hd⟩ hf hb hr hl fun s1 vs k1 hz g1 o1 pm => ?_)
  have hvl : vs.length = n := by rw [pm.length_eq, List.length_map, Array.length_toList]; exact hn
  have hI : StrsAre vs (vs.map PyProof.Rows.strOf) := strsAre_map vs fun v hv => by
    obtain ⟨e, he, q⟩ := List.mem_map.mp (pm.mem_iff.mp hv)
    obtain ⟨k, tk, h1, _⟩ := g e he
    exact ⟨k, tk, by rw [← q]; exact h1⟩
  have ek : ∀ e ∈ es.toList, PyProof.Rows.strOf e.2 = keyX e := fun e he => by
    obtain ⟨k, tk, h1, _⟩ := g e he
    unfold keyX
    rw [h1]
    rfl
  have pk : (vs.map PyProof.Rows.strOf).Perm (es.toList.map keyX) := by
    have q := pm.map PyProof.Rows.strOf
    rw [List.map_map] at q
    rw [← List.map_congr_left ek]
    exact q
  refine wpAny_bind (wpAny_newList ?_ (by rw [hvl, sizeLine_eq]; omega))
  have hoL : (s1.heap.push (seqObj "list" vs.toArray 0)).get? s1.heap.objs.size = some (seqObj "list" vs.toArray 0) := Heap.get?_push_size _ rfl
  refine wpAny_bind (wpAny_holding (wpAny_call_entry slot_list_sort ⟨_, hoL, rfl⟩ entry_list_sort (list_sort_treeK strKind_oneLt hoL hI.keysOf (fun v₁ v₂ rest e => keyKind_strs (by rw [← e]; exact hI)) (by rw [hvl]; exact h64) fun st' hp hs => ⟨_, rfl, ?_⟩) (args_list_sort _)))
  obtain ⟨ns', a1, a2, a3⟩ := sorted_out_str hI hp hs
  generalize (arrOf st').map (·.2) = out at a1 ⊢
  obtain ⟨c, hc⟩ := sortedHeap_at (vs := vs) (out := out) hoL
  have pn : ns'.Perm (es.toList.map keyX) := a2.trans pk
  refine wpAny_pure ⟨_, rfl, hQ _ s1.heap.objs.size out c ns' (fun b u e => ?_) g1 o1 hz hc a1 a3 (pn.nodup_iff.mpr nd) (fun k => by rw [pn.mem_iff, ← hm k]) ?_⟩
  · have q := k1 b u e
    have hlt := Heap.lt_size q
    show (sortedHeap (s1.heap.push (seqObj "list" vs.toArray 0)) s1.heap.objs.size vs out).get? b = some u
    rw [sortedHeap_old (Nat.ne_of_lt hlt) (by rw [size_push']; exact Nat.lt_succ_of_lt hlt)]
    exact Heap.get?_push_of_some _ q
  · rw [pn.length_eq, List.length_map, Array.length_toList]; exact hn
end
end L2
namespace L2
open PySem PySem.Spec PyProof.Rows
def SetXO (w : World) (a : Addr) (S : Str → Bool) (n : Nat) : HO := .ext fun h => SetX w h a S n
theorem setXO_new {w : World} {P : Program} {H : Hp} {h : Heap} {a : Addr} {S : Str → Bool} {n : Nat} (R : SetX w h a S n) : ObjOk P w H h a (SetXO w a S n) := by
  have ⟨o, _, _, _, ho, _⟩ := R
  exact ⟨R, ⟨o, ho⟩, fun h1 h2 p k => SetX.at p k⟩
def rSetS (K : PySem.W.Frag) (w : World) : List V → Hp → VK → Prop := fun xs H Q => ∃ (l : Addr) (ss : List Str), xs = [V.ref l] ∧ SqL K H l (ss.map V.str) ∧ ss.length < 64 ∧
  ∀ p c, H p = none → c ≤ ss.length → Q (.ref p) (upd H p (SetXO w p (fun j => decide (j ∈ ss)) c))
def rSortedX (w : World) : List V → Hp → VK → Prop := fun vs H Q => ∃ (a : Addr) (S : Str → Bool) (n : Nat), vs = [V.ref a] ∧ H a = some (SetXO w a S n) ∧ n < 64 ∧
  ∀ (ys : List Str) (p : Addr), sortedS ys = true → ys.Nodup → (∀ k, k ∈ ys ↔ S k = true) → ys.length = n → H p = none → Q (.ref p) (upd H p (.lst (ys.map V.str)))
section
variable {X : Cx}
theorem cr_setS (hc : X.calm = true) : CallR X (.type "set") (rSetS X.K X.w) := by
  intro pins s σ H xs us Q I r h
  obtain ⟨l, ss, rfl, hl, hf, q⟩ := h
  rw [Vals.ref1 r]
  obtain ⟨its, rv, pl, hz⟩ := I.list hl
  have hn : H s.heap.objs.size = none := I.hok.fresh (Nat.le_refl _)
  refine call_set_lstS (P := X.prog) (w := X.w) ss (I.ok.hd hc) pl.isList (by simpa using rv.strs) (Nat.lt_of_le_of_lt (Nat.succ_le_of_lt hf) (by decide)) fun h' tk c R hc' k => ?_
  exact ⟨.ref s.heap.objs.size, upd H s.heap.objs.size (SetXO X.w s.heap.objs.size (fun j => decide (j ∈ ss)) c), I.laid (t' := tk) k (Nat.le_refl _) (setXO_new R), rfl, q _ c hn hc'⟩
theorem cr_sortedX (hc : X.calm = true) : CallR X (.builtin "sorted") (rSortedX X.w) := by
  intro pins s σ H vs us Q I r h
  obtain ⟨a, S, n, rfl, ha, h64, q⟩ := h
  have R : SetX X.w s.heap a S n := (I.hok a _ ha).1
  rw [Vals.ref1 r]
  refine sorted_setX (P := X.prog) R (I.ok.hd hc) h64 fun s' p out c ns k g o hp hg hout hs nd hm hl => ?_
  have hlen : (ns.map V.str).length ≤ sizeLine := by rw [List.length_map, hl]; exact small64 h64
  have hn : H p = none := I.hok.fresh hp
  have J : Inv X pins σ (upd H p (.lst (ns.map V.str))) { s with heap := s'.heap, gens := s'.gens, drawn := s'.drawn, toks := s'.toks } :=
    I.call (ch := []) (Un.laid k hp hn) (I.hok.laid k hp ⟨hlen, out.toList, c, vals_of_strs hout, hg⟩) (by rw [g]; exact I.bare) (fun _ z => nomatch z)
  have e : s' = { s with heap := s'.heap, gens := s'.gens, drawn := s'.drawn, toks := s'.toks } := by
    cases s'
    cases s
    cases o
    rfl
  rw [e]
  exact ⟨.ref p, _, J, rfl, q ns p hs nd hm hl hn⟩
end
end L2
namespace Sh
open PySem PySem.Spec PyProof.Rows L2 Nk StX
def dd0 : List Str → List Str
  | [] => []
  | x :: r => if x ∈ r then dd0 r else x :: dd0 r
theorem dd0_mem : ∀ (l : List Str) (x : Str), x ∈ dd0 l ↔ x ∈ l
  | [], x => Iff.rfl
  | y :: r, x => by
    unfold dd0
    split
    · rename_i h
      rw [dd0_mem r x, List.mem_cons]
      exact ⟨.inr, fun z => z.elim (fun e => e ▸ h) id⟩
    · rw [List.mem_cons, List.mem_cons, dd0_mem r x]
theorem dd0_nodup : ∀ l : List Str, (dd0 l).Nodup
  | [] => List.nodup_nil
  | y :: r => by
    unfold dd0
    split
    · exact dd0_nodup r
    · rename_i h
      exact List.nodup_cons.mpr ⟨fun z => h ((dd0_mem r y).mp z), dd0_nodup r⟩
def dSortSet : D → Option D
  | .lst xs => match D.strs xs with
    | some ys => if ys.length < 64 then some (.lst ((srtS (dd0 ys)).map .str)) else none
    | none => none
  | _ => none
section
variable [TabSet] [BasePred]
variable {K : PySem.W.Frag} {X : Cx} {W : WX} {ex : Expr} {f : Sx D}
theorem x_sortSet {p1 p2 q1 q2 : Pos} (hK : X.K = K) (hc : X.calm = true) (hg : Gl X "sorted") (hm : X.mg "sorted" = none) (hg2 : Gl X "set") (hm2 : X.mg "set" = none) (h : Ev K X W ex f)
    (hs : starEach [ex] X.env = [(false, eval ex X.env)] := by rfl) : Ev K X W (.Call (.Name "sorted" p1) [.Call (.Name "set" p2) [ex] [] q2] [] q1) (eUn dSortSet f) := by
  subst hK
  obtain ⟨tf, p, h1⟩ := h.run
  have P1 := pe_callTy (p := p2) (pos := q2) (cr_setS hc) hg2 hm2 (by decide +kernel) (pa_cons p pa_nil hs) (by decide) (by decide) hs (by rfl)
  have P2 := pe_callB (p := p1) (pos := q1) (cr_sortedX hc) hg hm (by decide +kernel) (pa_cons P1 pa_nil (by rfl)) (by decide) (by decide) (by rfl) (by rfl)
  refine ⟨_, P2, fun b m ow H σ e S Q t q => ?_⟩
  refine h1 b m ow H σ e S _ t (Post.bind q fun x S1 v m1 H1 f1 c1 rx q => ?_)
  replace q := q.pz c1
  unfold dSortSet at q
  split at q
  · rename_i xs
    obtain ⟨a, vs, rfl, t', r2⟩ := rep_list rx
    cases e : D.strs xs with
    | none => rw [e] at q; exact (q : False).elim
    | some ys =>
      rw [e] at q
      dsimp only at q
      obtain ⟨h, q⟩ := Pz.ite q
      have e2 := reps_strs r2 e
      subst e2
      refine ⟨a, ys, rfl, t'.sq, h, fun p0 c hn0 hc0 => ?_⟩
      refine ⟨p0, _, c, rfl, upd_same, Nat.lt_of_le_of_lt hc0 h, fun zs p hz nd hm hl hn => ?_⟩
      have hp : zs.Perm (dd0 ys) := (List.perm_ext_iff_of_nodup nd (dd0_nodup ys)).mpr fun k => by rw [hm k, decide_eq_true_eq, dd0_mem]
      have := srt_uniq (dd0 ys) zs hp hz
      subst this
      have hp0 : H1 p = none := by
        by_cases z : p = p0
        · subst z; exact hn0
        · rw [upd_ne z] at hn; exact hn
      have hh : ∀ y ∈ ys, y.length ≤ sizeLine := fun y hy => strs_short r2 e y hy
      refine q _ _ (same_mut (same_mut (Same.refl _) hn0) hp0) ?_
      unfold Rep
      refine ⟨p, (srtS (dd0 ys)).map V.str, rfl, ⟨fun z => c1.full p z (.none hp0), upd_same, by rw [List.length_map, hl]; exact Nat.le_trans hc0 (Nat.le_trans (Nat.le_of_lt h) (by decide))⟩, ?_⟩
      exact reps_ofStrs fun y hy => hh y (of_decide_eq_true ((hm y).mp hy))
  · exact (q : False).elim
end
end Sh
namespace Sh
open PySem PySem.Spec PyProof.Rows L2 Nk
variable [TabSet] [BasePred]
def mapB (g : Tg) (t : Sx Bool) (it1 : Sx (List D)) (vs1 : List Nat) (g1 : Tg) (t1 : Sx Bool) (f : Sx D) : List D → List D → En → Store → R (List D)
  | acc, [], _, S => .ok acc S
  | acc, d :: ds, e, S => match g d e with
    | none => .no
    | some e1 => (t e1 S).bind fun c S1 => if c then (it1 e1 S1).bind fun ds1 S2 => if acc.length + ds1.length ≤ sizeLine ∧ vs1.all (fun v => notOwn v e1) = true then (mapA g1 t1 f acc ds1 (clr vs1 e1) S2).bind fun acc2 S3 => mapB g t it1 vs1 g1 t1 f acc2 ds e S3 else .no else mapB g t it1 vs1 g1 t1 f acc ds e S1
def lComp2 (vs : List Nat) (it : Sx (List D)) (g : Tg) (t : Sx Bool) (it1 : Sx (List D)) (vs1 : List Nat) (g1 : Tg) (t1 : Sx Bool) (f : Sx D) (e : En) (S : Store) : R (List D) := (it e S).bind fun ds S1 => if vs.all (fun v => notOwn v e) = true then (mapB g t it1 vs1 g1 t1 f [] ds (clr vs e) S1).clean else .no
theorem in_it {J : It} {n : Nat} {G : Hp → Prop} {Y : Nat → Hp → V → Hp → Prop} (w : Walk J n G Y) {g : TG} {σ : L2.St} {H1 : Hp} {N : Hp → Prop} {B : (Hp → Prop) → L2.St → Hp → Prop} (Pv : Nat → Hp → Prop) (h0 : Pv 0 H1) (hG : ∀ i H, i ≤ n → Pv i H → G H)
    (hs : ∀ i x H H', i < n → Pv i H → Y i H x H' → g x σ H' (B (Pv (i + 1)))) (hd : ∀ H, Pv n H → N H) :
    ∃ W : Nat → Nat → Hp → Prop, (∃ m, W 0 m H1) ∧ ∀ i m H, W i m H →
      (J.stop i H ∧ N H) ∨ (J.go i H ∧ ∃ Nx : Hp → Prop, (∀ H', Nx H' → ∃ m', m' < m ∧ W (i + 1) m' H') ∧ ∀ x H', J.yld i H x H' → g x σ H' (B Nx)) := by
  refine ⟨fun i m H => m = n - i ∧ i ≤ n ∧ Pv i H, ⟨n, by simp, Nat.zero_le _, h0⟩, ?_⟩
  rintro i m H ⟨rfl, hi, p⟩
  have q := hG i H hi p
  by_cases hlt : i < n
  · exact .inr ⟨w.goes i H hlt q, Pv (i + 1), fun H' p' => ⟨n - (i + 1), by omega, rfl, hlt, p'⟩, fun x H' y => hs i x H H' hlt p (w.yields i H x H' hlt q y)⟩
  · have e : i = n := by omega
    subst e
    exact .inl ⟨w.stops H q, hd H p⟩
section
variable {K : PySem.W.Frag} {X : Cx} {W : WX} {ex ex2 tg iter tg1 iter1 elt : Expr} {ifs ifs1 : List Expr} {f : Sx D} {t t1 : Sx Bool} {a it it1 : Sx (List D)} {l : Sx (List D)} {g g1 : Tg} {pos p : Pos} {i : Nat} {x : Str}
def tiOf (K : PySem.W.Frag) (W : WX) (it : Sx (List D)) : TI := fun σ H R => ∃ b m ow e S, At K b m ow H σ e S ∧ Post K b.B ow m H ItR (fun c d => W c d σ) R (it e S)
theorem Ei.canon (h : Ei K X W tg iter it) : PI X tg iter (tiOf K W it) := by
  obtain ⟨te, p1, h1⟩ := h.run
  exact ⟨fun pins s σ H Q I ⟨b, m, ow, e, S, t, q⟩ => p1.run pins s σ H Q I (h1 b m ow H σ e S Q t q)⟩
theorem wipe_wipe (σ : L2.St) (vs : List Nat) : wipe (wipe σ vs) vs = wipe σ vs := by
  refine List.ext_getElem? fun j => ?_
  simp only [wipe_get, wipe_length]
  split <;> rfl
theorem lc2_rd {wi : TI} {vs vs1 : List Nat} (hi : ∀ b m ow H σ e S Q, At K b m ow H σ e S → Post K b.B ow m H ItR (fun c d => W c d σ) Q (it e S) → wi σ H Q) : ∀ b m ow H σ e S Q, At K b m ow H σ e S → PostF K b.B ow m H (fun c d => W c d σ) Q (lComp2 vs it g t it1 vs1 g1 t1 f e S) → tLc2 wi (tgOf K vs g) (ttOf K W0 t) (tiOf K W0 it1) (tgOf K vs1 g1) (ttOf K W0 t1) (teOf K W0 f) vs vs1 σ H Q := by
  refine fun b m ow H σ e S Q t0 q => hi b m ow H σ e S _ t0 ?_
  unfold lComp2 at q
  cases r : it e S with
  | no => rw [r] at q; exact q.elim
  | er x S1 => rw [r] at q; exact q
  | ok ds S1 =>
    rw [r, ok_bind] at q
    intro J m1 H1 f1 c1 rJ D hD
    obtain ⟨G, Y, wk, hG, hY⟩ := rJ
    split at q
    · rename_i hno
      have tb0 := t0.go f1 c1
      have hD0 : Fr b.H0 D := tb0.fut.dom D (.none hD)
      have tw := wipe_at tb0 vs hno
      have th : At K ⟨fun x => b.B x ∨ x = D, b.m0, b.H0, b.sf⟩ m1 ow (L2.upd H1 D (.lst [])) (wipe σ vs) (clr vs e) S1 := tw.hideB hD fun _ z => by cases z
      have le1 : ∀ {m' : List Addr} {H' : Hp}, Fut m1 H1 m' H' → Le (wo K b.B m1 ow H1) (wo K (fun x => b.B x ∨ x = D) m' ow H') := fun {m' H'} f' => by
        refine ⟨rfl, fun a o e n z => ?_, fun n a e => f'.le (K := K) (B := b.B) (ow := ow) |>.m n a e, fun a o e n z => f'.keep a o e n fun hm => z (.inr (.inl hm))⟩
        have z2 := f'.le (K := K) (B := b.B) (ow := ow) |>.z a o e n z
        rintro ((h | h) | h | h)
        · exact z2 (.inl h)
        · have e : H1 a = some o := e
          rw [h, hD] at e; cases e
        · exact z2 (.inr (.inl h))
        · exact z2 (.inr (.inr h))
      let Kn : List Addr → Hp → List Sh.D → Prop := fun m' H' acc => ∃ vs', Fut m1 H1 m' H' ∧ H' D = some (.lst vs') ∧ Reps (wo K (fun x => b.B x ∨ x = D) m' ow H') acc vs'
      let Pv : Nat → Hp → Prop := fun i H' => ∃ m' S' acc, At K ⟨fun x => b.B x ∨ x = D, b.m0, b.H0, b.sf⟩ m' ow H' (wipe σ vs) (clr vs e) S' ∧ Kn m' H' acc ∧ acc.length ≤ sizeLine ∧
        PostF K b.B ow m H (fun c d => W c d σ) Q (mapB g t it1 vs1 g1 t1 f acc (ds.drop i) (clr vs e) S').clean
      have kn : ∀ {m' m2 : List Addr} {H' H2 : Hp} {S' : Store} {acc : List Sh.D}, Kn m' H' acc → Fut m' H' m2 H2 → Cells K (fun x => b.B x ∨ x = D) m' ow H' S' → Kn m2 H2 acc := fun {m' m2 H' H2 S' acc} ⟨vs', f', hv, ra⟩ f2 c =>
        ⟨vs', f'.trans f2, f2.keep D _ hv (fun _ z => by cases z) fun hm => c.nB D (.inl hm) (.inr rfl), Reps.le f2.le _ ra⟩
      refine in_it wk Pv ⟨m1, S1, [], th, ⟨[], Fut.same (same_mut (Same.refl _) hD), upd_same, reps_nil⟩, Nat.zero_le _, by simpa using q⟩ ?_ ?_ ?_
      · rintro i H' hi ⟨m', S', acc, t', ⟨vs', f', _⟩, _⟩
        exact hG (wo K (fun x => b.B x) m' ow H') f'.le
      · rintro i x H' H2 hi ⟨m', S', acc, t', k', hal, q⟩ y
        have hd : ds[i]? = some ds[i] := List.getElem?_eq_getElem hi
        have f' : Fut m1 H1 m' H' := by obtain ⟨vs', f', _⟩ := k'; exact f'
        obtain ⟨s2, rd⟩ := hY i ds[i] _ x H2 hd (le1 f') t'.cells.full y
        have t2 := t'.same s2
        have k2 : Kn m' H2 acc := kn k' (Fut.same s2) t'.cells
        rw [List.drop_eq_getElem_cons hi] at q
        unfold mapB at q
        refine ⟨_, m', ow, clr vs e, S', ds[i], t2, rd, ?_⟩
        cases qg : g ds[i] (clr vs e) with
        | none => rw [qg] at q; exact q.elim
        | some e1 =>
          rw [qg] at q
          dsimp only at q ⊢
          intro σ2 t3 hw
          rw [wipe_wipe] at hw
          refine ⟨hw, ?_⟩
          refine ⟨⟨fun x => b.B x ∨ x = D, b.m0, b.H0, b.sf⟩, m', ow, e1, S', t3, ?_⟩
          cases rt : t e1 S' with
          | no => rw [rt] at q; exact q.elim
          | er x S3 => rw [rt] at q; exact q.elim
          | ok c S3 =>
            rw [rt, ok_bind] at q
            intro c' m3 H3 f3 c3 ec
            obtain rfl : c' = c := ec
            have k3 : Kn m3 H3 acc := kn k2 f3 t2.cells
            cases c' with
            | false =>
              rw [if_neg Bool.false_ne_true] at q ⊢
              exact ⟨m3, S3, acc, t2.go f3 c3, k3, hal, q⟩
            | true =>
              rw [if_pos rfl] at q ⊢
              refine ⟨⟨fun x => b.B x ∨ x = D, b.m0, b.H0, b.sf⟩, m3, ow, e1, S3, t3.go f3 c3, ?_⟩
              cases ri : it1 e1 S3 with
              | no => rw [ri] at q; exact q.elim
              | er x S4 => rw [ri] at q; exact q.elim
              | ok ds1 S4 =>
                rw [ri, ok_bind] at q
                intro J1 m4 H4 f4 c4 rJ1
                obtain ⟨G1, Y1, wk1, hG1, hY1⟩ := rJ1
                split at q
                · rename_i hc1
                  have t4 := (t3.go f3 c3).go f4 c4
                  have ti4 := (t2.go f3 c3).go f4 c4
                  have k4 : Kn m4 H4 acc := kn k3 f4 c3
                  have tw4 := wipe_at t4 vs1 hc1.2
                  let Pj : Nat → Hp → Prop := fun j H' => ∃ m' S' acc', At K ⟨fun x => b.B x ∨ x = D, b.m0, b.H0, b.sf⟩ m' ow H' (wipe σ2 vs1) (clr vs1 e1) S' ∧ At K ⟨fun x => b.B x ∨ x = D, b.m0, b.H0, b.sf⟩ m' ow H' (wipe σ vs) (clr vs e) S' ∧ Kn m' H' acc' ∧ acc'.length ≤ acc.length + j ∧
                    Le (wo K (fun x => b.B x ∨ x = D) m4 ow H4) (wo K (fun x => b.B x ∨ x = D) m' ow H') ∧
                    PostF K b.B ow m H (fun c d => W c d σ) Q ((mapA g1 t1 f acc' (ds1.drop j) (clr vs1 e1) S').bind fun acc2 S3 => mapB g t it1 vs1 g1 t1 f acc2 (ds.drop (i + 1)) (clr vs e) S3).clean
                  refine in_it wk1 Pj ⟨m4, S4, acc, tw4, ti4, k4, Nat.le_refl _, Le.refl _, by simpa using q⟩ ?_ ?_ ?_
                  · rintro j H' hj ⟨m', S', acc', _, _, _, _, le', _⟩
                    exact hG1 _ le'
                  · rintro j x H5 H6 hj ⟨m5, S5, acc5, ta, tb, k5, hl5, le5, q⟩ y1
                    have hd1 : ds1[j]? = some ds1[j] := List.getElem?_eq_getElem hj
                    obtain ⟨s6, rd6⟩ := hY1 j ds1[j] _ x H6 hd1 le5 ta.cells.full y1
                    have ta6 := ta.same s6
                    have tb6 := tb.same s6
                    have k6 : Kn m5 H6 acc5 := kn k5 (Fut.same s6) ta.cells
                    have le6 := le5.trans (Fut.same s6 (m := m5)).le
                    rw [List.drop_eq_getElem_cons hj] at q
                    unfold mapA at q
                    refine ⟨_, m5, ow, clr vs1 e1, S5, ds1[j], ta6, rd6, ?_⟩
                    cases qg1 : g1 ds1[j] (clr vs1 e1) with
                    | none => rw [qg1] at q; exact q.elim
                    | some e2 =>
                      rw [qg1] at q
                      dsimp only at q ⊢
                      intro σ3 t7 hw1
                      rw [wipe_wipe] at hw1
                      refine ⟨hw1, ?_⟩
                      refine ⟨⟨fun x => b.B x ∨ x = D, b.m0, b.H0, b.sf⟩, m5, ow, e2, S5, t7, ?_⟩
                      cases rt1 : t1 e2 S5 with
                      | no => rw [rt1] at q; exact q.elim
                      | er x S3 => rw [rt1] at q; exact q.elim
                      | ok c S8 =>
                        rw [rt1, ok_bind] at q
                        intro c' m8 H8 f8 c8 ec
                        obtain rfl : c' = c := ec
                        have k8 : Kn m8 H8 acc5 := kn k6 f8 ta6.cells
                        have le8 := le6.trans f8.le
                        cases c' with
                        | false =>
                          rw [if_neg Bool.false_ne_true] at q ⊢
                          exact ⟨m8, S8, acc5, ta6.go f8 c8, tb6.go f8 c8, k8, Nat.le_succ_of_le hl5, le8, q⟩
                        | true =>
                          rw [if_pos rfl] at q ⊢
                          refine ⟨⟨fun x => b.B x ∨ x = D, b.m0, b.H0, b.sf⟩, m8, ow, e2, S8, t7.go f8 c8, ?_⟩
                          cases rf : f e2 S8 with
                          | no => rw [rf] at q; exact q.elim
                          | er x S9 => rw [rf] at q; exact q.elim
                          | ok y9 S9 =>
                            rw [rf, ok_bind] at q
                            intro v m9 H9 f9 c9 ry
                            obtain ⟨vs9, fa, fD, ra9⟩ := kn k8 f9 c8
                            have tn1 := ((ta6.go f8 c8).go f9 c9).hid_upd (o := .lst (vs9 ++ [v])) hD0 (fun _ z => by cases z) ⟨_, fD, (fun _ z => by cases z), (fun _ z => by cases z)⟩
                            have tn2 := ((tb6.go f8 c8).go f9 c9).hid_upd (o := .lst (vs9 ++ [v])) hD0 (fun _ z => by cases z) ⟨_, fD, (fun _ z => by cases z), (fun _ z => by cases z)⟩
                            have le10 : Le (wo K (fun x => b.B x ∨ x = D) m9 ow H9) (wo K (fun x => b.B x ∨ x = D) m9 ow (L2.upd H9 D (.lst (vs9 ++ [v])))) := ⟨rfl, fun _ _ _ _ h => h, fun _ _ h => h, fun x u h _ z => by
                              show L2.upd H9 D _ x = some u
                              rw [upd_ne (fun q => z (.inl (.inr q)))]
                              exact h⟩
                            have hv9 : vs9.length = acc5.length := reps_len ra9
                            refine ⟨vs9, fD, by omega, m9, S9, acc5 ++ [y9], tn1, tn2, ⟨vs9 ++ [v], ?_, upd_same, reps_app (Reps.le le10 _ ra9) (reps_cons (Rep.le le10 y9 ry) reps_nil)⟩, by rw [List.length_append, List.length_singleton]; omega, le8.trans (f9.le.trans le10), q⟩
                            refine ⟨fa.pre, fun a o ea n hm => ?_, fun a ha => ?_⟩
                            · rw [upd_ne (ne_of_none ea hD)]
                              exact fa.keep a o ea n hm
                            · exact fa.dom a (ha.upd fun _ z => by cases z)
                  · rintro H' ⟨m', S', acc', ta, tb, k', hl', le', q⟩
                    rw [List.drop_length] at q
                    exact ⟨m', S', acc', tb, k', Nat.le_trans hl' hc1.1, q⟩
                · exact q.elim
      · rintro H' ⟨m', S', acc, t', ⟨vs', f', hv, ra⟩, hal, q⟩
        rw [List.drop_length] at q
        have hl : vs'.length ≤ sizeLine := by rw [reps_len ra]; exact hal
        exact q D vs' m' H' (f1.trans f') (f1.dom D (.none hD)) t'.cells (fun z => t'.cells.nB D (by
          rcases z with z | z
          · exact absurd z (fun z => tb0.cells.hB D z (.none hD))
          · exact z) (.inr rfl)) hv hl ra
    · exact q.elim
variable {scope : Scope} {own : List (Str × Nat)} {vs1 : List Nat}
theorem f_comp2 (hc : X.calm = true) (hN : X.N.Nodup) (hi : Ei K X W tg iter it) (ok : BlkOk X.N X.env.scope scope own) (hv : ∀ i ∈ vs1, i ∈ own.map (·.2))
    (hg : ∀ (s : Shared) (H : Hp) (C : Addr) (cl : List (Str × Addr)) (fp : List Addr), Eg K (X.blk s H scope (compEnvC scope cl C X.env) fp) (own.map (·.2)) tg g) (ht : ∀ (s : Shared) (H : Hp) (C : Addr) (cl : List (Str × Addr)) (fp : List Addr), Ets K (X.blk s H scope (compEnvC scope cl C X.env) fp) W0 ifs t)
    (hi1 : ∀ (s : Shared) (H : Hp) (C : Addr) (cl : List (Str × Addr)) (fp : List Addr), Ei K (X.blk s H scope (compEnvC scope cl C X.env) fp) W0 tg1 iter1 it1)
    (hg1 : ∀ (s : Shared) (H : Hp) (C : Addr) (cl : List (Str × Addr)) (fp : List Addr), Eg K (X.blk s H scope (compEnvC scope cl C X.env) fp) vs1 tg1 g1) (ht1 : ∀ (s : Shared) (H : Hp) (C : Addr) (cl : List (Str × Addr)) (fp : List Addr), Ets K (X.blk s H scope (compEnvC scope cl C X.env) fp) W0 ifs1 t1)
    (he : ∀ (s : Shared) (H : Hp) (C : Addr) (cl : List (Str × Addr)) (fp : List Addr), Ev K (X.blk s H scope (compEnvC scope cl C X.env) fp) W0 elt f) (hs : ∀ x, foldedSetIterable iter X.env x = pure x := by intro _; rfl) (hs1 : ∀ env x, foldedSetIterable iter1 env x = pure x := by intro _ _; rfl) :
    Ef K X W (.ListComp elt [⟨tg, iter, ifs, 0⟩, ⟨tg1, iter1, ifs1, 0⟩] scope pos) (lComp2 (own.map (·.2)) it g t it1 vs1 g1 t1 f) := by
  obtain ⟨wi, p1, h1⟩ := hi.run
  exact ⟨_, pe_lc2 hc hN p1 ok hv (fun s H C cl fp => (hg s H C cl fp).canon) (fun s H C cl fp => (ht s H C cl fp).canon) (fun s H C cl fp => (hi1 s H C cl fp).canon) (fun s H C cl fp => (hg1 s H C cl fp).canon) (fun s H C cl fp => (ht1 s H C cl fp).canon) (fun s H C cl fp => (he s H C cl fp).canon) hs hs1, lc2_rd h1⟩
end
end Sh
namespace Sh
open PySem PySem.Spec PyProof.Rows L2 Nk StX
variable [TabSet] [BasePred]
def eCf (c : String) (F : List D → Store → R D) (g : Sx D) (a : Sx (List D)) (e : En) (S : Store) : R D := (g e S).bind fun d S1 => match d with
  | .cls c' => if c' = c then (a e S1).bind fun ds S2 => F ds S2 else .no
  | _ => .no
section
variable {K : PySem.W.Frag} {X : Cx} {W : WX} {ex ex2 : Expr} {es : List Expr} {g : Sx D} {a : Sx (List D)} {c : String} {F : List D → Store → R D} {m : Str} {fa : Addr} {lv j : Nat} {sp : Sp} {pos apos : Pos} {pl : Sem Bool}
theorem x_cf0 (hK : X.K = K) (ho : Ev K X W ex2 g) (r : ClX.CRead K (He.ga K c) (.type "type")) (hc : CFn K (He.ga K c) m fa) (hF : Fs X.prog X.w K X.mg X.base fa lv sp) (hs : Shp K sp F) (hr : Room j X.A) (hk : lv ≤ j) (tk : Takes X W)
    (ht : eval (.Call (.Attribute ex2 m apos) [] [] pos) X.env = (do
      let ov ← eval ex2 X.env
      standAt apos.atName
      let (f, first) ← holding [ov] (getMethod ov m pl)
      callWith pos f first (backTo pos (starEach [] X.env)) (backToKw pos (keywordEach [] X.env))) := by rfl) : Ev K X W (.Call (.Attribute ex2 m apos) [] [] pos) (eCf c F g aNil) := by
  subst hK
  obtain ⟨tb, p2, h2⟩ := ho.run
  refine ⟨_, pe_cfW0 p2 r hc hF hr hk tk ht, fun b m ow H σ e S Q t q0 => h2 b m ow H σ e S _ t (Post.bind q0 fun d S1 v m1 H1 f1 c1 rx q => ?_)⟩
  cases d <;> try exact q.elim
  rename_i c'
  dsimp only at q
  split at q
  · rename_i hc'
    subst hc'
    unfold Rep at rx
    exact ⟨rx, hs.at c1 reps_nil q⟩
  · exact q.elim
end
end Sh
namespace Nk
open PySem PySem.Spec PyProof.Rows L2
def nxRd (J : It) (g : TG) (tt : TT) (te : TE) (σ0 : L2.St) (vs : List Nat) (W : Nat → Nat → Hp → Prop) (Q : VK) : Prop := ∀ i m H, W i m H →
  (J.stop i H ∧ Q .non H) ∨ (J.go i H ∧ ∃ Nx : Hp → Prop, (∀ H', Nx H' → ∃ m', m' < m ∧ W (i + 1) m' H') ∧ ∀ x H', J.yld i H x H' → g x σ0 H' fun σ2 H2 => wipe σ2 vs = σ0 ∧ tt σ2 H2 fun b H3 =>
    if b = true then te σ2 H3 Q else Nx H3)
theorem wipe_at {σ : L2.St} {j : Nat} : ∀ {vs : List Nat}, j ∈ vs → (wipe σ vs)[j]? = if j < σ.length then some none else none
  | [], h => nomatch h
  | v :: vs, h => by
    unfold wipe
    by_cases e : v = j
    · subst e
      by_cases hl : v < σ.length
      · rw [List.getElem?_set_self (by rw [wipe_length]; exact hl), if_pos hl]
      · rw [List.getElem?_eq_none (by rw [List.length_set, wipe_length]; omega), if_neg hl]
    · rw [List.getElem?_set_ne e]
      exact wipe_at ((List.mem_cons.mp h).elim (fun z => absurd z.symm e) id)
def tNext (T : List (Addr × Str)) (wi : TI) (g : TG) (tt : TT) (te : TE) (vs : List Nat) : TE := fun σ H Q => wi σ H fun J H1 => LamX.Tabs T H1 ∧ ∀ H2, LamX.ExtN H1 H2 → LamX.Tabs T H2 → ∃ W m0, W 0 m0 H2 ∧ nxRd J g tt te (wipe σ vs) vs W Q
end Nk
namespace Sh
open PySem PySem.Spec PyProof.Rows L2 Nk StX
variable [TabSet] [BasePred]
def D.key : D → Option Key
  | .int i => some (.inl i)
  | .str x => some (.inr x)
  | _ => none
def keyD : Key → D
  | .inl i => .int i
  | .inr x => .str x
section
variable {K : PySem.W.Frag} {B : Addr → Prop} {m : List Addr} {ow : List (Option Addr)} {H : Hp} {S : Store} {w : Wo}
theorem key_rep {d : D} {v : V} {k : Key} (r : Rep w d v) (h : d.key = some k) : v = kV k := by
  cases d <;> unfold D.key at h <;> try cases h
  · unfold Rep at r; subst r; rfl
  · unfold Rep at r; obtain ⟨rfl, _⟩ := r; rfl
theorem key_fit {d : D} {v : V} {k : Key} (r : Rep w d v) (h : d.key = some k) : KFit k := by
  cases d <;> unfold D.key at h <;> try cases h
  · exact fun x e => nomatch e
  · unfold Rep at r
    obtain ⟨_, l⟩ := r
    exact fun x e => by cases e; exact l
theorem rep_keyD {k : Key} (h : KFit k) : Rep w (keyD k) (kV k) := by
  cases k with
  | inl i => exact rep_int
  | inr x => exact rep_str (h x rfl)
end
end Sh
namespace Sh
open PySem PySem.Spec PyProof.Rows L2 Nk StX
variable [TabSet] [BasePred]
section
variable (K : PySem.W.Frag) (B : Addr → Prop) (ow : List (Option Addr))
def PostFD (m : List Addr) (H : Hp) (W : Value → Option Addr → Hp → Prop) (Q : VK) : R (List (Key × D)) → Prop
  | .ok kvs S' => ∀ p vs m' H', Fut m H m' H' → Fr H p → Cells K (fun x => B x ∨ x = p) m' ow H' S' → ¬ zf B m' ow p → H' p = some (.dK vs) → RepK (wo K (fun x => B x ∨ x = p) m' ow H') kvs vs → Q (.ref p) H'
  | .er x S' => ∀ c d m' H', Fut m H m' H' → Cells K B m' ow H' S' → ExR (wo K B m' ow H') x c d → W c d H'
  | .no => False
end
abbrev RK := R (List (Key × D))
structure Efd (K : PySem.W.Frag) (X : Cx) (W : WX) (ex : Expr) (f : Sx (List (Key × D))) : Prop where
  run : ∃ te, PE X ex te ∧ ∀ b m ow H σ e S Q, At K b m ow H σ e S → PostFD K b.B ow m H (fun c d => W c d σ) Q (f e S) → te σ H Q
section
variable {K : PySem.W.Frag} {B : Addr → Prop} {ow : List (Option Addr)} {m m' : List Addr} {H H' : Hp} {S : Store} {p : Addr}
theorem Cells.hid_upd {o : HO} (c : Cells K (fun x => B x ∨ x = p) m ow H S) (ho : ∀ ps, o ≠ .tbl ps) (hp1 : ∃ o, H p = some o ∧ (∀ ps, o ≠ .tbl ps) ∧ ∀ φ, o ≠ .ext φ) (hto : ∀ xs, o ≠ .tup xs := by intro _ z; cases z) : Cells K (fun x => B x ∨ x = p) m ow (L2.upd H p o) S := by
  have keep : ∀ x u, x ≠ p → H x = some u → L2.upd H p o x = some u := fun x u n h => by rw [upd_ne n]; exact h
  have dom : ∀ x, Fr (L2.upd H p o) x → Fr H x := fun x h => h.upd ho
  have le : Le (wo K (fun x => B x ∨ x = p) m ow H) (wo K (fun x => B x ∨ x = p) m ow (L2.upd H p o)) := ⟨rfl, fun _ _ _ _ h => h, fun _ _ h => h, fun x u h _ z => keep x u (fun q => z (.inl (.inr q))) h⟩
  have nm : ∀ x, x ∈ m ∨ some x ∈ ow → x ≠ p := fun x hx q => c.nB x hx (.inr q)
  exact ⟨fun x hx q => c.hB x hx (dom x q), c.nd, c.no, c.nB, c.od, fun x hx q => c.oh x hx (dom x q), c.len, fun n x y h1 h2 => (c.cs n x y h1 h2).le le fun u e _ => keep x u (nm x (.inl (List.mem_of_getElem? h1))) e, tabs_keep c.tb hp1 keep, fun x z xs hx => if e : x = p then hto xs (by rw [e, upd_same] at hx; exact Option.some.inj hx) else c.ntK1 keep x z e xs hx⟩
theorem fut_new {o : HO} (f : Fut m H m' H') (hp : Fr H p) (ho : ∀ ps, o ≠ .tbl ps) : Fut m H m' (L2.upd H' p o) := by
  refine ⟨f.pre, fun a u ea n hm => ?_, fun a ha => f.dom a (ha.upd ho)⟩
  rw [upd_ne (fun q => hp.no (by rw [← q]; exact ea) n)]
  exact f.keep a u ea n hm
theorem le_unhid {o : HO} : Le (wo K (fun x => B x ∨ x = p) m ow H) (wo K B m ow (L2.upd H p o)) := ⟨rfl, fun a u _ _ z => by
  rintro (q | q | q)
  · exact z (.inl (.inl q))
  · exact z (.inr (.inl q))
  · exact z (.inr (.inr q)), fun _ _ e => e, fun a u e _ z => by
  show L2.upd H p o a = some u
  rw [upd_ne (fun q => z (.inl (.inr q)))]
  exact e⟩
end
def eNewD (f : Sx (List (Key × D))) (e : En) (S : Store) : R D := (f e S).bind fun kvs S1 => .ok (.fk kvs) S1
section
variable {K : PySem.W.Frag} {X : Cx} {W : WX} {ex ex2 : Expr} {f : Sx D} {l : Sx (List (Key × D))} {pos p pos' apos : Pos} {i : Nat} {x : Str}
theorem x_newD (h : Efd K X W ex l) : Ev K X W ex (eNewD l) := by
  obtain ⟨te, p1, h1⟩ := h.run
  refine ⟨_, pe_lockV p1, fun b m ow H σ e S Q t q => h1 b m ow H σ e S _ t ?_⟩
  unfold eNewD at q
  cases r : l e S with
  | no => rw [r] at q; exact q.elim
  | er x S1 => rw [r] at q; exact q
  | ok kvs S1 =>
    rw [r] at q
    refine fun p vs m1 H1 f1 hp c1 z hv rk => ⟨p, _, rfl, hv, True.intro, fun od => ?_⟩
    have c2 := (c1.hid_upd (o := .frz od (.dK vs)) (fun _ z => by cases z) ⟨_, hv, (fun _ z => by cases z), (fun _ z => by cases z)⟩).unhide
    refine q _ m1 _ (fut_new f1 hp fun _ z => by cases z) c2 ?_
    show Rep _ (.fk kvs) (.ref p)
    unfold Rep
    exact ⟨p, od, vs, rfl, z, upd_same, RepK.le le_unhid kvs rk⟩
def kNil (e : En) (S : Store) : RK := .ok [] S
theorem PostFD.new {B : Addr → Prop} {ow : List (Option Addr)} {m : List Addr} {H : Hp} {S : Store} {W : Value → Option Addr → Hp → Prop} {Q : VK} {kvs : List (Key × D)} {vs : List (Key × V)} {p : Addr} (h : PostFD K B ow m H W Q (.ok kvs S)) (c : Cells K B m ow H S) (r : RepK (wo K B m ow H) kvs vs) (hp : H p = none) : Q (.ref p) (upd H p (.dK vs)) := by
  have hf : ¬ zf B m ow p := fun z => c.full p z (.none hp)
  exact h p vs m _ (Fut.same (same_mut (Same.refl _) hp)) (.none hp) (c.hide hp hf fun _ z => by cases z) hf upd_same (RepK.le (le_hide hp) kvs r)
theorem PostFD.go {B : Addr → Prop} {ow : List (Option Addr)} {m m' : List Addr} {H H' : Hp} {W : Value → Option Addr → Hp → Prop} {Q : VK} {r : RK} (h : PostFD K B ow m H W Q r) (f : Fut m H m' H') : PostFD K B ow m' H' W Q r := by
  cases r with
  | ok y S' => exact fun p vs m2 H2 f2 hp => h p vs m2 H2 (f.trans f2) (f.dom p hp)
  | er x S' => exact fun c d m2 H2 f2 => h c d m2 H2 (f.trans f2)
  | no => exact h
theorem fd_nil : Efd K X W (.Dict [] [] pos) kNil := by
  refine ⟨_, pe_dnewK, fun b m ow H σ e S Q t q p hp => ?_⟩
  have q : PostFD K b.B ow m H (fun c d => W c d σ) Q (.ok [] S) := q
  exact q.new t.cells (by unfold RepK; rfl) hp
end
end Sh
namespace Sh
open PySem PySem.Spec PyProof.Rows L2 Nk StX
variable [TabSet] [BasePred]
mutual
def D.low (n : Nat) : D → Bool
  | .tup xs => D.lows n xs
  | .lst xs => D.lows n xs
  | .scr xs => D.lows n xs
  | .tpl xs => D.lows n xs
  | .obj _ fs => D.lowF n fs
  | .exc _ fs => D.lowF n fs
  | .dk kvs => D.lowK n kvs
  | .fk kvs => D.lowK n kvs
  | .dt kvs => D.lowT n kvs
  | .ft kvs => D.lowT n kvs
  | .ref k => decide (k < n)
  | _ => true
def D.lows (n : Nat) : List D → Bool
  | [] => true
  | d :: ds => d.low n && D.lows n ds
def D.lowF (n : Nat) : List (Str × D) → Bool
  | [] => true
  | (_, d) :: ds => d.low n && D.lowF n ds
def D.lowK (n : Nat) : List (Key × D) → Bool
  | [] => true
  | (_, d) :: ds => d.low n && D.lowK n ds
def D.lowT (n : Nat) : List (List Key × D) → Bool
  | [] => true
  | (_, d) :: ds => d.low n && D.lowT n ds
end
def Cell.low (n : Nat) : Cell → Bool
  | .lst ds => D.lows n ds
  | .ins _ fs => D.lowF n fs
  | .dk kvs => D.lowK n kvs
  | .dt kvs => D.lowT n kvs
  | .fk kvs => D.lowK n kvs
  | .ft kvs => D.lowT n kvs
def Sl.low (n : Nat) : Sl → Bool
  | .no => true
  | .val d => d.low n
  | .own c => c.low n
structure LowLe (n : Nat) (w w' : Wo) : Prop where
  K : w'.K = w.K
  z : ∀ a, ¬ w.Z a → ¬ w'.Z a
  H : w'.H = w.H
  m : ∀ k a, k < n → w.m[k]? = some a → w'.m[k]? = some a
section
variable {n : Nat} {w w' : Wo}
theorem TrS.low (l : LowLe n w w') {a : Addr} {vs : List V} (h : TrS w a vs) : TrS w' a vs := by
  obtain ⟨h, g⟩ := h
  refine ⟨?_, g⟩
  rw [l.K, l.H]
  exact h.imp (fun q => ⟨l.z _ q.1, q.2⟩) id
theorem TrT.low (l : LowLe n w w') {a : Addr} {vs : List V} (h : TrT w a vs) : TrT w' a vs := ⟨⟨l.z _ h.1.1, by rw [l.H]; exact h.1.2⟩, h.2⟩
mutual
theorem rep_low (l : LowLe n w w') : ∀ (d : D) {v : V}, d.low n = true → Rep w d v → Rep w' d v
  | .non, _, _, h => by unfold Rep at h ⊢; exact h
  | .bl _, _, _, h => by unfold Rep at h ⊢; exact h
  | .int _, _, _, h => by unfold Rep at h ⊢; exact h
  | .str _, _, _, h => by unfold Rep at h ⊢; exact h
  | .ty _, _, _, h => by unfold Rep at h ⊢; exact h
  | .cls _, _, _, h => by unfold Rep at h ⊢; rw [l.K]; exact h
  | .adr _, _, _, h => by unfold Rep at h ⊢; exact h
  | .ref k, _, q, h => by
    unfold D.low at q
    unfold Rep at h ⊢
    obtain ⟨a, e, hm⟩ := h
    exact ⟨a, e, l.m k a (of_decide_eq_true q) hm⟩
  | .tup ds, _, q, h => by
    unfold D.low at q
    unfold Rep at h ⊢
    obtain ⟨a, vs, e, t, r⟩ := h
    exact ⟨a, vs, e, t.low l, reps_low l ds q r⟩
  | .lst ds, _, q, h => by
    unfold D.low at q
    unfold Rep at h ⊢
    obtain ⟨a, vs, e, ⟨z, t, g⟩, r⟩ := h
    exact ⟨a, vs, e, ⟨l.z _ z, by rw [l.H]; exact t, g⟩, reps_low l ds q r⟩
  | .scr ds, _, q, h => by
    unfold D.low at q
    unfold Rep at h ⊢
    obtain ⟨a, vs, e, t, r⟩ := h
    exact ⟨a, vs, e, t.low l, reps_low l ds q r⟩
  | .obj c fs, _, q, h => by
    unfold D.low at q
    unfold Rep at h ⊢
    rw [l.K, l.H]
    obtain ⟨a, dx, gs, e, z, t, r⟩ := h
    exact ⟨a, dx, gs, e, l.z _ z, t, repF_low l fs q r⟩
  | .exc c fs, _, q, h => by
    unfold D.low at q
    unfold Rep at h ⊢
    rw [l.K, l.H]
    obtain ⟨a, d, gs, e, z, t, z2, t2, r⟩ := h
    exact ⟨a, d, gs, e, l.z _ z, t, l.z _ z2, t2, repF_low l fs q r⟩
  | .dk kvs, _, q, h => by
    unfold D.low at q
    unfold Rep at h ⊢
    rw [l.H]
    obtain ⟨a, vs, e, z, t, r⟩ := h
    exact ⟨a, vs, e, l.z _ z, t, repK_low l kvs q r⟩
  | .fk kvs, _, q, h => by
    unfold D.low at q
    unfold Rep at h ⊢
    rw [l.H]
    obtain ⟨a, o, vs, e, z, t, r⟩ := h
    exact ⟨a, o, vs, e, l.z _ z, t, repK_low l kvs q r⟩
  | .dt kvs, _, q, h => by
    unfold D.low at q
    unfold Rep at h ⊢
    rw [l.H]
    obtain ⟨a, vs, e, z, t, r⟩ := h
    exact ⟨a, vs, e, l.z _ z, t, repT_low l kvs q r⟩
  | .tpl ds, _, q, h => by
    unfold D.low at q
    unfold Rep at h ⊢
    rw [l.H]
    obtain ⟨a, o, vs, e, z, t, g, r⟩ := h
    exact ⟨a, o, vs, e, l.z _ z, t, g, reps_low l ds q r⟩
  | .ft kvs, _, q, h => by
    unfold D.low at q
    unfold Rep at h ⊢
    rw [l.H]
    obtain ⟨a, o, vs, e, z, t, r⟩ := h
    exact ⟨a, o, vs, e, l.z _ z, t, repT_low l kvs q r⟩
theorem reps_low (l : LowLe n w w') : ∀ (ds : List D) {vs : List V}, D.lows n ds = true → Reps w ds vs → Reps w' ds vs
  | [], _, _, h => by unfold Reps at h ⊢; exact h
  | d :: ds, _, q, h => by
    unfold D.lows at q
    rw [Bool.and_eq_true] at q
    unfold Reps at h ⊢
    obtain ⟨v, r, e, a, b⟩ := h
    exact ⟨v, r, e, rep_low l d q.1 a, reps_low l ds q.2 b⟩
theorem repF_low (l : LowLe n w w') : ∀ (ds : List (Str × D)) {vs : List (Str × V)}, D.lowF n ds = true → RepF w ds vs → RepF w' ds vs
  | [], _, _, h => by unfold RepF at h ⊢; exact h
  | (f, d) :: ds, _, q, h => by
    unfold D.lowF at q
    rw [Bool.and_eq_true] at q
    unfold RepF at h ⊢
    obtain ⟨v, r, e, a, b⟩ := h
    exact ⟨v, r, e, rep_low l d q.1 a, repF_low l ds q.2 b⟩
theorem repK_low (l : LowLe n w w') : ∀ (ds : List (Key × D)) {vs : List (Key × V)}, D.lowK n ds = true → RepK w ds vs → RepK w' ds vs
  | [], _, _, h => by unfold RepK at h ⊢; exact h
  | (f, d) :: ds, _, q, h => by
    unfold D.lowK at q
    rw [Bool.and_eq_true] at q
    unfold RepK at h ⊢
    obtain ⟨v, r, e, ⟨g, a⟩, b⟩ := h
    exact ⟨v, r, e, ⟨g, rep_low l d q.1 a⟩, repK_low l ds q.2 b⟩
theorem repT_low (l : LowLe n w w') : ∀ (ds : List (List Key × D)) {vs : List (List Key × V)}, D.lowT n ds = true → RepT w ds vs → RepT w' ds vs
  | [], _, _, h => by unfold RepT at h ⊢; exact h
  | (f, d) :: ds, _, q, h => by
    unfold D.lowT at q
    rw [Bool.and_eq_true] at q
    unfold RepT at h ⊢
    obtain ⟨v, r, e, ⟨g, a⟩, b⟩ := h
    exact ⟨v, r, e, ⟨g, rep_low l d q.1 a⟩, repT_low l ds q.2 b⟩
end
theorem crep_low (l : LowLe n w w') {a : Addr} : ∀ {c : Cell}, c.low n = true → CRep w a c → CRep w' a c
  | .lst ds, q, h => by
    obtain ⟨vs, h, g, r⟩ := h
    exact ⟨vs, by rw [l.H]; exact h, g, reps_low l ds q r⟩
  | .ins c fs, q, h => by
    obtain ⟨dx, gs, h, r⟩ := h
    exact ⟨dx, gs, by rw [l.H, l.K]; exact h, repF_low l fs q r⟩
  | .dk kvs, q, h => by
    obtain ⟨vs, h, r⟩ := h
    exact ⟨vs, by rw [l.H]; exact h, repK_low l kvs q r⟩
  | .dt kvs, q, h => by
    obtain ⟨vs, h, r⟩ := h
    exact ⟨vs, by rw [l.H]; exact h, repT_low l kvs q r⟩
  | .fk kvs, q, h => by
    obtain ⟨vs, o, h, r⟩ := h
    exact ⟨vs, o, by rw [l.H]; exact h, repK_low l kvs q r⟩
  | .ft kvs, q, h => by
    obtain ⟨vs, o, h, r⟩ := h
    exact ⟨vs, o, by rw [l.H]; exact h, repT_low l kvs q r⟩
end
def takeBack (i n : Nat) (e : En) (S : Store) : RS := match S[n]?, e[i]? with
  | some (.lst ds), some (Sl.val (.ref k)) => if k = n ∧ S.length = n + 1 ∧ D.lows n ds = true ∧ (S.take n).all (Cell.low n) = true ∧ (e.set i .no).all (Sl.low n) = true then .nx (e.set i (.own (.lst ds))) (S.take n) else .no
  | _, _ => .no
def RS.back (i n : Nat) : RS → RS
  | .nx e S => takeBack i n e S
  | _ => .no
section
variable {K : PySem.W.Frag} {X : Cx} {W : WX} {st : Stmt} {q : Sy} {i : Nat} {b : Bs} {m m2 : List Addr} {ow ow2 : List (Option Addr)} {H H2 : Hp} {σ σ2 : L2.St} {e e2 : En} {S S2 : Store} {a : Addr}
theorem At.back {ds : List D} (t : At K b m ow H σ e S) (ha : ow[i]? = some (some a)) (le0 : Le (wo K b.B m ow H) (wo K b.B (m ++ [a]) (ow.set i none) H))
    (t2 : At K b m2 ow2 H2 σ2 e2 S2) (l2 : Le (wo K b.B (m ++ [a]) (ow.set i none) H) (wo K b.B m2 ow2 H2)) (hS : S2[S.length]? = some (.lst ds)) (he : e2[i]? = some (Sl.val (.ref S.length))) (hl : S2.length = S.length + 1)
    (h1 : D.lows S.length ds = true) (h2 : (S2.take S.length).all (Cell.low S.length) = true) (h3 : (e2.set i .no).all (Sl.low S.length) = true) :
    At K b m (ow2.set i (some a)) H2 σ2 (e2.set i (.own (.lst ds))) (S2.take S.length) ∧ Le (wo K b.B m ow H) (wo K b.B m (ow2.set i (some a)) H2) := by
  have hml : m.length = S.length := t.cells.len
  have em : m2 = m ++ [a] := by
    refine (List.ext_getElem? fun k => ?_).symm
    by_cases hk : k < (m ++ [a]).length
    · have : (m ++ [a])[k]? = some (m ++ [a])[k] := List.getElem?_eq_getElem hk
      rw [this]
      exact (l2.m k _ this).symm
    · rw [List.getElem?_eq_none (by omega), List.getElem?_eq_none (by rw [t2.cells.len, hl]; simp at hk; omega)]
  subst em
  have hi : i < e2.length := (List.getElem?_eq_some_iff.mp he).1
  have hio : i < ow2.length := by rw [t2.len.2]; exact hi
  have hn : ow2[i]? = some none := by
    cases h : ow2[i]? with
    | none => rw [List.getElem?_eq_none_iff] at h; omega
    | some o =>
      cases o with
      | none => rfl
      | some x =>
        obtain ⟨c, hc⟩ := t2.oe i x h
        rw [he] at hc
        cases hc
  have am : a ∈ m ++ [a] := List.mem_append_right _ List.mem_cons_self
  have anm : a ∉ m := fun z => t.cells.no a z (List.mem_of_getElem? ha)
  have anow : some a ∉ ow2 := t2.cells.no a am
  have msub : ∀ x, some x ∈ ow2.set i (some a) → x = a ∨ some x ∈ ow2 := fun x hx => by
    rcases List.mem_or_eq_of_mem_set hx with h | h
    · exact .inr h
    · exact .inl (Option.some.inj h)
  have ll : LowLe S.length (wo K b.B (m ++ [a]) ow2 H2) (wo K b.B m (ow2.set i (some a)) H2) := ⟨rfl, fun x z => by
    rintro (h | h | h)
    · exact z (.inl h)
    · exact z (.inr (.inl (List.mem_append_left _ h)))
    · rcases msub x h with rfl | h
      · exact z (.inr (.inl am))
      · exact z (.inr (.inr h)), rfl, fun k x hk h => by
    have h : (m ++ [a])[k]? = some x := h
    rw [List.getElem?_append_left (by omega)] at h
    exact h⟩
  have cell := t2.cells.cs S.length a (.lst ds) (by rw [← hml]; simp) hS
  have cell2 : CRep (wo K b.B m (ow2.set i (some a)) H2) a (.lst ds) := crep_low ll (c := .lst ds) h1 cell
  have nfr : ¬ Fr H2 a := fun f => by
    obtain ⟨vs, h, _⟩ := cell
    exact f.no h fun _ z => by cases z
  have c3 : Cells K b.B m (ow2.set i (some a)) H2 (S2.take S.length) := by
    refine ⟨t2.cells.hB, t.cells.nd, fun x hx z => ?_, fun x hx => ?_, fun j k x hj hk => ?_, fun x hx => ?_, by rw [List.length_take, hl]; omega, fun k x c g1 g2 => ?_, t2.cells.tb, fun x z => t2.cells.nt x (z.imp id fun h => h.elim (fun h => .inl (List.mem_append_left _ h)) fun h => (msub x h).elim (fun h => .inl (h ▸ am)) .inr)⟩
    · rcases msub x z with rfl | z
      · exact anm hx
      · exact t2.cells.no x (List.mem_append_left _ hx) z
    · rcases hx with hx | hx
      · exact t2.cells.nB x (.inl (List.mem_append_left _ hx))
      · rcases msub x hx with rfl | hx
        · exact t2.cells.nB x (.inl am)
        · exact t2.cells.nB x (.inr hx)
    · by_cases j1 : i = j
      · subst j1
        rw [List.getElem?_set_self hio] at hj
        have ex : a = x := by simpa using hj
        by_cases k1 : i = k
        · exact k1
        · rw [List.getElem?_set_ne k1] at hk
          exact (anow (ex ▸ List.mem_of_getElem? hk)).elim
      · rw [List.getElem?_set_ne j1] at hj
        by_cases k1 : i = k
        · subst k1
          rw [List.getElem?_set_self hio] at hk
          have ex : a = x := by simpa using hk
          exact (anow (ex ▸ List.mem_of_getElem? hj)).elim
        · rw [List.getElem?_set_ne k1] at hk
          exact t2.cells.od j k x hj hk
    · rcases msub x hx with rfl | hx
      · exact nfr
      · exact t2.cells.oh x hx
    · have hk : k < m.length := (List.getElem?_eq_some_iff.mp g1).1
      have lw : c.low S.length = true := List.all_eq_true.mp h2 c (List.mem_of_getElem? g2)
      rw [List.getElem?_take_of_lt (by omega)] at g2
      exact crep_low ll lw (t2.cells.cs k x c (by rw [List.getElem?_append_left hk]; exact g1) g2)
  refine ⟨⟨c3, by simpa using t2.len, fun j s hs => ?_, ?_, fun x hx => ?_, fun j x hx => ?_, fun x hx => ?_, t2.ph⟩, ⟨rfl, fun x o h n z => ?_, fun k x h => h, fun x o h n z => l2.keep x o (le0.keep x o h n z) n (le0.z x o h n z)⟩⟩
  · by_cases e1 : i = j
    · subst e1
      rw [List.getElem?_set_self hi] at hs
      cases hs
      obtain ⟨v, g1, g2⟩ := t2.slots i _ he
      unfold Rep at g2
      obtain ⟨a', rfl, g3⟩ := g2
      have g3 : (m ++ [a])[S.length]? = some a' := g3
      rw [← hml] at g3
      simp at g3
      subst g3
      exact ⟨a, g1, by rw [List.getElem?_set_self hio], cell2⟩
    · rw [List.getElem?_set_ne e1] at hs
      have lw : s.low S.length = true := List.all_eq_true.mp h3 s (List.mem_of_getElem? (i := j) (by rw [List.getElem?_set_ne e1]; exact hs))
      have h := t2.slots j s hs
      cases s with
      | no => exact True.intro
      | val d' => obtain ⟨u, g1, g2⟩ := h; exact ⟨u, g1, rep_low ll d' lw g2⟩
      | own x =>
        obtain ⟨u, g1, g2, g3⟩ := h
        exact ⟨u, g1, by rw [List.getElem?_set_ne e1]; exact g2, crep_low ll lw g3⟩
  · obtain ⟨⟨r, em, hr⟩, _, _⟩ := t.fut
    exact ⟨⟨r, em, hr⟩, t2.fut.keep, t2.fut.dom⟩
  · rcases msub x hx with rfl | hx
    · exact t.new _ (List.mem_of_getElem? ha)
    · exact t2.new x hx
  · by_cases e1 : i = j
    · subst e1
      exact ⟨_, List.getElem?_set_self hi⟩
    · rw [List.getElem?_set_ne e1] at hx ⊢
      exact t2.oe j x hx
  · obtain ⟨g1, g2, k, fs, g3⟩ := t2.sf x hx
    have n : i ≠ 0 := fun z => by
      subst z
      rw [he] at g3
      cases g3
    exact ⟨g1, by rw [List.getElem?_set_ne n]; exact g2, k, fs, by rw [List.getElem?_set_ne n]; exact g3⟩
  · exact ll.z x (l2.z x o (le0.keep x o h n z) n (le0.z x o h n z))
end
end Sh
namespace Sh
open PySem PySem.Spec PyProof.Rows L2 Nk StX
variable [TabSet] [BasePred]
def dNilEq (neg : Bool) : D → D → Option D
  | .lst xs, .lst [] => some (.bl (if neg then !xs.isEmpty else xs.isEmpty))
  | _, _ => none
end Sh
namespace Nk
open PySem PySem.Spec PyProof.Rows L2
abbrev HdT := Value × Option Nat × TS
def wTrM (K : PySem.W.Frag) (Wout : WX) (D : Ends) : List HdT → WX
  | [] => Wout
  | (c, oi, ts) :: r => fun cls d σ H => ∃ b, PySem.W.exmOne K cls c = some b ∧ (b = true → match oi with
      | some i => ∀ a, H a = none → ts { nx := fun σ' H' => D.nx (σ'.set i none) H', rt := D.rt, bk := fun σ' H' => D.bk (σ'.set i none) H', ct := fun σ' H' => D.ct (σ'.set i none) H' } (σ.set i (some (.ref a))) (upd H a (exK cls d a))
      | none => ts D σ H) ∧ (b = false → wTrM K Wout D r cls d σ H)
inductive HdsT (X : Cx) : List ExceptHandler → List HdT → Prop
  | nil : HdsT X [] []
  | named {x n : Str} {c : Value} {i : Nat} {ts : TS} {b₀ : Stmt} {suite : List Stmt} {np pos' : Pos} {hds : List ExceptHandler} {l : List HdT} (hi : X.N[i]? = some n) (hln : X.env.kindOf n = some .local) (hc : Names X x c)
      (hsu : ∀ (a : Addr) (pn : List (Addr × Obj)), PSs (X.suite a pn) (b₀ :: suite) ts) (r : HdsT X hds l) : HdsT X (.ExceptHandler (some (.Name x np)) (some n) (b₀ :: suite) pos' :: hds) ((c, some i, ts) :: l)
  | bare {x : Str} {c : Value} {ts : TS} {b₀ : Stmt} {suite : List Stmt} {np pos' : Pos} {hds : List ExceptHandler} {l : List HdT} (hc : Names X x c)
      (hsu : ∀ (a : Addr) (pn : List (Addr × Obj)), PSs (X.suite a pn) (b₀ :: suite) ts) (r : HdsT X hds l) : HdsT X (.ExceptHandler (some (.Name x np)) none (b₀ :: suite) pos' :: hds) ((c, none, ts) :: l)
section
variable {X : Cx} {body : List Stmt} {h₀ : ExceptHandler} {hds : List ExceptHandler} {l : List HdT} {pos : Pos} {tb : WX → TS} {Wout : WX}
theorem ps_try_trM (hex : X.ex = []) (hs : X.stack = X.env :: X.outer) (hf : X.env.frame = some X.env.locals) (hN : X.N.Nodup) (tk : Takes X Wout)
    (hb : ∀ (W : WX) (pn : List (Addr × Obj)) (xe : Value → Shared → Prop), Takes (X.tr pn xe) W → PassesOwn (model X.prog X.w) X.A X.env xe → PSs (X.tr pn xe) body (tb W))
    (hh : HdsT X (h₀ :: hds) l) : PS X (.Try body (h₀ :: hds) [] [] pos) (fun D σ H => tb (wTrM X.K Wout D l) D σ H) := by
  refine ⟨fun pins s σ H D I h => wpAny_Try_except ?_⟩
  have ok := I.ok
  have hfr : X.A.frames = some (X.env :: X.outer) := by rw [ok.frames, hs]
  let xe' : Value → Shared → Prop := fun e s₁ => wpAny (model X.prog X.w) X.A (noteFrame e X.env) (fun _ s₂ => wpAny (model X.prog X.w) X.A (setFlight e none) (fun _ s₃ =>
    wpAny (model X.prog X.w) X.A (handleBy e X.env (h₀ :: hds)) (SP X pins D) X.xe s₃) X.xe s₂) X.xe s₁
  have caught : Takes (X.tr (X.pn ++ pins) xe') (wTrM X.K Wout D l) := by
    rintro u s' ⟨a, B, sI, pins', σ', H', cls, d, rfl, J', nb, up, sky, na, os, ag, w⟩
    have J : Inv X pins σ' H' sI := J'.ofTry ok
    have sky' : Sky B (X.env :: X.outer) a (Zc cls d) X.env.locals s'.heap := by rw [← hs]; exact sky
    refine Sky.land Zc.steady hfr hf sky' fun h3 fl3 up3 => ?_
    have J3 : Inv X pins σ' H' { s' with heap := h3 } := J.landed nb fl3.1 (up.trans up3) os ag
    obtain ⟨oe3, vs3, he3, hz3, hd3⟩ := fl3.there
    have nst : a ∉ frs (X.env :: X.outer) := fun hm => by
      obtain ⟨_, o', e', hnf⟩ := fl3.2.2.1.mem hm
      cases e'.symm.trans he3
      exact hnf _ hd3
    have nL : a ≠ X.env.locals := fun z => nst (List.mem_filterMap.mpr ⟨X.env, List.mem_cons_self, by rw [hf, z]⟩)
    have nI : sI.heap.get? a = none := by
      cases q : sI.heap.get? a with
      | none => rfl
      | some o => exact absurd (nb a o q (by rw [hs]; exact nst)) (by rw [fl3.2.1]; simp)
    have n0 : X.s_0.heap.get? a = none := by
      cases q : X.s_0.heap.get? a with
      | none => rfl
      | some o =>
        have hx : a ∉ X.ex := by rw [hex]; exact List.not_mem_nil
        obtain ⟨o2, z⟩ := J.base.there a o q hx
        rw [nI] at z
        cases z
    have npn : ∀ p ∈ X.pn ++ pins, p.1 ≠ a := fun p hp z => by
      have := (J.pin p hp).1
      rw [z, nI] at this
      cases this
    have LT : PySem.W.Looks (model X.prog X.w) h3 (typeOf (.ref a)) cls := fun A Q E s k q => wpAny_typeOf_ref (k _ _ he3) (by rw [hz3.1]; exact q)
    have go : ∀ {hds' : List ExceptHandler} {l' : List HdT}, HdsT X hds' l' → wTrM X.K Wout D l' cls d σ' H' →
        wpAny (model X.prog X.w) X.A (handleBy (.ref a) X.env hds') (SP X pins D) X.xe { s' with heap := h3 } := by
      intro hds' l' hk
      induction hk with
      | nil =>
        intro w
        refine wpAny_handleBy_nil ?_
        obtain ⟨k1, k2, k3, oe, vs, Tr, oT, ts', he, hz, hd, h1, hr⟩ := id fl3
        unfold PySem.passOn
        refine wpAny_bind (wpAny_field he hd h1 ?_)
        rw [if_neg (show ¬ ((Value.ref Tr == Value.none) = true) from by simp)]
        have on : wpAny (model X.prog X.w) X.A (setFlight (.ref a) X.env.frame) (fun _ s4 => wpAny (model X.prog X.w) X.A (throw (.ref a) : Sem Flow) (SP X pins D) X.xe s4) X.xe { s' with heap := h3 } := by
          rw [hf]
          exact HandSPX.setFlight_upZ fl3 fun h4 hh4 up4 => wpAny_throw (tk _ _ ⟨a, B, sI, pins, σ', H', cls, d, rfl, J, nb, (up.trans up3).trans up4, .inr (.inr (by rw [hs]; exact hh4)), na, os, ag, w⟩)
        first
          | exact wpAny_bind (wpAny_pure (wpAny_bind on))
          | exact wpAny_bind on
      | @named x n c i ts b₀ suite np pos' hds2 l2 hi hln hc hsu r ih =>
        intro w
        obtain ⟨b, hb1, hyes, hno⟩ := w
        refine wpAny_handleBy_cons (codeAny_handlers_test ?_) (by intro q; cases q)
        have LM := PySem.W.exm_one (M := model X.prog X.w) J3.kIn LT hb1
        have test : ∀ {Q E : Value → Shared → Prop}, Q c { s' with heap := h3 } → wpAny (model X.prog X.w) (X.A.mark (some (.ref a))) (eval (.Name x np) X.env) Q E { s' with heap := h3 } := fun {Q E} q => by
          obtain ⟨hg, hdbg, hm | ⟨hm, hv, hnn⟩⟩ := hc
          · exact ld_glob (X := X.suite a (X.pn ++ pins)) (Inv.suiteT J3 a) hg hm q hdbg
          · exact ld_blt (X := X.suite a (X.pn ++ pins)) (Inv.suiteT J3 a) hg hm hv q hnn hdbg
        refine test (LM.here ?_)
        cases b with
        | true =>
          refine codeAny_handlers_suite_as (HandSPX.lands_againZ fl3 fun h4 fl4 up4 => ?_)
          have J4 : Inv X pins σ' H' { s' with heap := h4 } := J.landed nb fl4.1 ((up.trans up3).trans up4) os ag
          obtain ⟨oe4, vs4, he4, hz4, hd4⟩ := fl4.there
          have J5 : Inv X pins σ' (upd H' a (exK cls d a)) { s' with heap := h4 } := Inv.track J4 n0 he4 (fun v z => by rw [hd4] at z; cases z) na nL npn (exK_ok he4 hz4 hd4)
          refine store_ok (X := X.suite a (X.pn ++ pins)) (v := .ref a) (Inv.suiteT J5 a) hN hi (.inl hln) rfl (fun s5 S5 => ?_) (.inr hln)
          have gone : ∀ {σ6 : L2.St} {H6 : Hp} {s6 : Shared} {Q : Shared → Prop}, Inv (X.suite a (X.pn ++ pins)) [] σ6 H6 s6 → (∀ s7, Inv X pins (σ6.set i none) H6 s7 → Q s7) →
              wpAny (model X.prog X.w) X.A (do bindName X.env n .none; unbindBehindTheSuite X.env n pos') (fun _ s7 => Q s7) X.xe s6 := fun S6 hq => gone_ok (Inv.suiteB S6 ok) hN hi hln hq
          refine wpAny_mono ((hsu a (X.pn ++ pins)).run [] s5 _ _ _ S5 (hyes rfl a na)) (fun f s6 hsp => ?_) (fun _ _ z => False.elim z)
          match f, hsp with
          | .next, ⟨σ6, H6, S6, q6⟩ => exact gone S6 fun s7 J7 => ⟨_, _, J7, q6⟩
          | .brk, ⟨σ6, H6, S6, q6⟩ => exact gone S6 fun s7 J7 => ⟨_, _, J7, q6⟩
          | .cont, ⟨σ6, H6, S6, q6⟩ => exact gone S6 fun s7 J7 => ⟨_, _, J7, q6⟩
          | .ret u, ⟨v6, σ6, H6, S6, r6, q6⟩ => exact gone S6 fun s7 J7 => ⟨_, _, _, J7, r6, q6⟩
        | false =>
          show wpAny _ X.A (handleBy (.ref a) X.env hds2) _ _ _
          exact ih (hno rfl)
      | @bare x c ts b₀ suite np pos' hds2 l2 hc hsu r ih =>
        intro w
        obtain ⟨b, hb1, hyes, hno⟩ := w
        refine wpAny_handleBy_cons (codeAny_handlers_test ?_) (by intro q; cases q)
        have LM := PySem.W.exm_one (M := model X.prog X.w) J3.kIn LT hb1
        have test : ∀ {Q E : Value → Shared → Prop}, Q c { s' with heap := h3 } → wpAny (model X.prog X.w) (X.A.mark (some (.ref a))) (eval (.Name x np) X.env) Q E { s' with heap := h3 } := fun {Q E} q => by
          obtain ⟨hg, hdbg, hm | ⟨hm, hv, hnn⟩⟩ := hc
          · exact ld_glob (X := X.suite a (X.pn ++ pins)) (Inv.suiteT J3 a) hg hm q hdbg
          · exact ld_blt (X := X.suite a (X.pn ++ pins)) (Inv.suiteT J3 a) hg hm hv q hnn hdbg
        refine test (LM.here ?_)
        cases b with
        | true =>
          refine codeAny_handlers_suite (HandSPX.lands_againZ fl3 fun h4 fl4 up4 => ?_)
          have J4 : Inv X pins σ' H' { s' with heap := h4 } := J.landed nb fl4.1 ((up.trans up3).trans up4) os ag
          refine wpAny_mono ((hsu a (X.pn ++ pins)).run [] _ _ _ _ (Inv.suiteT J4 a) (hyes rfl)) (fun f s6 hsp => ?_) (fun _ _ z => False.elim z)
          match f, hsp with
          | .next, ⟨σ6, H6, S6, q6⟩ => exact ⟨_, _, Inv.suiteB S6 ok, q6⟩
          | .brk, ⟨σ6, H6, S6, q6⟩ => exact ⟨_, _, Inv.suiteB S6 ok, q6⟩
          | .cont, ⟨σ6, H6, S6, q6⟩ => exact ⟨_, _, Inv.suiteB S6 ok, q6⟩
          | .ret u, ⟨v6, σ6, H6, S6, r6, q6⟩ => exact ⟨_, _, _, Inv.suiteB S6 ok, r6, q6⟩
        | false =>
          show wpAny _ X.A (handleBy (.ref a) X.env hds2) _ _ _
          exact ih (hno rfl)
    exact go hh w
  refine wpAny_mono ((hb (wTrM X.K Wout D l) (X.pn ++ pins) xe' caught PassesOwn.looking).run [] s σ H D (I.toTry _) h) (fun f s1 hsp => ?_) (fun e s1 he => he)
  match f, hsp with
  | .next, ⟨σ', H', J', q⟩ => exact wpAny_execs_nil ⟨σ', H', J'.ofTry ok, q⟩
  | .brk, ⟨σ', H', J', q⟩ => exact ⟨σ', H', J'.ofTry ok, q⟩
  | .cont, ⟨σ', H', J', q⟩ => exact ⟨σ', H', J'.ofTry ok, q⟩
  | .ret u, ⟨v, σ', H', J', r, q⟩ => exact ⟨v, σ', H', J'.ofTry ok, r, q⟩
end
end Nk
namespace Sh
open PySem PySem.Spec PyProof.Rows L2 Nk StX
variable [TabSet] [BasePred]
abbrev Hd := List (String × Bool) × Option Nat × Sy
def sTryH : List Hd → Exn → En → Store → RS
  | [], x, e1, S1 => .er x e1 S1
  | (isa, oi, suite) :: r, x, e1, S1 => match isa.lookup x.c with
    | some true => (match oi with
      | some i => if notOwn i e1 then (match suite (e1.set i (.val (.exc x.c x.fs))) S1 with
        | .nx e2 S2 => if notOwn i e2 then .nx (e2.set i .no) S2 else .no
        | .rt d S2 => .rt d S2
        | _ => .no) else .no
      | none => match suite e1 S1 with
        | .nx e2 S2 => .nx e2 S2
        | .rt d S2 => .rt d S2
        | _ => .no)
    | some false => sTryH r x e1 S1
    | none => .no
def sTryM (hs : List Hd) (body : Sy) (e : En) (S : Store) : RS := match body e S with
  | .er x e1 S1 => sTryH hs x e1 S1
  | r => r
inductive HdsE (K : PySem.W.Frag) (X : Cx) : List ExceptHandler → List Hd → Prop
  | nil : HdsE K X [] []
  | named {x n : Str} {c : Value} {i : Nat} {b₀ : Stmt} {suite : List Stmt} {np pos' : Pos} {hds : List ExceptHandler} {isa : List (String × Bool)} {fs : Sy} {l : List Hd} (hi : X.N[i]? = some n) (hln : X.env.kindOf n = some .local) (hc : Names X x c) (ok : ExmOk K c isa)
      (hsu : ∀ (a : Addr) (pn : List (Addr × Obj)), Ess K (X.suite a pn) W0 (b₀ :: suite) fs) (r : HdsE K X hds l) : HdsE K X (.ExceptHandler (some (.Name x np)) (some n) (b₀ :: suite) pos' :: hds) ((isa, some i, fs) :: l)
  | bare {x : Str} {c : Value} {b₀ : Stmt} {suite : List Stmt} {np pos' : Pos} {hds : List ExceptHandler} {isa : List (String × Bool)} {fs : Sy} {l : List Hd} (hc : Names X x c) (ok : ExmOk K c isa)
      (hsu : ∀ (a : Addr) (pn : List (Addr × Obj)), Ess K (X.suite a pn) W0 (b₀ :: suite) fs) (r : HdsE K X hds l) : HdsE K X (.ExceptHandler (some (.Name x np)) none (b₀ :: suite) pos' :: hds) ((isa, none, fs) :: l)
section
variable {K : PySem.W.Frag} {X : Cx} {W : WX} {body : List Stmt} {h₀ : ExceptHandler} {hds : List ExceptHandler} {hs : List Hd} {pos : Pos} {fb : Sy}
theorem hds_go (hK : X.K = K) (h : HdsE K X hds hs) : ∃ l : List HdT, HdsT X hds l ∧ ∀ (b : Bs) (w : Wo) (D : Ends) (x : Exn) (e1 : En) (S1 : Store), PostS K b w W D (sTryH hs x e1 S1) →
    ∀ cls d σ' m' ow' H', At K b m' ow' H' σ' e1 S1 → Le w (wo K b.B m' ow' H') → ExR (wo K b.B m' ow' H') x cls d → wTrM K W D l cls d σ' H' := by
  subst hK
  induction h with
  | nil => exact ⟨[], .nil, fun b w D x e1 S1 z cls d σ' m' ow' H' t' l rx => z cls d σ' m' ow' H' t' l rx⟩
  | @named x n c i b₀ suite np pos' hds isa fs l hi hln hc ok hsu r ih =>
    obtain ⟨l', h1, h2⟩ := ih
    refine ⟨(c, some i, tsOf X.K W0 fs) :: l', .named hi hln hc (fun a pn => (hsu a pn).canon) h1, fun b w D ex e1 S1 z cls d σ' m' ow' H' t' l rx => ?_⟩
    unfold sTryH at z
    cases q : isa.lookup ex.c with
    | none => rw [q] at z; exact z.elim
    | some bb =>
      rw [q] at z
      have hx := ok _ (lookup_mem q)
      cases bb with
      | false =>
        have g := h2 b w D ex e1 S1 z cls d σ' m' ow' H' t' l rx
        obtain ⟨ec, _⟩ := rx
        subst ec
        exact ⟨false, hx, (fun z => nomatch z), fun _ => g⟩
      | true =>
        obtain ⟨ec, a0, gs, ed, hz0, hH0, rF⟩ := rx
        subst ec
        refine ⟨true, hx, fun _ a ha => ?_, fun z => nomatch z⟩
        dsimp only at z
        split at z
        · rename_i hno
          have s : Same H' (L2.upd H' a (exK (.ref (He.ga X.K ex.c)) d a)) := same_mut (Same.refl _) ha
          have t2 := t'.same s
          have rE : Rep (wo X.K b.B m' ow' (L2.upd H' a (exK (.ref (He.ga X.K ex.c)) d a))) (.exc ex.c ex.fs) (.ref a) := by
            unfold Rep
            subst ed
            exact ⟨a, a0, gs, rfl, fun z => t'.cells.full a z (.none ha), upd_same, hz0, s _ _ hH0, RepF.le (Fut.same s).le _ rF⟩
          refine ⟨b, m', ow', _, S1, t2.set' hno rE, ?_⟩
          have l2 := l.trans (Fut.same s).le
          cases r2 : fs (e1.set i (.val (.exc ex.c ex.fs))) S1 with
          | nx e2 S2 =>
            rw [r2] at z
            dsimp only at z
            split at z
            · rename_i hno2
              exact fun σ3 m3 ow3 H3 t3 l3 => z _ m3 ow3 H3 (t3.clear' hno2 none) (l2.trans l3)
            · exact z.elim
          | rt d S2 => rw [r2] at z; exact z
          | bk e' S' => rw [r2] at z; exact z.elim
          | ct e' S' => rw [r2] at z; exact z.elim
          | er x' e' S' => rw [r2] at z; exact z.elim
          | no => rw [r2] at z; exact z.elim
        · exact z.elim
  | @bare x c b₀ suite np pos' hds isa fs l hc ok hsu r ih =>
    obtain ⟨l', h1, h2⟩ := ih
    refine ⟨(c, none, tsOf X.K W0 fs) :: l', .bare hc (fun a pn => (hsu a pn).canon) h1, fun b w D ex e1 S1 z cls d σ' m' ow' H' t' l rx => ?_⟩
    unfold sTryH at z
    cases q : isa.lookup ex.c with
    | none => rw [q] at z; exact z.elim
    | some bb =>
      rw [q] at z
      have hx := ok _ (lookup_mem q)
      cases bb with
      | false =>
        have g := h2 b w D ex e1 S1 z cls d σ' m' ow' H' t' l rx
        obtain ⟨ec, _⟩ := rx
        subst ec
        exact ⟨false, hx, (fun z => nomatch z), fun _ => g⟩
      | true =>
        obtain ⟨ec, _⟩ := rx
        subst ec
        refine ⟨true, hx, fun _ => ?_, fun z => nomatch z⟩
        dsimp only at z
        refine ⟨b, m', ow', _, S1, t', ?_⟩
        cases r2 : fs e1 S1 with
        | nx e2 S2 => rw [r2] at z; exact fun σ3 m3 ow3 H3 t3 l3 => z _ m3 ow3 H3 t3 (l.trans l3)
        | rt d S2 => rw [r2] at z; exact z
        | bk e' S' => rw [r2] at z; exact z.elim
        | ct e' S' => rw [r2] at z; exact z.elim
        | er x' e' S' => rw [r2] at z; exact z.elim
        | no => rw [r2] at z; exact z.elim
theorem s_tryM (hK : X.K = K) (hex : X.ex = []) (hst : X.stack = X.env :: X.outer) (hf : X.env.frame = some X.env.locals) (hN : X.N.Nodup) (tk : Takes X W)
    (hb : ∀ (W' : WX) (pn : List (Addr × Obj)) (xe : Value → Shared → Prop), Takes (X.tr pn xe) W' → PassesOwn (model X.prog X.w) X.A X.env xe → Ess K (X.tr pn xe) W' body fb)
    (hh : HdsE K X (h₀ :: hds) hs) : Es K X W (.Try body (h₀ :: hds) [] [] pos) (sTryM hs fb) := by
  obtain ⟨l, h1, h2⟩ := hds_go (W := W) hK hh
  subst hK
  refine ⟨_, ps_try_trM (tb := fun W' => tsOf X.K W' fb) hex hst hf hN tk (fun W' pn xe tk' po => (hb W' pn xe tk' po).canon) h1, fun b m ow H σ e S D t z => ?_⟩
  refine ⟨b, m, ow, e, S, t, ?_⟩
  unfold sTryM at z
  cases r : fb e S with
  | nx e' S' => rw [r] at z; exact z
  | rt d S' => rw [r] at z; exact z
  | bk e' S' => rw [r] at z; exact z
  | ct e' S' => rw [r] at z; exact z
  | no => rw [r] at z; exact z
  | er ex e1 S1 =>
    rw [r] at z
    exact fun cls d σ' m' ow' H' t' l rx => h2 b _ D ex e1 S1 z cls d σ' m' ow' H' t' l rx
end
end Sh
namespace Sh
open PySem PySem.Spec PyProof.Rows L2 Nk StX
variable [TabSet] [BasePred]
def rgN (i j c : Int) : Nat := ((j - i + (c - 1)) / c).toNat
def iRng3 (a : Sx (List D)) (e : En) (S : Store) : R (List D) := (a e S).bind fun xs S1 => match xs with
  | [.int i, .int j, .int c] => if 0 ≤ i ∧ i ≤ j ∧ j < 1000000 ∧ 1 ≤ c ∧ c < 1000000 then .ok ((List.range (rgN i j c)).map fun k => .int (i + (k : Nat) * c)) S1 else .no
  | _ => .no
theorem itr_rngC {w : Wo} {lo c : Int} {n : Nat} : ItR w ((List.range n).map fun (i : Nat) => D.int (lo + (i : Nat) * c)) (Itc lo c n) := by
  have e : n = ((List.range n).map fun (i : Nat) => D.int (lo + (i : Nat) * c)).length := by simp
  refine ⟨_, _, cast (by rw [← e]) (walk_rangeC (lo := lo) (c := c) (n := n)), fun w' l => True.intro, fun i d w' v H' hd l _ y => ?_⟩
  obtain ⟨rfl, rfl⟩ := y
  have hi : i < n := by
    have := (List.getElem?_eq_some_iff.mp hd).1
    simpa using this
  simp only [List.getElem?_map, List.getElem?_range hi, Option.map_some] at hd
  cases hd
  exact ⟨Same.refl _, rep_int⟩
theorem rg_of {i j c : Int} (h : 0 ≤ i ∧ i ≤ j ∧ j < 1000000 ∧ 1 ≤ c ∧ c < 1000000) : RgC i j c (rgN i j c) := by
  obtain ⟨h1, h2, h3, h4, h5⟩ := h
  have e : PySem.Builtin.Range.rangeSize i j c = (j - i + (c - 1)) / c := by
    unfold PySem.Builtin.Range.rangeSize
    rw [if_pos (by omega)]
    split
    · have e : j - i + (c - 1) = (j - i - 1) + 1 * c := by omega
      rw [e, Int.add_mul_ediv_right _ _ (by omega)]
    · have : j - i + (c - 1) = c - 1 := by omega
      rw [this, Int.ediv_eq_zero_of_lt (by omega) (by omega)]
  have hs0 : 0 ≤ (j - i + (c - 1)) / c := Int.ediv_nonneg (by omega) (by omega)
  have hs1 : (j - i + (c - 1)) / c ≤ j - i + (c - 1) := Int.ediv_le_self c (by omega)
  refine ⟨by omega, by omega, ?_, ?_⟩
  · unfold Builtin.Range.small
    rw [e]
    have hf : ∀ x : Int, 0 ≤ x → x < 4000000 → Builtin.Range.rangeFitsLong x = true := by
      intro x x0 x1
      unfold Builtin.Range.rangeFitsLong
      simp only [Bool.and_eq_true, decide_eq_true_eq]
      omega
    rw [hf i (by omega) (by omega), hf j (by omega) (by omega), hf c (by omega) (by omega), hf _ hs0 (by omega), if_pos (by omega), hf _ (by omega) (by omega)]
    simp
  · rw [e]
    unfold rgN
    omega
section
variable {K : PySem.W.Frag} {X : Cx} {W : WX} {tg ex ex2 ex3 : Expr} {a : Sx (List D)} {p pos : Pos}
theorem i_rng3 (hg : Gl X "range") (hm : X.mg "range" = none) (ha : Ea K X W [ex, ex2, ex3] a) (hs : starEach [ex, ex2, ex3] X.env = (false, eval ex X.env) :: starEach [ex2, ex3] X.env := by rfl) (hpl : (backTo pos (starEach [ex2, ex3] X.env)).any (·.1) = false := by rfl) : Ei K X W tg (.Call (.Name "range" p) [ex, ex2, ex3] [] pos) (iRng3 a) := by
  obtain ⟨ta, p1, h1⟩ := ha.run
  refine ⟨_, pi_range3 hg hm p1 hs hpl, fun b m ow H σ e S Q t q => h1 b m ow H σ e S _ t (Post.bind q fun xs S1 vs m1 H1 f1 c1 rx q => ?_)⟩
  split at q
  · rename_i i j c
    unfold Reps at rx
    obtain ⟨v, r, rfl, r1, r2⟩ := rx
    unfold Reps at r2
    obtain ⟨v2, r3, rfl, r2, r4⟩ := r2
    unfold Reps at r4
    obtain ⟨v3, r5, rfl, r4, r6⟩ := r4
    unfold Reps at r6
    unfold Rep at r1 r2 r4
    subst r1 r2 r4 r6
    split at q
    · rename_i hc
      exact ⟨i, j, c, _, rfl, rg_of hc, q _ m1 H1 (Fut.refl _ _) c1 itr_rngC⟩
    · exact q.elim
  · exact q.elim
end
end Sh
namespace Sh
open PySem PySem.Spec PyProof.Rows L2 Nk StX
def prm {α : Type} (l : List Nat) (zs : List α) : List α := l.filterMap fun i => zs[i]?
variable [TabSet] [BasePred]
end Sh
namespace Nk
open PySem PySem.Spec PyProof.Rows L2
theorem vals_ati : ∀ {vs : List V} {us : List Value} (i : Nat), Vals vs us → (match vs[i]? with
    | some v => ∃ u, us[i]? = some u ∧ RelV v u
    | none => us[i]? = none)
  | _, _, _, .nil => rfl
  | _, _, 0, .cons a _ => ⟨_, rfl, a⟩
  | _, _, i + 1, .cons _ r => vals_ati i r
theorem vals_prm {vs : List V} {us : List Value} (r : Vals vs us) : ∀ l : List Nat, Vals (Sh.prm l vs) (Sh.prm l us)
  | [] => .nil
  | i :: l => by
    have a := vals_ati i r
    have ih := vals_prm r l
    unfold Sh.prm at ih ⊢
    cases h : vs[i]? with
    | none =>
      rw [h] at a
      rw [List.filterMap_cons_none h, List.filterMap_cons_none a]
      exact ih
    | some d =>
      rw [h] at a
      obtain ⟨v, e, rv⟩ := a
      rw [List.filterMap_cons_some h, List.filterMap_cons_some e]
      exact .cons rv ih
end Nk
namespace Nk
open PySem PySem.Calls PySem.Spec PyProof.Rows L2 StX LiI
structure ZlG (ps : List (Value × Value)) (lo : Addr) (h : Heap) (as : List Addr) : Prop where
  rise : as.Pairwise (· < ·)
  above : ∀ a ∈ as, lo < a
  pairs : ∀ (j : Nat) (a : Addr), as[j]? = some a → ∃ x y, ps[j]? = some (x, y) ∧ h.get? a = some { cls := .type "tuple", data := .seq #[x, y] }
theorem ZlG.there {ps : List (Value × Value)} {lo : Addr} {h : Heap} {as : List Addr} (g : ZlG ps lo h as) {a : Addr} (ha : a ∈ as) : a < h.objs.size := by
  obtain ⟨j, e⟩ := List.getElem?_of_mem ha
  obtain ⟨x, y, _, e2⟩ := g.pairs j a e
  exact Heap.lt_size e2
def ZlSt (h : Heap) (z TI TO i1 i2 l1 l2 : Addr) (xs ys : List Value) (S : Addr) (i : Nat) : Prop :=
  IsPair h TI (.ref i1) (.ref i2) ∧ h.IsListIter i1 l1 i ∧ h.IsListIter i2 l2 i ∧ h.IsList l1 xs.toArray ∧ h.IsList l2 ys.toArray ∧
    ((IsZip h z TI TO .none ∧ ∃ a b, IsPair h TO a b) ∨ ∃ T f oT, IsZipHeld h z TI TO T f ∧ h.get? T = some oT ∧ T ≠ z ∧ T ≠ i1 ∧ T ≠ i2 ∧ T ≠ S)
structure ZlSep (z TI TO i1 i2 l1 l2 S : Addr) : Prop where
  z : z ≠ S
  TI : TI ≠ S
  TO : TO ≠ S
  i1 : i1 ≠ S
  i2 : i2 ≠ S
  l1 : l1 ≠ S
  l2 : l2 ≠ S
theorem ZlSt.keep {h h' : Heap} {z TI TO i1 i2 l1 l2 S : Addr} {xs ys : List Value} {i : Nat} (x : ZlSt h z TI TO i1 i2 l1 l2 xs ys S i) (P : ZlSep z TI TO i1 i2 l1 l2 S) (hk : ∀ b o, b ≠ S → h.get? b = some o → h'.get? b = some o) : ZlSt h' z TI TO i1 i2 l1 l2 xs ys S i := by
  obtain ⟨hTI, h1, h2, hl1, hl2, hz⟩ := x
  refine ⟨hk _ _ P.TI hTI, h1.at fun o e => hk _ o P.i1 e, h2.at fun o e => hk _ o P.i2 e, hl1.at fun o e => hk _ o P.l1 e, hl2.at fun o e => hk _ o P.l2 e, ?_⟩
  rcases hz with ⟨hz, a, b, hTO⟩ | ⟨T, f, oT, hz, hT, r1, r2, r3, r4⟩
  · exact .inl ⟨hk _ _ P.z hz, a, b, hk _ _ P.TO hTO⟩
  · exact .inr ⟨T, f, oT, hk _ _ P.z hz, hk _ _ r4 hT, r1, r2, r3, r4⟩
end Nk
namespace Sh
open PySem PySem.Spec PyProof.Rows L2 Nk StX
variable [TabSet] [BasePred]
theorem At.unhide {K : PySem.W.Frag} {b : Bs} {m : List Addr} {ow : List (Option Addr)} {H : Hp} {σ : L2.St} {e : En} {S : Store} {p : Addr} (t : At K ⟨fun x => b.B x ∨ x = p, b.m0, b.H0, b.sf⟩ m ow H σ e S) (ph : BasePred.Φ b) : At K b m ow H σ e S := by
  refine ⟨t.cells.unhide, t.len, fun j s hs => ?_, t.fut, t.new, t.oe, t.sf, ph⟩
  have h := t.slots j s hs
  cases s with
  | no => exact True.intro
  | val d' => obtain ⟨u, h1, h2⟩ := h; exact ⟨u, h1, Rep.le le_hid d' h2⟩
  | own x => obtain ⟨u, h1, h2, h3⟩ := h; exact ⟨u, h1, h2, h3.le le_hid fun o e _ => e⟩
end Sh
namespace Nk
open PySem PySem.Spec PyProof.Rows L2 StX
theorem SupD.okK {P : Program} {w : World} {K : PySem.W.Frag} {mg : Str → Option Value} {base : Heap} {k : Nat} {name qual file : Str} {st : Stmt} {f D : Addr} {N ps ks : List Str} {sp : Sp} {sf : Str} {ar : Arg} (l : List Nat) (F : SupD K name qual st f D file) (S : FnSup N ps (defScope st))
    (len : ∀ vs H Q E, sp vs H Q E → vs.length = ps.length)
    (hb : ∀ (kV doc pm : Value) (an : Option Addr) (cdv ct : Value) (cc : Addr) (us ws : List Value), us.length = 1 → ws.length = ks.length → bindArgs (PySem.W.ksFn name qual (defArgs st) (defBody st) (defScope st) .none kV doc pm an cdv ct cc) ⟨us, ks.zip ws⟩ = pure (ps.zip (us ++ Sh.prm l ws)))
    (har : ((defArgs st).posonlyargs ++ (defArgs st).args).head? = some ar) (hsf : ar.arg = sf) (hfile : ((P.main.file : Str) == file) = true) (htop : (P.main.scope.names.lookup ("super" : Str)).isSome = false) (hmg : mg "super" = none)
    (sS : (defScope st).names.lookup ("super" : Str) = some .globalImplicit) (sC : (defScope st).names.lookup ("__class__" : Str) = some .free) (sX : (defScope st).names.lookup sf = some .local) (n0 : N[0]? = some sf) (hD : ∃ cd, PySem.W.clsIn K D = some cd)
    (hbody : ∀ (cc : Addr) (cdv : Value) (A : Around) (outer : List Env) (s : Shared) (H : Hp) (vs : List V) (Q : VK) (E : XK), SupAt (supCx (L2.CX P w) P w K mg base N qual (defScope st) f cdv cc A outer s H E) f cc D sf → Room k (A.deeper (supEnv qual (defScope st) s.heap.objs.size f cdv cc)) → sp vs H Q E →
      ∃ t, PScs (supCx (L2.CX P w) P w K mg base N qual (defScope st) f cdv cc A outer s H E) (.func (defBody st) (supEnv qual (defScope st) s.heap.objs.size f cdv cc)) (defBody st) t ∧ t { nx := fun _ H' => Q .non H', rt := Q } (L2.start N vs) H) :
    Sh.FsK P w K mg base f (k + 1) ks (fun vs H Q E => ∃ x zs, vs = x :: zs ∧ sp (x :: Sh.prm l zs) H Q E) := by
  obtain ⟨oc, od, dV, kV, doc, pm, an, cdv, ct, osl, cc, lk, hcd, C, rfl, cda, ccl, cdd, vs0, ccs, tf, rfl, h2, h3⟩ := F.ex
  refine ⟨_, ps, fun us ws => us ++ Sh.prm l ws, sp, fun vs zs => vs ++ Sh.prm l zs, fn_sup lk hcd C S len fun A outer s H vs Q E hr hsp => hbody cc (.ref cda) A outer s H vs Q E ⟨⟨oc, od, _, osl, ar, lk, har, hsf⟩, ⟨cda, ccl, cdd, vs0, ccs, file, tf, rfl, h2, h3, hfile⟩, htop, hmg, rfl, C, ?_, sS, sC, sX, n0, hD⟩ hr hsp, ⟨fun s us ws X l1 l2 => ?_, fun r1 r2 => r1.append (vals_prm r2 l)⟩, fun x zs H Q E h => by obtain ⟨x', zs', e, h⟩ := h; cases e; exact h⟩
  · show List.lookup _ [_] = _
    simp [List.lookup]
  · exact .of_eq (hb kV doc pm an (.ref cda) ct cc us ws l1 l2)
end Nk
namespace PySem.W
open Lean Elab Tactic Meta PySem PySem.Calls PyProof.Rows PyProof.V PySem.Spec
section
variable {prog : Program} {w : World} {K : Type} [DecidableEq K] {knd : KeyKind prog w K} {A : Around} {E : Value → Shared → Prop}
inductive HitsU (prog : Program) (w : World) (A : Around) (E : Value → Shared → Prop) (G : Shared → Prop) (kb : List (K × Value)) : List (K × Value) → Bool → Prop
  | nil : HitsU prog w A E G kb [] true
  | miss {k : K} {v : Value} {r : List (K × Value)} : valueAt kb k = none → HitsU prog w A E G kb ((k, v) :: r) false
  | hit {k : K} {v y : Value} {r : List (K × Value)} {e b : Bool} : valueAt kb k = some y → (∀ s, G s → wpAny (model prog w) A (eqBool v y) (fun r s' => r = e ∧ G s') E s) → HitsU prog w A E G kb r b → HitsU prog w A E G kb ((k, v) :: r) (e && b)
theorem HitsU.inv {G : Shared → Prop} {kb : List (K × Value)} {k : K} {v : Value} {r : List (K × Value)} {b : Bool} (h : HitsU prog w A E G kb ((k, v) :: r) b) :
    (valueAt kb k = none ∧ b = false) ∨ ∃ y e b', valueAt kb k = some y ∧ (∀ s, G s → wpAny (model prog w) A (eqBool v y) (fun r s' => r = e ∧ G s') E s) ∧ HitsU prog w A E G kb r b' ∧ b = (e && b') := by
  cases h with
  | miss hn => exact .inl ⟨hn, rfl⟩
  | hit hy he hr => exact .inr ⟨_, _, _, hy, he, hr, rfl⟩
end
end PySem.W
namespace Nk
open PySem PySem.Spec PyProof.Rows L2 StX
theorem d_dictSetT {X : Cx} {pins : List (Addr × Obj)} {σ : L2.St} {H : Hp} {s : Shared} {E : Value → Shared → Prop} {D b : Addr} {kvs : List (List Key × V)} {k : List Key} {v : V} {u r : Value} {Q : Unit → Shared → Prop} (hu : X.A.units + 1 < cLine) (I : Inv X pins σ H s) (hD : H D = some (.dT kvs)) (hb : H b = some (.tup (k.map kV))) (hz : kvs.length < sizeLine)
    (ry : RelV (.ref b) u) (rv : RelV v r) (h : ∀ s', Inv X pins σ (upd H D (.dT (putK kvs k v))) s' → Q () s') : wpAny (model X.prog X.w) X.A (dictSet D u r) Q E s := by
  obtain rfl : u = Value.ref b := ry
  obtain ⟨z, hd, xs, rel, dd⟩ := dt_of I.hok hD
  have hzv : xs.length ≤ sizeLine := by rw [← Paired.length rel]; exact z
  have hl : (putK kvs k v).length ≤ sizeLine := by have := length_putK kvs k v; omega
  refine wpAny_dictSet_heap (hsz := hzv) (show X.A.units < cLine by omega) (key_of I.hok hb) dd fun h' dd' hs => h _ ?_
  obtain ⟨q, es, ep, hq, h2, h3, h4, _, h5⟩ := dd'
  refine d_write I (by rw [hD]; exact True.intro) hs ⟨q, hq⟩ ⟨hl, hd, _, (rel.put k hb rv).keeps fun c ys ec => ?_, q, es, ep, hq, h2, h3, h4, h5⟩
  rw [upd_ne (ne_of ec hD (fun z => nomatch z))]
  exact ec
theorem call_lenDT : CallR X (.builtin "len") (fun xs H Q => ∃ a kvs, xs = [V.ref a] ∧ Rd H a (.dT kvs) ∧ Q (.int kvs.length) H) := by
  intro pins s σ H xs us Q I r q
  obtain ⟨a, kvs, rfl, hd, q⟩ := q
  obtain ⟨u, rfl, ru⟩ := vals1 r
  obtain rfl : u = Value.ref a := ru
  obtain ⟨z, hn, ys, rel, dd⟩ := dt_rd I.hok hd
  have hl : kvs.length = ys.length := Paired.length rel
  refine call_len_dictH hn dd (by rw [← hl]; rw [sizeLine_eq] at z; omega) ?_
  rw [← hl]
  exact ⟨.int ((kvs.length : Nat) : Int), H, I.tok _, ⟨_, rfl⟩, q⟩
def TyY (K : PySem.W.Frag) (H : Hp) (x : V) (t : Value) : Prop := TyX K H x t ∨ (t = .type "dict" ∧ ∃ a o kvs, x = .ref a ∧ H a = some (.frz o (.dT kvs)))
def rIsiY (K : PySem.W.Frag) : List V → Hp → VK → Prop := fun xs H Q => ∃ (x c : V) (t u : Value) (b : Bool), xs = [x, c] ∧ ClsV c u ∧ TyY K H x t ∧ PySem.W.kitOne K t u = some b ∧ Q (.bl b) H
theorem call_isiY {X : Cx} : CallR X (.builtin "isinstance") (rIsiY X.K) := by
  intro pins s σ H xs us Q I r h
  obtain ⟨x, c, t, u, b, rfl, k, ty, e, q⟩ := h
  rcases ty with ty | ⟨rfl, a, o, kvs, rfl, ha⟩
  · exact call_isi pins s σ H _ us Q I r ⟨x, c, t, u, b, rfl, k, ty, e, q⟩
  · obtain ⟨u1, u2, rfl, r1, r2⟩ := vals2 r
    have e2 := k.eq r2
    subst e2
    obtain rfl : u1 = Value.ref a := r1
    obtain ⟨_, _, _, vs, _, o, es, ep, h1, h2, _⟩ := (show ObjOk X.prog X.w H s.heap a (.frz o (.dT kvs)) from I.hok a _ ha)
    exact PySem.W.kia_one PySem.W.kitx_dict I.kIn ⟨o, h1, h2.1⟩ e (fun z => nomatch z) fun tk => ⟨.bl b, H, I.tok tk, rfl, q⟩
section
variable {X : Cx}
def tDcT (wi : TI) (g : TG) (tt : TT) (tk tv : TE) (vs : List Nat) : TE := fun σ H Q => wi σ H fun J H1 => ∀ D, H1 D = none → ∃ W : Nat → Nat → Hp → Prop, (∃ m, W 0 m (upd H1 D (.dT []))) ∧ ∀ i m H, W i m H →
  (J.stop i H ∧ Q (.ref D) H) ∨ (J.go i H ∧ ∃ Nx : Hp → Prop, (∀ H', Nx H' → ∃ m', m' < m ∧ W (i + 1) m' H') ∧ ∀ x H', J.yld i H x H' → g x (wipe σ vs) H' fun σ2 H2 => wipe σ2 vs = wipe σ vs ∧ tt σ2 H2 fun b H3 =>
    if b = true then tk σ2 H3 fun y H4 => tv σ2 H4 fun z H5 => ∃ kvs k b, y = .ref b ∧ H5 b = some (.tup (k.map kV)) ∧ H5 D = some (.dT kvs) ∧ kvs.length < sizeLine ∧ Nx (upd H5 D (.dT (putK kvs k z))) else Nx H3)
theorem dc_coreT {pins : List (Addr × Obj)} {s : Shared} {σ : L2.St} {H : Hp} {Q : VK} {kx vx tg iter : Expr} {ifs : List Expr} {scope : Scope} {own : List (Str × Nat)} {pos pos' : Pos} {wi : TI} {g : TG} {tt : TT} {tk tv : TE} {use : Option (Value → Sem Unit)} {Qf : Value → Shared → Prop}
    (hu : X.A.units + 1 < cLine) (hc : X.calm = true) (hN : X.N.Nodup) (I : Inv X pins σ H s) (hi : PI X tg iter wi) (ok : BlkOk X.N X.env.scope scope own)
    (hg : ∀ (s : Shared) (H : Hp) (C : Addr) (cl : List (Str × Addr)) (fp : List Addr), PG (X.blk s H scope (compEnvC scope cl C X.env) fp) tg g) (ht : ∀ (s : Shared) (H : Hp) (C : Addr) (cl : List (Str × Addr)) (fp : List Addr), PTs (X.blk s H scope (compEnvC scope cl C X.env) fp) ifs tt)
    (hk : ∀ (s : Shared) (H : Hp) (C : Addr) (cl : List (Str × Addr)) (fp : List Addr), PE (X.blk s H scope (compEnvC scope cl C X.env) fp) kx tk)
    (he : ∀ (s : Shared) (H : Hp) (C : Addr) (cl : List (Str × Addr)) (fp : List Addr), PE (X.blk s H scope (compEnvC scope cl C X.env) fp) vx tv) (hs : ∀ x, foldedSetIterable iter X.env x = pure x)
    (h : tDcT wi g tt tk tv (own.map (·.2)) σ H Q)
    (hRR : ∀ D C s' m H', Inv X pins σ H' s' → Q (.ref D) H' → s'.heap.Ns C m → FpOk X pins H' C → compPost (model X.prog X.w) X.A X.xe use Qf (.ref D) C (.ok .next) s') :
    wpAny (model X.prog X.w) X.A (comprehension (.DictComp kx vx [⟨tg, iter, ifs, 0⟩] scope pos) scope X.env pos' newDict false (eval iter X.env) use) Qf X.xe s := by
  have hfree : ∀ y ∈ scope.names, y.2 = .free → ∃ c, X.env.cells.lookup y.1 = some c := fun y hy e => by
    rcases ok.free y hy e with k | k
    · exact I.ok.has _ (.inl k)
    · exact I.ok.has _ (.inr k)
  refine wpAny_comprehension_free (use := use) rfl hs (closure_ok hfree) ok.kind (fun y hy e => by rw [ok.uniq y hy, e])
    (thn (hi.run pins s σ H _ I h) fun xv s1 hx => thn hx fun itv s2 h2 => ?_)
  obtain ⟨it, fp, tn, J, H2, e, I2, T, st2, f2, q⟩ := h2
  subst e
  refine wpAny_newObj_type (newEnv_comp ?_)
  generalize hD : s2.heap.objs.size = D
  have hDn : H2 D = none := I2.hok.fresh (Nat.le_of_eq hD)
  obtain ⟨W, ⟨m0, w0⟩, turn⟩ := q D hDn
  
  generalize hs3 : ({ s2 with heap := s2.heap.push { cls := .type "dict", data := .dict #[] } } : Shared) = s3
  have I3 : Inv X pins σ (upd H2 D (.dT [])) s3 := by
    rw [← hs3]
    refine I2.laid (t' := s2.toks) (fun b o e => Heap.get?_push_of_some _ e) (Nat.le_of_eq hD) ?_
    rw [← hD]
    exact dt_empty s2.heap I2.big
  have h3 : s3.heap = s2.heap.push { cls := .type "dict", data := .dict #[] } := by rw [← hs3]
  have sz : ∀ b ∈ fp, b < s2.heap.objs.size := fun b hb => by
    obtain ⟨o, e, _⟩ := T.obj _ _ st2 b hb
    exact Heap.lt_size e
  have f3 : ∀ b ∈ fp, FpOk X pins (upd H2 D (.dT [])) b ∧ b < s3.heap.objs.size := fun b hb => by
    have hlt := sz b hb
    refine ⟨⟨?_, (f2 b hb).2⟩, by rw [h3, Heap.size_push]; exact Nat.lt_succ_of_lt hlt⟩
    rw [upd_ne (by rw [← hD]; exact Nat.ne_of_lt hlt)]
    exact (f2 b hb).1
  have st3 : tn 0 s3.heap := T.keep _ _ _ st2 fun b _ o e => by rw [h3]; exact Heap.get?_push_of_some _ e
  have I4 := block_start I3 ok hN f3
  have pg := hg s3 (upd H2 D (.dT [])) s3.heap.objs.size (cellsFrom (s3.heap.objs.size + 1) scope.names (cloFrom X.env.cells scope.names [])) fp
  have pt := ht s3 (upd H2 D (.dT [])) s3.heap.objs.size (cellsFrom (s3.heap.objs.size + 1) scope.names (cloFrom X.env.cells scope.names [])) fp
  have pk := hk s3 (upd H2 D (.dT [])) s3.heap.objs.size (cellsFrom (s3.heap.objs.size + 1) scope.names (cloFrom X.env.cells scope.names [])) fp
  have pe := he s3 (upd H2 D (.dT [])) s3.heap.objs.size (cellsFrom (s3.heap.objs.size + 1) scope.names (cloFrom X.env.cells scope.names [])) fp
  show codeAny _ _ (.compStart (.DictComp kx vx [⟨tg, iter, ifs, 0⟩] scope pos) 0 (.ref it) (.ref D) (compEnvC scope (cellsFrom (s3.heap.objs.size + 1) scope.names (cloFrom X.env.cells scope.names [])) s3.heap.objs.size X.env)) (compPost (model X.prog X.w) X.A X.xe use Qf (.ref D) s3.heap.objs.size) { s3 with heap := pushCells (s3.heap.push { cls := .type "dict", data := .dict #[] }) scope.names }
  have nfp : ∀ b ∈ fp, (upd H2 D (.dT [])) b = none := fun b hb => (f3 b hb).1.1
  generalize hce : compEnvC scope (cellsFrom (s3.heap.objs.size + 1) scope.names (cloFrom X.env.cells scope.names [])) s3.heap.objs.size X.env = ce at I4 pg pt pk pe ⊢
  have cL : ce.locals = s3.heap.objs.size := by subst hce; rfl
  generalize hH3 : upd H2 D (.dT []) = H3 at I3 I4 pg pt pk pe w0 nfp f3
  generalize hs4 : ({ s3 with heap := pushCells (s3.heap.push { cls := .type "dict", data := .dict #[] }) scope.names } : Shared) = s4 at I4 ⊢
  have st4 : tn 0 s4.heap := T.keep _ _ _ st3 fun b _ o e => by rw [← hs4]; exact pushCells_keeps _ _ _ _ (Heap.get?_push_of_some _ e)
  have stat : ∀ {σ' : L2.St} {H' : Hp} {s' : Shared}, Inv (X.blk s3 H3 scope ce fp) [] σ' H' s' → (∀ b ∈ fp, H' b = none) → ∀ b ∈ fp, FpOk (X.blk s3 H3 scope ce fp) [] H' b := fun {σ' H' s'} I' hn b hb =>
    ⟨hn b hb, (I'.ok.exf b hb).1, I'.ok.exfs b hb, .inl hb, fun x c e => (I'.ok.exf b hb).2 x c e, fun p hp => absurd (show p ∈ ([] : List (Addr × Obj)) ++ [] from hp) (by simp)⟩
  have loop : codeAny (model X.prog X.w) X.A (.compLoop (.DictComp kx vx [⟨tg, iter, ifs, 0⟩] scope pos) 0 (.ref it) (.ref D) ce) (compPost (model X.prog X.w) X.A X.xe use Qf (.ref D) s3.heap.objs.size) s4 := by
    refine compLoop_anyD (fun n s' => ∃ i H', Inv (X.blk s3 H3 scope ce fp) [] (wipe σ (own.map (·.2))) H' s' ∧ tn i s'.heap ∧ (∀ b ∈ fp, H' b = none) ∧ W i n H') ?_ m0 ⟨0, H3, I4, st4, nfp, w0⟩
    rintro n s5 ⟨i, H5, I5, st5, n5, w5⟩
    rcases turn i n H5 w5 with ⟨stop, qq⟩ | ⟨go, Nx, hNx, step⟩
    · have td := T.done (X.blk s3 H3 scope ce fp) rfl rfl rfl hc i [] s5 _ H5 (fun _ _ => False) I5 (stat I5 n5) st5 stop
      refine thnF td fun r s6 ⟨hr, I6⟩ => ?_
      subst hr
      
      have I7 : Inv X pins σ H5 s6 := I3.call' (ch := fp) I6.os I6.base I6.hok I6.bare fun b hb => ⟨(f3 b hb).1.2.2.2.1, (f3 b hb).1.2.1, (f3 b hb).1.2.2.2.2.1, (f3 b hb).1.2.2.2.2.2⟩
      have nC : H5 s3.heap.objs.size = none := by
        have z : H5 ce.locals = none := I6.free
        rw [cL] at z
        exact z
      obtain ⟨m, hn, _⟩ := I6.loc
      have hn : s6.heap.Ns ce.locals m := hn
      rw [cL] at hn
      exact hRR D s3.heap.objs.size s6 m H5 I7 qq hn (I3.fpOk (Nat.le_refl _) nC)
    · have ti := T.item (X.blk s3 H3 scope ce fp) rfl rfl rfl hc i [] s5 _ H5 (fun _ _ => False) I5 (stat I5 n5) st5 go
      refine thnF ti fun r s6 ⟨u, hr, h6⟩ => ?_
      subst hr
      refine thnF h6 fun _ s7 ⟨x, H7, I7, r7, y7, st7, n7⟩ => ?_
      have I7' := I7.pinned (stat I7 n7) (T.obj _ _ st7)
      refine thnF (pg.run _ s7 _ H7 x u _ I7' r7 (step x H7 y7)) fun _ s8 ⟨σ8, H8, I8, hw8, q8⟩ => ?_
      refine thnF (pt.run _ s8 σ8 H8 _ I8 q8) fun b s9 ⟨H9, I9, q9⟩ => ?_
      
      have fin : ∀ {s' : Shared} {H' : Hp}, Inv (X.blk s3 H3 scope ce fp) ([] ++ pinsAt fp s7.heap) σ8 H' s' → Nx H' → ∃ m, m < n ∧ ∃ i H', Inv (X.blk s3 H3 scope ce fp) [] (wipe σ (own.map (·.2))) H' s' ∧ tn i s'.heap ∧ (∀ b ∈ fp, H' b = none) ∧ W i m H' := fun {s' H'} I' nx => by
        obtain ⟨m', hm, w'⟩ := hNx H' nx
        have pin' : ∀ b ∈ fp, ∀ o, s7.heap.get? b = some o → s'.heap.get? b = some o ∧ H' b = none := fun b hb o e =>
          let z := I'.pin (b, o) (List.mem_append_right _ (List.mem_append_right _ (mem_pinsAt hb e)))
          ⟨z.1, z.2.1⟩
        have hl : (wipe σ (own.map (·.2))).length = σ8.length := by rw [← hw8, wipe_length]
        refine ⟨m', hm, i + 1, H', (I'.unpinned (pins := [])).weak hl (fun j v e => ?_), T.keep _ _ _ st7 fun b hb o e => (pin' b hb o e).1, fun b hb => ?_, w'⟩
        · rw [← hw8] at e
          exact (wipe_some e).1
        · obtain ⟨o, e, _⟩ := T.obj _ _ st7 b hb
          exact (pin' b hb o e).2
      cases b with
      | false =>
        simp only [Bool.false_eq_true, if_false] at q9 ⊢
        exact fin I9 q9
      | true =>
        simp only [if_true] at q9 ⊢
        refine thnF (pk.run _ s9 σ8 H9 _ I9 q9) fun z s10 ⟨yk, H10, I10, r10, q10⟩ => ?_
        refine thnF (pe.run _ s10 σ8 H10 _ I10 q10) fun z2 s11 ⟨yv, H11, I11, r11, kvs, k, kb, ek, hkb, hD11, hz11, nx⟩ => ?_
        subst ek
        exact d_dictSetT hu (X := X.blk s3 H3 scope ce fp) I11 hD11 hkb hz11 r10 r11 fun s12 I12 => fin I12 nx
  exact codeAny_compStart_dict loop (T.self X.A 0 _ _ _ st4 loop)
theorem pe_dcT {kx vx tg iter : Expr} {ifs : List Expr} {scope : Scope} {own : List (Str × Nat)} {pos : Pos} {wi : TI} {g : TG} {tt : TT} {tk tv : TE} (hu : X.A.units + 1 < cLine) (hc : X.calm = true) (hN : X.N.Nodup) (hi : PI X tg iter wi) (ok : BlkOk X.N X.env.scope scope own)
    (hg : ∀ (s : Shared) (H : Hp) (C : Addr) (cl : List (Str × Addr)) (fp : List Addr), PG (X.blk s H scope (compEnvC scope cl C X.env) fp) tg g) (ht : ∀ (s : Shared) (H : Hp) (C : Addr) (cl : List (Str × Addr)) (fp : List Addr), PTs (X.blk s H scope (compEnvC scope cl C X.env) fp) ifs tt)
    (hk : ∀ (s : Shared) (H : Hp) (C : Addr) (cl : List (Str × Addr)) (fp : List Addr), PE (X.blk s H scope (compEnvC scope cl C X.env) fp) kx tk)
    (he : ∀ (s : Shared) (H : Hp) (C : Addr) (cl : List (Str × Addr)) (fp : List Addr), PE (X.blk s H scope (compEnvC scope cl C X.env) fp) vx tv) (hs : ∀ x, foldedSetIterable iter X.env x = pure x := by intro _; rfl) :
    PE X (.DictComp kx vx [⟨tg, iter, ifs, 0⟩] scope pos) (tDcT wi g tt tk tv (own.map (·.2))) := by
  refine ⟨fun pins s σ H Q I h => ?_⟩
  rw [arm_eval_DictComp]
  refine dc_coreT hu hc hN I hi ok hg ht hk he hs h fun D C s' m H' I' q hn f => ⟨m, hn, fun h'' sb => ?_⟩
  obtain ⟨f0, f1, f2, f3, f4, f5⟩ := f
  exact ⟨.ref D, H', I'.turned (t' := s'.toks) (fun b o hb e => (sb.2 b hb).trans e) f0 f1 f3 f4 f5, rfl, q⟩
end
end Nk
namespace Sh
open PySem PySem.Spec PyProof.Rows L2 Nk StX
variable [TabSet] [BasePred]
def keysOf : List D → Option (List Key)
  | [] => some []
  | d :: r => match d.key, keysOf r with
    | some k, some ks => some (k :: ks)
    | _, _ => none
def D.tkey : D → Option (List Key)
  | .tup ds => keysOf ds
  | _ => none
def tkeyD (k : List Key) : D := .tup (k.map keyD)
def dtV : List (List Key × D) → List Key → Option D
  | [], _ => none
  | p :: r, k => if p.1 = k then some p.2 else dtV r k
def D.dtv (S : Store) : D → Option (List (List Key × D))
  | .ft kvs => some kvs
  | .dt kvs => some kvs
  | .ref n => match S[n]? with
    | some (.dt kvs) => some kvs
    | some (.ft kvs) => some kvs
    | _ => none
  | _ => none
section
variable {K : PySem.W.Frag} {B : Addr → Prop} {m : List Addr} {ow : List (Option Addr)} {H : Hp} {S : Store} {w : Wo}
theorem keysOf_rep : ∀ {ds : List D} {vs : List V} {k : List Key}, Reps w ds vs → keysOf ds = some k → vs = k.map kV ∧ ∀ x ∈ k, KFit x
  | [], vs, k, r, h => by
    unfold Reps at r
    unfold keysOf at h
    cases h
    subst r
    exact ⟨rfl, fun _ h => nomatch h⟩
  | d :: ds, vs, k, r, h => by
    unfold Reps at r
    obtain ⟨v, us, rfl, r1, r2⟩ := r
    unfold keysOf at h
    cases h1 : d.key with
    | none => rw [h1] at h; cases h
    | some k1 =>
      cases h2 : keysOf ds with
      | none => rw [h1, h2] at h; cases h
      | some ks =>
        rw [h1, h2] at h
        cases h
        obtain ⟨e, f⟩ := keysOf_rep r2 h2
        subst e
        refine ⟨by rw [key_rep r1 h1]; rfl, fun x hx => ?_⟩
        rcases List.mem_cons.mp hx with hx | hx
        · rw [hx]; exact key_fit r1 h1
        · exact f x hx
theorem tkey_rep {d : D} {v : V} {k : List Key} (r : Rep w d v) (h : d.tkey = some k) : ∃ b, v = .ref b ∧ w.H b = some (.tup (k.map kV)) ∧ TFit k := by
  cases d <;> unfold D.tkey at h <;> try cases h
  rename_i ds
  unfold Rep at r
  obtain ⟨a, vs, rfl, t, r⟩ := r
  obtain ⟨e, f⟩ := keysOf_rep r h
  subst e
  exact ⟨a, rfl, t.plain, f, by have := t.2; rwa [List.length_map] at this⟩
theorem reps_keyD : ∀ {k : List Key}, (∀ x ∈ k, KFit x) → Reps w (k.map keyD) (k.map kV)
  | [], _ => reps_nil
  | x :: r, h => reps_cons (rep_keyD (h x List.mem_cons_self)) (reps_keyD fun y hy => h y (List.mem_cons_of_mem _ hy))
theorem rep_tkeyD {k : List Key} {b : Addr} (h : TFit k) (hb : w.H b = some (.tup (k.map kV))) (f : w.Full) : Rep w (tkeyD k) (.ref b) := by
  unfold tkeyD Rep
  exact ⟨b, _, rfl, ⟨⟨fun z => f b z (.tup hb), hb⟩, by rw [List.length_map]; exact h.2⟩, reps_keyD h.1⟩
theorem repT_len : ∀ {kvs : List (List Key × D)} {vs : List (List Key × V)}, RepT w kvs vs → vs.length = kvs.length
  | [], vs, r => by unfold RepT at r; subst r; rfl
  | (k, d) :: r, vs, h => by
    unfold RepT at h
    obtain ⟨v, vs', rfl, _, h⟩ := h
    simp [repT_len h]
theorem repT_val : ∀ {kvs : List (List Key × D)} {vs : List (List Key × V)} (k : List Key), RepT w kvs vs → match dtV kvs k with
    | some d => ∃ v, valV vs k = some v ∧ Rep w d v
    | none => valV vs k = none
  | [], vs, k, r => by unfold RepT at r; subst r; rfl
  | (k0, d) :: r, vs, k, h => by
    unfold RepT at h
    obtain ⟨v, vs', rfl, rv, h⟩ := h
    unfold dtV
    by_cases e : k0 = k
    · rw [if_pos e]
      exact ⟨v, valV_pos e, rv.2⟩
    · rw [if_neg e]
      have := repT_val k h
      rw [valV_neg (p := (k0, v)) e]
      exact this
theorem repT_get {kvs : List (List Key × D)} {vs : List (List Key × V)} {k : List Key} {d : D} (r : RepT w kvs vs) (h : dtV kvs k = some d) : ∃ v, valV vs k = some v ∧ Rep w d v := by
  have := repT_val k r
  rw [h] at this
  exact this
theorem repT_none {kvs : List (List Key × D)} {vs : List (List Key × V)} {k : List Key} (r : RepT w kvs vs) (h : dtV kvs k = none) : valV vs k = none := by
  have := repT_val k r
  rw [h] at this
  exact this
theorem repT_at : ∀ {kvs : List (List Key × D)} {vs : List (List Key × V)} {i : Nat} {p : List Key × D}, RepT w kvs vs → kvs[i]? = some p → ∃ v, vs[i]? = some (p.1, v) ∧ TFit p.1 ∧ Rep w p.2 v
  | [], vs, i, p, r, h => by cases h
  | (k, d) :: r, vs, 0, p, h, e => by
    unfold RepT at h
    obtain ⟨v, vs', rfl, rv, h⟩ := h
    cases e
    exact ⟨v, rfl, rv⟩
  | (k, d) :: r, vs, i + 1, p, h, e => by
    unfold RepT at h
    obtain ⟨v, vs', rfl, rv, h⟩ := h
    simp only [List.getElem?_cons_succ] at e ⊢
    exact repT_at h e
theorem dtv_at {d : D} {v : V} {kvs : List (List Key × D)} (c : Cells K B m ow H S) (r : Rep (wo K B m ow H) d v) (h : d.dtv S = some kvs) : ∃ a vs, v = .ref a ∧ Rd H a (.dT vs) ∧ RepT (wo K B m ow H) kvs vs := by
  cases d <;> unfold D.dtv at h <;> try cases h
  · unfold Rep at r
    obtain ⟨a, vs, rfl, _, t, rk⟩ := r
    exact ⟨a, vs, rfl, .inl t, rk⟩
  · rename_i n
    unfold Rep at r
    obtain ⟨a, rfl, hm⟩ := r
    dsimp only at h
    cases hS : S[n]? with
    | none => rw [hS] at h; cases h
    | some cc =>
      rw [hS] at h
      cases cc with
      | dt kvs' =>
        cases h
        obtain ⟨vs, e, rk⟩ := c.cs n a _ hm hS
        exact ⟨a, vs, rfl, .inl e, rk⟩
      | lst _ => cases h
      | ins _ _ => cases h
      | dk _ => cases h
      | fk _ => cases h
      | ft kvs' =>
        cases h
        obtain ⟨vs, o, e, rk⟩ := c.cs n a _ hm hS
        exact ⟨a, vs, rfl, .inr ⟨o, e⟩, rk⟩
  · unfold Rep at r
    obtain ⟨a, o, vs, rfl, _, t, rk⟩ := r
    exact ⟨a, vs, rfl, .inr ⟨o, t⟩, rk⟩
end
def eDixT (f g : Sx D) (e : En) (S : Store) : R D := (f e S).bind fun x S1 => (g e S1).bind fun y S2 => R.of S2 ((x.dtv S2).bind fun kvs => (y.tkey).bind fun k => dtV kvs k)
def iDt (f : Sx D) (e : En) (S : Store) : R (List D) := (f e S).bind fun x S1 => match x with
  | .ft kvs => .ok (kvs.map fun p => tkeyD p.1) S1
  | _ => .no
def eLenT (f : Sx D) (e : En) (S : Store) : R D := (f e S).bind fun x S1 => R.of S1 ((x.dtv S1).map fun kvs => .int kvs.length)
section
variable {K : PySem.W.Frag} {X : Cx} {W : WX} {ex ex2 ex3 tg iter : Expr} {f g h : Sx D} {pos p apos : Pos}
theorem x_dixT (hK : X.K = K) (hu : X.A.units + 65 < cLine) (hf : Ev K X W ex f) (hg : Ev K X W ex2 g) (hs : NoSl ex2) : Ev K X W (.Subscript ex ex2 pos) (eDixT f g) := by
  subst hK
  obtain ⟨ta, p1, h1⟩ := hf.run
  obtain ⟨tb, p2, h2⟩ := hg.run
  refine ⟨_, pe_dget (by omega) p1 p2 hs, fun b m ow H σ e S Q t q => h1 b m ow H σ e S _ t (Post.bind q fun x S1 v m1 H1 f1 c1 rx q => h2 b m1 ow H1 σ e S1 _ (t.go f1 c1) (Post.bind q fun y S2 u m2 H2 f2 c2 ry q => ?_))⟩
  cases hx : x.dtv S2 with
  | none => rw [hx] at q; exact q.elim
  | some kvs =>
    cases hk : y.tkey with
    | none => rw [hx, hk] at q; exact q.elim
    | some k =>
      cases hv : dtV kvs k with
      | none => rw [hx, hk] at q; simp only [Option.bind_some, hv] at q; exact q.elim
      | some d =>
        rw [hx, hk] at q
        simp only [Option.bind_some, hv] at q
        obtain ⟨a, vs, rfl, rd, rk⟩ := dtv_at c2 (Rep.le f2.le x rx) hx
        obtain ⟨v, e1, rv⟩ := repT_get rk hv
        obtain ⟨kb, ek, hkb, _⟩ := tkey_rep ry hk
        exact ⟨a, v, rfl, .inr ⟨vs, k, kb, rd, ek, hkb, e1.symm⟩, q.val c2 rv⟩
end
end Sh
namespace Sh
open PySem PySem.Spec PyProof.Rows L2 Nk StX
variable [TabSet] [BasePred]
def dtSt (kvs : List (List Key × D)) (k : List Key) (d : D) : List (List Key × D) := if (kvs.any fun p => decide (p.1 = k)) = true then kvs.map (fun p => if p.1 = k then (p.1, d) else p) else kvs ++ [(k, d)]
section
variable {w : Wo}
theorem repT_any : ∀ {kvs : List (List Key × D)} {vs : List (List Key × V)} (k : List Key), RepT w kvs vs → (vs.any fun p => decide (p.1 = k)) = (kvs.any fun p => decide (p.1 = k))
  | [], vs, k, r => by unfold RepT at r; subst r; rfl
  | (k0, d) :: r, vs, k, h => by
    unfold RepT at h
    obtain ⟨v, vs', rfl, _, h⟩ := h
    simp only [List.any_cons, repT_any k h]
theorem repT_map {k : List Key} {d : D} {v : V} (rv : TFit k ∧ Rep w d v) : ∀ {kvs : List (List Key × D)} {vs : List (List Key × V)}, RepT w kvs vs → RepT w (kvs.map (fun p => if p.1 = k then (p.1, d) else p)) (vs.map (fun p => if p.1 = k then (p.1, v) else p))
  | [], vs, r => by unfold RepT at r; subst r; exact (by unfold RepT; rfl)
  | (k0, d0) :: r, vs, h => by
    unfold RepT at h
    obtain ⟨v0, vs', rfl, r0, h⟩ := h
    simp only [List.map_cons]
    by_cases e : k0 = k
    · rw [if_pos e, if_pos e]
      unfold RepT
      exact ⟨v, _, rfl, ⟨r0.1, rv.2⟩, repT_map rv h⟩
    · rw [if_neg e, if_neg e]
      unfold RepT
      exact ⟨v0, _, rfl, r0, repT_map rv h⟩
theorem repT_app : ∀ {kvs ls : List (List Key × D)} {vs us : List (List Key × V)}, RepT w kvs vs → RepT w ls us → RepT w (kvs ++ ls) (vs ++ us)
  | [], ls, vs, us, r, q => by unfold RepT at r; subst r; exact q
  | (k0, d0) :: r, ls, vs, us, h, q => by
    unfold RepT at h
    obtain ⟨v0, vs', rfl, r0, h⟩ := h
    show RepT w ((k0, d0) :: (r ++ ls)) ((k0, v0) :: (vs' ++ us))
    unfold RepT
    exact ⟨v0, _, rfl, r0, repT_app h q⟩
theorem repT_one {k : List Key} {d : D} {v : V} (r : TFit k ∧ Rep w d v) : RepT w [(k, d)] [(k, v)] := by
  unfold RepT
  exact ⟨v, [], rfl, r, by unfold RepT; rfl⟩
theorem repT_put {kvs : List (List Key × D)} {vs : List (List Key × V)} {k : List Key} {d : D} {v : V} (h : RepT w kvs vs) (r : TFit k ∧ Rep w d v) : RepT w (dtSt kvs k d) (putK vs k v) := by
  unfold dtSt putK
  rw [repT_any k h]
  split
  · exact repT_map r h
  · exact repT_app h (repT_one r)
end
section
variable (K : PySem.W.Frag) (B : Addr → Prop) (ow : List (Option Addr))
def PostFT (m : List Addr) (H : Hp) (W : Value → Option Addr → Hp → Prop) (Q : VK) : R (List (List Key × D)) → Prop
  | .ok kvs S' => ∀ p vs m' H', Fut m H m' H' → Fr H p → Cells K (fun x => B x ∨ x = p) m' ow H' S' → ¬ zf B m' ow p → H' p = some (.dT vs) → RepT (wo K (fun x => B x ∨ x = p) m' ow H') kvs vs → Q (.ref p) H'
  | .er x S' => ∀ c d m' H', Fut m H m' H' → Cells K B m' ow H' S' → ExR (wo K B m' ow H') x c d → W c d H'
  | .no => False
end
abbrev RT := R (List (List Key × D))
structure Eft (K : PySem.W.Frag) (X : Cx) (W : WX) (ex : Expr) (f : Sx (List (List Key × D))) : Prop where
  run : ∃ te, PE X ex te ∧ ∀ b m ow H σ e S Q, At K b m ow H σ e S → PostFT K b.B ow m H (fun c d => W c d σ) Q (f e S) → te σ H Q
def eNewT (f : Sx (List (List Key × D))) (e : En) (S : Store) : R D := (f e S).bind fun kvs S1 => .ok (.ft kvs) S1
def sOwnT (i : Nat) (f : Sx (List (List Key × D))) (e : En) (S : Store) : RS := (f e S).run e fun kvs S1 => if i < e.length ∧ notOwn i e = true then .nx (e.set i (.own (.dt kvs))) S1 else .no
section
variable {K : PySem.W.Frag} {X : Cx} {W : WX} {ex ex2 : Expr} {f : Sx D} {l : Sx (List (List Key × D))} {pos p pos' apos : Pos} {i : Nat} {x : Str}
theorem x_newT (h : Eft K X W ex l) : Ev K X W ex (eNewT l) := by
  obtain ⟨te, p1, h1⟩ := h.run
  refine ⟨_, pe_lockV p1, fun b m ow H σ e S Q t q => h1 b m ow H σ e S _ t ?_⟩
  unfold eNewT at q
  cases r : l e S with
  | no => rw [r] at q; exact q.elim
  | er x S1 => rw [r] at q; exact q
  | ok kvs S1 =>
    rw [r] at q
    refine fun p vs m1 H1 f1 hp c1 z hv rk => ⟨p, _, rfl, hv, True.intro, fun od => ?_⟩
    have c2 := (c1.hid_upd (o := .frz od (.dT vs)) (fun _ z => by cases z) ⟨_, hv, (fun _ z => by cases z), (fun _ z => by cases z)⟩).unhide
    refine q _ m1 _ (fut_new f1 hp fun _ z => by cases z) c2 ?_
    show Rep _ (.ft kvs) (.ref p)
    unfold Rep
    exact ⟨p, od, vs, rfl, z, upd_same, RepT.le le_unhid kvs rk⟩
theorem s_ownT (hN : X.N.Nodup) (hi : X.N[i]? = some x) (hx : Loc X.env.scope x) (hf : Eft K X W ex l) (hs : swapsWith ex (some (.Name x pos')) pos.line X.env = pure false := by rfl) (hfn : X.fn x = true ∨ X.env.scope.names.lookup x = some .local := by first | exact .inl rfl | exact .inr rfl | assumption) : Es K X W (.Assign [.Name x pos'] ex pos) (sOwnT i l) := by
  obtain ⟨te, p1, h1⟩ := hf.run
  refine ⟨_, ps_set hN hi hx p1 hs hfn, fun b m ow H σ e S D t z => h1 b m ow H σ e S _ t ?_⟩
  unfold sOwnT at z
  cases r : l e S with
  | no => rw [r] at z; exact z.elim
  | er x S1 => rw [r] at z; exact fun c d m1 H1 f1 c1 rx => z c d σ m1 ow H1 (t.go f1 c1) f1.le rx
  | ok kvs S1 =>
    rw [r, run_ok] at z
    split at z
    · rename_i hi
      intro p vs m1 H1 f1 hp c1 hz hv rx
      have t1 := t.go f1 c1.unhide
      have r1 : CRep (wo K (fun x => b.B x ∨ x = p) m1 ow H1) p (.dt kvs) := ⟨vs, hv, rx⟩
      have lp : Le (wo K b.B m ow H) (wo K (fun x => b.B x ∨ x = p) m1 ow H1) := by
        refine ⟨rfl, fun a o e n z => ?_, fun n a e => f1.le (K := K) (B := b.B) (ow := ow) |>.m n a e, fun a o e n z => f1.keep a o e n fun hm => z (.inr (.inl hm))⟩
        have z2 := f1.le (K := K) (B := b.B) (ow := ow) |>.z a o e n z
        rintro ((h | h) | h | h)
        · exact z2 (.inl h)
        · exact hp.no (h ▸ e) n
        · exact z2 (.inr (.inl h))
        · exact z2 (.inr (.inr h))
      obtain ⟨t2, l2⟩ := t1.own (c := .dt kvs) (i := i) hz (t.fut.dom p hp) c1 r1 (fun j s _ hs => by
        have h := t.slots j s hs
        cases s with
        | no => exact True.intro
        | val d' => obtain ⟨u, h1, h2⟩ := h; exact ⟨u, h1, Rep.le lp d' h2⟩
        | own x =>
          obtain ⟨u, h1, h2, h3⟩ := h
          exact ⟨u, h1, h2, h3.le lp fun o e n => f1.keep u o e n fun hm => t.cells.no u hm (List.mem_of_getElem? h2)⟩) hi.1 hi.2
      exact z _ m1 _ H1 t2 (lp.trans l2)
    · exact z.elim
def kNilT (e : En) (S : Store) : RT := .ok [] S
theorem PostFT.new {B : Addr → Prop} {ow : List (Option Addr)} {m : List Addr} {H : Hp} {S : Store} {W : Value → Option Addr → Hp → Prop} {Q : VK} {kvs : List (List Key × D)} {vs : List (List Key × V)} {p : Addr} (h : PostFT K B ow m H W Q (.ok kvs S)) (c : Cells K B m ow H S) (r : RepT (wo K B m ow H) kvs vs) (hp : H p = none) : Q (.ref p) (upd H p (.dT vs)) := by
  have hf : ¬ zf B m ow p := fun z => c.full p z (.none hp)
  exact h p vs m _ (Fut.same (same_mut (Same.refl _) hp)) (.none hp) (c.hide hp hf fun _ z => by cases z) hf upd_same (RepT.le (le_hide hp) kvs r)
theorem PostFT.go {B : Addr → Prop} {ow : List (Option Addr)} {m m' : List Addr} {H H' : Hp} {W : Value → Option Addr → Hp → Prop} {Q : VK} {r : RT} (h : PostFT K B ow m H W Q r) (f : Fut m H m' H') : PostFT K B ow m' H' W Q r := by
  cases r with
  | ok y S' => exact fun p vs m2 H2 f2 hp => h p vs m2 H2 (f.trans f2) (f.dom p hp)
  | er x S' => exact fun c d m2 H2 f2 => h c d m2 H2 (f.trans f2)
  | no => exact h
theorem ft_nil : Eft K X W (.Dict [] [] pos) kNilT := by
  refine ⟨_, pe_dnewT, fun b m ow H σ e S Q t q p hp => ?_⟩
  have q : PostFT K b.B ow m H (fun c d => W c d σ) Q (.ok [] S) := q
  exact q.new t.cells (by unfold RepT; rfl) hp
end
def mapT (g : Tg) (t : Sx Bool) (fk fv : Sx D) : List (List Key × D) → List D → En → Store → RT
  | acc, [], _, S => .ok acc S
  | acc, d :: ds, e, S => match g d e with
    | none => .no
    | some e1 => (t e1 S).bind fun c S1 => if c then (fk e1 S1).bind fun y S2 => (fv e1 S2).bind fun z S3 => match y.tkey with
      | some k => mapT g t fk fv (dtSt acc k z) ds e S3
      | none => .no
      else mapT g t fk fv acc ds e S1
def kCompT (vs : List Nat) (it : Sx (List D)) (g : Tg) (t : Sx Bool) (fk fv : Sx D) (e : En) (S : Store) : RT := (it e S).bind fun ds S1 => if ds.length ≤ sizeLine ∧ vs.all (fun v => notOwn v e) = true then (mapT g t fk fv [] ds (clr vs e) S1).clean else .no
section
variable {K : PySem.W.Frag} {X : Cx} {W : WX} {ex ex2 tg iter kx vx : Expr} {ifs : List Expr} {fk fv : Sx D} {t : Sx Bool} {it : Sx (List D)} {g : Tg} {pos p : Pos} {i : Nat} {x : Str}
theorem dcT_rd {wi : TI} {vs : List Nat} (h1 : ∀ b m ow H σ e S Q, At K b m ow H σ e S → Post K b.B ow m H ItR (fun c d => W c d σ) Q (it e S) → wi σ H Q) : ∀ b m ow H σ e S Q, At K b m ow H σ e S → PostFT K b.B ow m H (fun c d => W c d σ) Q (kCompT vs it g t fk fv e S) → tDcT wi (tgOf K vs g) (ttOf K W0 t) (teOf K W0 fk) (teOf K W0 fv) vs σ H Q := by
  refine fun b m ow H σ e S Q t0 q => h1 b m ow H σ e S _ t0 ?_
  unfold kCompT at q
  cases r : it e S with
  | no => rw [r] at q; exact q.elim
  | er x S1 => rw [r] at q; exact q
  | ok ds S1 =>
    rw [r, ok_bind] at q
    intro J m1 H1 f1 c1 rJ D hD
    obtain ⟨G, Y, wk, hG, hY⟩ := rJ
    split at q
    · rename_i hl
      obtain ⟨hl, hno⟩ := hl
      have t1 := t0.go f1 c1
      have hD0 : Fr b.H0 D := t1.fut.dom D (.none hD)
      have tw := wipe_at t1 vs hno
      have th : At K ⟨fun x => b.B x ∨ x = D, b.m0, b.H0, b.sf⟩ m1 ow (L2.upd H1 D (.dT [])) (wipe σ vs) (clr vs e) S1 := tw.hideB hD fun _ z => by cases z
      have l1 : Le (wo K b.B m1 ow H1) (wo K (fun x => b.B x ∨ x = D) m1 ow (L2.upd H1 D (.dT []))) := le_hide hD
      let Pv : Nat → Hp → Prop := fun i H' => ∃ m' S' vs' acc, At K ⟨fun x => b.B x ∨ x = D, b.m0, b.H0, b.sf⟩ m' ow H' (wipe σ vs) (clr vs e) S' ∧ Fut m1 H1 m' H' ∧ H' D = some (.dT vs') ∧ vs'.length ≤ i ∧ RepT (wo K (fun x => b.B x ∨ x = D) m' ow H') acc vs' ∧
        PostFT K b.B ow m H (fun c d => W c d σ) Q (mapT g t fk fv acc (ds.drop i) (clr vs e) S').clean
      refine in_it wk Pv ⟨m1, S1, [], [], th, Fut.same (same_mut (Same.refl _) hD), upd_same, Nat.le_refl _, by unfold RepT; rfl, by simpa using q⟩ ?_ ?_ ?_
      · rintro i H' hi ⟨m', S', vs', acc, t', f', _⟩
        exact hG (wo K (fun x => b.B x) m' ow H') f'.le
      · rintro i x H' H2 hi ⟨m', S', vs', acc, t', f', hv, hvl, ra, q⟩ y
        have hd : ds[i]? = some ds[i] := List.getElem?_eq_getElem hi
        have le1 : Le (wo K b.B m1 ow H1) (wo K (fun x => b.B x ∨ x = D) m' ow H') := by
          refine ⟨rfl, fun a o e n z => ?_, fun n a e => f'.le (K := K) (B := b.B) (ow := ow) |>.m n a e, fun a o e n z => f'.keep a o e n fun hm => z (.inr (.inl hm))⟩
          have z2 := f'.le (K := K) (B := b.B) (ow := ow) |>.z a o e n z
          rintro ((h | h) | h | h)
          · exact z2 (.inl h)
          · have e : H1 a = some o := e
            rw [h, hD] at e; cases e
          · exact z2 (.inr (.inl h))
          · exact z2 (.inr (.inr h))
        obtain ⟨s2, rd⟩ := hY i ds[i] _ x H2 hd le1 t'.cells.full y
        have t2 := t'.same s2
        rw [List.drop_eq_getElem_cons hi] at q
        unfold mapT at q
        refine ⟨_, m', ow, clr vs e, S', ds[i], t2, rd, ?_⟩
        cases qg : g ds[i] (clr vs e) with
        | none => rw [qg] at q; exact q.elim
        | some e1 =>
          rw [qg] at q
          dsimp only at q ⊢
          intro σ2 t3 hw
          rw [wipe_wipe] at hw
          refine ⟨hw, ?_⟩
          have back : ∀ {m3 : List Addr} {H3 : Hp} {S3 : Store}, Fut m' H2 m3 H3 → Cells K (fun x => b.B x ∨ x = D) m3 ow H3 S3 → At K ⟨fun x => b.B x ∨ x = D, b.m0, b.H0, b.sf⟩ m3 ow H3 (wipe σ vs) (clr vs e) S3 := fun f3 c3 => t2.go f3 c3
          refine ⟨⟨fun x => b.B x ∨ x = D, b.m0, b.H0, b.sf⟩, m', ow, e1, S', t3, ?_⟩
          cases rt : t e1 S' with
          | no => rw [rt] at q; exact q.elim
          | er x S3 => rw [rt] at q; exact q.elim
          | ok c S3 =>
            rw [rt, ok_bind] at q
            intro c' m3 H3 f3 c3 ec
            obtain rfl : c' = c := ec
            have fD : H3 D = some (.dT vs') := f3.keep D _ (s2 _ _ hv) (fun _ z => by cases z) fun hm => t2.cells.nB D (.inl hm) (.inr rfl)
            have f1D : Fut m1 H1 m3 H3 := f'.trans ((Fut.same s2).trans f3)
            have le3 : Le (wo K (fun x => b.B x ∨ x = D) m' ow H') (wo K (fun x => b.B x ∨ x = D) m3 ow H3) := ((Fut.same s2).trans f3).le
            cases c' with
            | false =>
              rw [if_neg Bool.false_ne_true] at q ⊢
              exact ⟨m3, S3, vs', acc, back f3 c3, f1D, fD, Nat.le_succ_of_le hvl, RepT.le le3 _ ra, q⟩
            | true =>
              rw [if_pos rfl] at q ⊢
              refine ⟨⟨fun x => b.B x ∨ x = D, b.m0, b.H0, b.sf⟩, m3, ow, e1, S3, t3.go f3 c3, ?_⟩
              cases rf : fk e1 S3 with
              | no => rw [rf] at q; exact q.elim
              | er x S4 => rw [rf] at q; exact q.elim
              | ok y S4 =>
                rw [rf, ok_bind] at q
                intro v m4 H4 f4 c4 ry
                refine ⟨⟨fun x => b.B x ∨ x = D, b.m0, b.H0, b.sf⟩, m4, ow, e1, S4, (t3.go f3 c3).go f4 c4, ?_⟩
                cases rf2 : fv e1 S4 with
                | no => rw [rf2] at q; exact q.elim
                | er x S4 => rw [rf2] at q; exact q.elim
                | ok z S5 =>
                  rw [rf2, ok_bind] at q
                  intro v2 m5 H5 f5 c5 rz
                  cases hk : y.tkey with
                  | none => rw [hk] at q; exact q.elim
                  | some k =>
                    rw [hk] at q
                    dsimp only at q
                    have f45 := f4.trans f5
                    obtain ⟨kb, ek, hkb, kfit⟩ := tkey_rep (Rep.le f5.le _ ry) hk
                    have fD4 : H5 D = some (.dT vs') := f45.keep D _ fD (fun _ z => by cases z) fun hm => c3.nB D (.inl hm) (.inr rfl)
                    have ti := back (f3.trans f45) c5
                    have tn := ti.hid_upd (o := .dT (putK vs' k v2)) hD0 (fun _ z => by cases z) ⟨_, fD4, (fun _ z => by cases z), (fun _ z => by cases z)⟩
                    have le4 : Le (wo K (fun x => b.B x ∨ x = D) m5 ow H5) (wo K (fun x => b.B x ∨ x = D) m5 ow (L2.upd H5 D (.dT (putK vs' k v2)))) := ⟨rfl, fun _ _ _ _ h => h, fun _ _ h => h, fun x u h _ z => by
                      show L2.upd H5 D _ x = some u
                      rw [upd_ne (fun q => z (.inl (.inr q)))]
                      exact h⟩
                    have ra4 := RepT.le (le3.trans (f45.le.trans le4)) _ ra
                    have hlen := length_putK vs' k v2
                    refine ⟨vs', k, kb, ek, hkb, fD4, Nat.lt_of_le_of_lt hvl (Nat.lt_of_lt_of_le hi hl), m5, S5, putK vs' k v2, dtSt acc k z, tn, ?_, upd_same, by omega, repT_put ra4 ⟨kfit, Rep.le le4 z rz⟩, q⟩
                    have fa := f1D.trans f45
                    refine ⟨fa.pre, fun a o ea n hm => ?_, fun a ha => ?_⟩
                    · rw [upd_ne (ne_of_none ea hD)]
                      exact fa.keep a o ea n hm
                    · exact fa.dom a (ha.upd fun _ z => by cases z)
      · rintro H' ⟨m', S', vs', acc, t', f', hv, hvl, ra, q⟩
        rw [List.drop_length] at q
        exact q D vs' m' H' (f1.trans f') (f1.dom D (.none hD)) t'.cells (fun z => t'.cells.nB D (by
          rcases z with z | z
          · exact absurd z (fun z => t1.cells.hB D z (.none hD))
          · exact z) (.inr rfl)) hv ra
    · exact q.elim
variable {scope : Scope} {own : List (Str × Nat)}
theorem ft_comp (hu : X.A.units + 1 < cLine) (hc : X.calm = true) (hN : X.N.Nodup) (hi : Ei K X W tg iter it) (ok : BlkOk X.N X.env.scope scope own)
    (hg : ∀ (s : Shared) (H : Hp) (C : Addr) (cl : List (Str × Addr)) (fp : List Addr), Eg K (X.blk s H scope (compEnvC scope cl C X.env) fp) (own.map (·.2)) tg g) (ht : ∀ (s : Shared) (H : Hp) (C : Addr) (cl : List (Str × Addr)) (fp : List Addr), Ets K (X.blk s H scope (compEnvC scope cl C X.env) fp) W0 ifs t)
    (hk : ∀ (s : Shared) (H : Hp) (C : Addr) (cl : List (Str × Addr)) (fp : List Addr), Ev K (X.blk s H scope (compEnvC scope cl C X.env) fp) W0 kx fk)
    (he : ∀ (s : Shared) (H : Hp) (C : Addr) (cl : List (Str × Addr)) (fp : List Addr), Ev K (X.blk s H scope (compEnvC scope cl C X.env) fp) W0 vx fv) (hs : ∀ x, foldedSetIterable iter X.env x = pure x := by intro _; rfl) :
    Eft K X W (.DictComp kx vx [⟨tg, iter, ifs, 0⟩] scope pos) (kCompT (own.map (·.2)) it g t fk fv) := by
  obtain ⟨wi, p1, h1⟩ := hi.run
  exact ⟨_, pe_dcT hu hc hN p1 ok (fun s H C cl fp => (hg s H C cl fp).canon) (fun s H C cl fp => (ht s H C cl fp).canon) (fun s H C cl fp => (hk s H C cl fp).canon) (fun s H C cl fp => (he s H C cl fp).canon) hs, dcT_rd h1⟩
end
section
variable {K : PySem.W.Frag} {b : Bs} {m m' : List Addr} {ow : List (Option Addr)} {H H' : Hp} {σ : L2.St} {e : En} {S S' : Store} {i : Nat} {a : Addr}
theorem At.lockT {kvs : List (List Key × D)} (t : At K b m ow H σ e S) (q : e[i]? = some (.own (.dt kvs))) : ∃ a vs, H a = some (.dT vs) ∧ ∀ od, At K b m (ow.set i none) (L2.upd H a (.frz od (.dT vs))) σ (e.set i (.val (.ft kvs))) S ∧ Le (wo K b.B m ow H) (wo K b.B m (ow.set i none) (L2.upd H a (.frz od (.dT vs)))) := by
  obtain ⟨a, h1, h2, vs, hH, rk⟩ := t.slots i _ q
  refine ⟨a, vs, hH, fun od => ?_⟩
  have hno : ∀ ps, HO.frz od (.dT vs) ≠ .tbl ps := fun _ z => by cases z
  have keep : ∀ x u, x ≠ a → H x = some u → L2.upd H a (.frz od (.dT vs)) x = some u := upd_keep
  have dom : ∀ x, Fr (L2.upd H a (.frz od (.dT vs))) x → Fr H x := fun x h => h.upd hno
  have ha : some a ∈ ow := List.mem_of_getElem? h2
  have le1 : Le (wo K b.B m ow H) (wo K b.B m (ow.set i none) (L2.upd H a (.frz od (.dT vs)))) := ⟨rfl, fun x o _ _ z => by
    rintro (h | h | h)
    · exact z (.inl h)
    · exact z (.inr (.inl h))
    · exact z (.inr (.inr (sub_none x h))), fun _ _ e => e, fun x o ex _ z => keep x o (fun q => z (.inr (.inr (q ▸ ha)))) ex⟩
  have c1 := t.cells.sub sub_none (od_none (i := i) t.cells)
  have nz := own_z t.cells h2
  have c2 : Cells K b.B m (ow.set i none) (L2.upd H a (.frz od (.dT vs))) S := ⟨fun x hx q => c1.hB x hx (dom x q), c1.nd, c1.no, c1.nB, c1.od, fun x hx q => c1.oh x hx (dom x q), c1.len,
    fun n x y g1 g2 => (t.cells.cs n x y g1 g2).le le1 fun u eu _ => keep x u (fun q => t.cells.no x (List.mem_of_getElem? g1) (q ▸ ha)) eu, tabs_keep c1.tb ⟨_, hH, (fun _ z => by cases z), (fun _ z => by cases z)⟩ keep, fun x z xs hx => if e : x = a then (by rw [e, upd_same] at hx; cases hx) else c1.ntK1 keep x z e xs hx⟩
  refine ⟨⟨c2, by simpa using t.len, fun j s hs => ?_, fut_new t.fut (t.new a ha) hno, fun x hx => t.new x (sub_none x hx), oe_none t.oe, fun x hx => ?_, t.ph⟩, le1⟩
  · by_cases e1 : i = j
    · subst e1
      rw [List.getElem?_set_self (List.getElem?_eq_some_iff.mp q).1] at hs
      cases hs
      refine ⟨_, h1, ?_⟩
      unfold Rep
      exact ⟨a, od, vs, rfl, nz, upd_same, RepT.le le1 kvs rk⟩
    · rw [List.getElem?_set_ne e1] at hs
      have h := t.slots j s hs
      cases s with
      | no => exact True.intro
      | val d' => obtain ⟨u, h1, h2⟩ := h; exact ⟨u, h1, Rep.le le1 d' h2⟩
      | own x =>
        obtain ⟨u, g1, g2, g3⟩ := h
        exact ⟨u, g1, by rw [List.getElem?_set_ne e1]; exact g2, g3.le le1 fun o e _ => keep u o (fun q => e1 (t.cells.od i j a h2 (q ▸ g2))) e⟩
  · obtain ⟨g1, g2, k, fs, g3⟩ := t.sf x hx
    have n : i ≠ 0 := fun z => by
      subst z
      rw [q] at g3
      cases g3
    exact ⟨g1, by rw [List.getElem?_set_ne n]; exact g2, k, fs, by rw [List.getElem?_set_ne n]; exact g3⟩
end
def sFrzT (i : Nat) (p : Sy) (e : En) (S : Store) : RS := match (e[i]? : Option Sl) with
  | some (Sl.own (.dt kvs)) => p (e.set i (.val (.ft kvs))) S
  | _ => p e S
def setDt (i : Nat) (kvs : List (List Key × D)) (y d : D) (e : En) (S : Store) : RS := match y.tkey with
  | some kk => if kvs.length < sizeLine then .nx (e.set i (.own (.dt (dtSt kvs kk d)))) S else .no
  | none => .no
def sDsOT (i : Nat) (k f : Sx D) (e : En) (S : Store) : RS := match (e[i]? : Option Sl) with
  | some (Sl.own (.dt kvs)) => (f e S).run e fun d S1 => (k e S1).run e fun y S2 => setDt i kvs y d e S2
  | _ => .no
section
variable {K : PySem.W.Frag} {X : Cx} {W : WX} {ex ex2 ex3 tg iter : Expr} {st : Stmt} {f g h k : Sx D} {q : Sy} {pos p pos' apos cpos : Pos} {i : Nat} {x : Str}
theorem s_frzT (h : Es K X W st q) : Es K X W st (sFrzT i q) := by
  obtain ⟨ts, p1, h1⟩ := h.run
  refine ⟨fun D σ H => ts D σ H ∨ tLockS ts D σ H, ⟨fun pins s σ H D I z => z.elim (p1.run pins s σ H D I) ((ps_lockS p1).run pins s σ H D I)⟩, fun b m ow H σ e S D t z => ?_⟩
  unfold sFrzT at z
  split at z
  · rename_i kvs hq
    obtain ⟨a, vs, hH, hl⟩ := t.lockT hq
    exact .inr ⟨a, _, hH, True.intro, fun od => h1 b m _ _ σ _ S D (hl od).1 (PostS.le z (hl od).2)⟩
  · exact .inl (h1 b m ow H σ e S D t z)
theorem s_dsOT (hK : X.K = K) (hu : X.A.units + 65 < cLine) (hN : X.N[i]? = some x) (hv : Vis X.env.scope x) (hk : Ev K X W ex2 k) (hf : Ev K X W ex f) (hd : (x == ("__debug__" : Str)) = false := by decide) (hcd : (x == ("__classdict__" : Str)) = false := by decide)
    (hs : swapsWith ex (some (.Subscript (.Name x p) ex2 pos')) pos.line X.env = pure false := by rfl) : Es K X W (.Assign [.Subscript (.Name x p) ex2 pos'] ex pos) (sDsOT i k f) := by
  subst hK
  obtain ⟨tf, p1, h1⟩ := hf.run
  obtain ⟨tk, p2, h2⟩ := hk.run
  refine ⟨_, ps_dput (by omega) (pe_var hN hv hd hcd) p2 p1 hs, fun b m ow H σ e S D t z => ?_⟩
  unfold sDsOT at z
  split at z
  · rename_i kvs hq
    refine h1 b m ow H σ e S _ t (PostS.run t z fun d S1 v m1 H1 t1 f1 rv z => ?_)
    obtain ⟨a, g1, g2, vs, hH, rk⟩ := t1.slots i _ hq
    refine ⟨.ref a, g1, h2 b m1 ow H1 σ e S1 _ t1 (PostS.run t1 z fun y S2 u m2 H2 t2 f2 ry z => ?_)⟩
    unfold setDt at z
    cases hy : y.tkey with
    | none => rw [hy] at z; exact z.elim
    | some kk =>
      rw [hy] at z
      dsimp only at z
      split at z
      · rename_i hlt
        obtain ⟨kb, ek, hkb, kfit⟩ := tkey_rep ry hy
        have hH2 : H2 a = some (.dT vs) := f2.keep a _ hH (fun _ z => by cases z) fun hm => t1.cells.no a hm (List.mem_of_getElem? g2)
        have rk2 := RepT.le f2.le _ rk
        have hvl := repT_len rk
        have am : zf b.B m2 ow a := .inr (.inr (List.mem_of_getElem? g2))
        obtain ⟨t4, l4⟩ := t2.own_upd (c' := .dt (dtSt kvs kk d)) g2 hq g1 (upd_keep (o := .dT (putK vs kk v))) (fun x h => h.upd fun _ z => by cases z) ⟨_, upd_same, repT_put (RepT.le (le_put am) _ rk2) ⟨kfit, Rep.le (f2.le.trans (le_put am)) d rv⟩⟩ fun _ _ z => by cases z
        refine ⟨a, _, rfl, ?_, z _ m2 _ _ t4 l4⟩
        rw [ek]
        exact DPut.t hH2 hkb (by omega)
      · exact z.elim
  · exact z.elim
theorem itr_dt {w : Wo} {a : Addr} {od : Obj} {kvs : List (List Key × D)} {vs : List (List Key × V)} (z : ¬ w.Z a) (h : w.H a = some (.frz od (.dT vs))) (r : RepT w kvs vs) : ItR w (kvs.map fun p => tkeyD p.1) (Itkt a od vs) := by
  have e : vs.length = (kvs.map fun p => tkeyD p.1).length := by rw [List.length_map, repT_len r]
  refine ⟨_, _, e ▸ walk_keysT (d := a) (o := od) (kvs := vs), fun w' l => l.keep a _ h (fun _ q => by cases q) z, fun i d w' v H' hd l fl y => ?_⟩
  obtain ⟨rfl, k, u, q0, hk, rfl, hq0⟩ := y
  rw [List.getElem?_map] at hd
  cases q : kvs[i]? with
  | none => rw [q] at hd; cases hd
  | some p =>
    rw [q] at hd
    cases hd
    obtain ⟨v', e1, fit, _⟩ := repT_at r q
    rw [hk] at e1
    cases e1
    exact ⟨Same.refl _, rep_tkeyD fit hq0 fl⟩
theorem i_dt (hK : X.K = K) (hf : Ev K X W iter f) : Ei K X W tg iter (iDt f) := by
  subst hK
  obtain ⟨ta, p1, h1⟩ := hf.run
  refine ⟨_, pi_keys p1, fun b m ow H σ e S Q t q => h1 b m ow H σ e S _ t (Post.bind q fun x S1 v m1 H1 f1 c1 rx q => ?_)⟩
  cases x <;> try exact q.elim
  rename_i kvs
  unfold Rep at rx
  obtain ⟨a, od, vs, rfl, z, hH, rk⟩ := rx
  exact ⟨a, od, rfl, .inr ⟨vs, hH, q _ m1 H1 (Fut.refl _ _) c1 (itr_dt z hH rk)⟩⟩
theorem x_lenT (hg : Gl X "len") (hm : X.mg "len" = none) (hf : Ev K X W ex f) (hK : X.K = K := by rfl)
    (he : starEach [ex] X.env = (false, eval ex X.env) :: starEach [] X.env := by rfl) (hpl : (backTo pos (starEach [] X.env)).any (·.1) = false := by rfl) : Ev K X W (.Call (.Name "len" p) [ex] [] pos) (eLenT f) := by
  subst hK
  obtain ⟨ta, p1, h1⟩ := hf.run
  refine ⟨_, pe_callB call_lenDT hg hm PySem.boot_len (pa_cons p1 pa_nil he) (by decide) (by decide) he hpl, fun b m ow H σ e S Q t q => h1 b m ow H σ e S _ t (Post.bind q fun d S1 v m1 H1 f1 c1 rx q => ?_)⟩
  cases hx : d.dtv S1 with
  | none => rw [hx] at q; exact q.elim
  | some kvs =>
    rw [hx] at q
    obtain ⟨a, vs, rfl, rd, rk⟩ := dtv_at c1 rx hx
    refine ⟨a, vs, rfl, rd, ?_⟩
    have q : Post X.K b.B ow m1 H1 Rep (fun c d => W c d σ) Q (.ok (.int kvs.length) S1) := q
    rw [← repT_len rk] at q
    exact q.val c1 rep_int
end
end Sh
namespace PySem.W
open Lean Elab Tactic Meta PySem PySem.Calls PyProof.Rows PyProof.V PySem.Spec
section
variable {prog : Program} {w : World} {K : Type} [DecidableEq K] {knd : HeapKind prog w K} {A : Around} {E : Value → Shared → Prop} {s : Shared}
inductive HitsT {K : Type} [DecidableEq K] (A : Around) (s : Shared) (xb : List (K × Addr × Value)) : List (K × Addr × Value) → Bool → Prop
  | nil : HitsT A s xb [] true
  | miss {k : K} {p : Addr × Value} {r : List (K × Addr × Value)} : atKey xb k = none → HitsT A s xb ((k, p) :: r) false
  | hit {k : K} {p : Addr × Value} {y : Addr × Value} {r : List (K × Addr × Value)} {e b : Bool} : atKey xb k = some y → SeqAt.EqAt A s p.2 y.2 e → HitsT A s xb r b → HitsT A s xb ((k, p) :: r) (e && b)
theorem HitsT.inv {xb : List (K × Addr × Value)} {k : K} {p : Addr × Value} {r : List (K × Addr × Value)} {b : Bool} (h : HitsT A s xb ((k, p) :: r) b) :
    (atKey xb k = none ∧ b = false) ∨ ∃ y e b', atKey xb k = some y ∧ SeqAt.EqAt A s p.2 y.2 e ∧ HitsT A s xb r b' ∧ b = (e && b') := by
  cases h with
  | miss hn => exact .inl ⟨hn, rfl⟩
  | hit hy he hr => exact .inr ⟨_, _, _, hy, he, hr, rfl⟩
theorem keq_samePairsT {nm : String} {a b : Addr} {xa xb : List (K × Addr × Value)} {r : Bool} {Q : Bool → Shared → Prop} (hu : knd.room A) (ha : (a == sysModules) = false) (hb : (b == sysModules) = false)
    (da : s.heap.DictOfH knd a xa) (db : s.heap.DictOfH knd b xb) (hits : xa.length = xb.length → HitsT A s xb xa r) (h : Q (xa.length == xb.length && r) s) :
    wpAny (model prog w) A (Builtin.Dict.samePairs nm a b) Q E s := by
  obtain ⟨oa, es, ep, hoa, _, hda, hea, hka, _⟩ := da
  obtain ⟨ob, es', ep', hob, _, hdb, heb, hkb, hnb⟩ := db
  have hla : xa.length = es.size := (size_of_entries hea).symm
  have hlb : xb.length = es'.size := (size_of_entries heb).symm
  rw [hla, hlb] at h
  unfold Builtin.Dict.samePairs Builtin.Dict.showsAll
  rw [if_neg (show ¬ (a == sysModules) = true by rw [ha]; exact Bool.false_ne_true), if_neg (show ¬ (b == sysModules) = true by rw [hb]; exact Bool.false_ne_true)]
  refine wpAny_bind (wpAny_pure (wpAny_bind (wpAny_pure ?_)))
  refine wpAny_bind (wpAny_dictEntries hoa hda ?_)
  dsimp only
  refine wpAny_bind (wpAny_dictEntries hob hdb ?_)
  by_cases hsz : es.size = es'.size
  case neg =>
    rw [if_pos (by simpa using hsz)]
    have hbf : (es.size == es'.size) = false := by simpa using hsz
    rw [hbf, Bool.false_and] at h
    exact wpAny_bind (wpAny_rule (wpAny_pure h))
  case pos =>
    have h' : Q r s := by simpa [hsz] using h
    have hits' := hits (by rw [hla, hlb]; exact hsz)
    rw [if_neg (by rw [hsz]; simp)]
    refine wpAny_bind (wpAny_dictEpoch hoa hda ?_)
    refine wpAny_bind ?_
    rw [Std.Legacy.Range.forIn_eq_forIn_range']
    simp only [Std.Legacy.Range.size, Nat.sub_zero, Nat.add_sub_cancel, Nat.div_one]
    refine wpAny_forIn_list _
      (fun rest q s' => s' = s ∧ q = (none, ()) ∧ ∃ i, rest = List.range' i (es.size - i) ∧ i ≤ es.size ∧ HitsT A s xb (xa.drop i) r)
      _ ?_ ?_ _ _ ⟨rfl, rfl, 0, by simp, Nat.zero_le _, hits'⟩
    · rintro x rest q s' ⟨rfl, rfl, i, hr, hi, hpre⟩
      have hlt : i < es.size := by
        rcases Nat.lt_or_ge i es.size with h | h
        · exact h
        · rw [Nat.sub_eq_zero_of_le h] at hr; simp at hr
      obtain ⟨rfl, hrest⟩ : x = i ∧ rest = List.range' (i + 1) (es.size - (i + 1)) := by
        have e : es.size - i = (es.size - (i + 1)) + 1 := by omega
        rw [e, List.range'_succ] at hr
        injection hr with h1 h2
        exact ⟨h1, h2⟩
      refine wpAny_bind (wpAny_dictEntries hoa hda ?_)
      have hlt' : x < xa.length := by rw [hla]; exact hlt
      obtain ⟨k, p, hkv⟩ : ∃ k p, xa[x] = (k, p) := ⟨_, _, rfl⟩
      have hdrop : xa.drop x = (k, p) :: xa.drop (x + 1) := by rw [← hkv]; exact List.drop_eq_getElem_cons hlt'
      have hin : (k, p) ∈ xa := by rw [← hkv]; exact List.getElem_mem hlt'
      have hex : es[x]? = some (entryOfKey knd (k, p)) := by rw [entry_at hea x, List.getElem?_eq_getElem hlt', hkv]; rfl
      rw [hex]
      rw [hdrop] at hpre
      show wpAny _ _ (holding [Value.ref p.1, p.2] _ >>= _) _ _ _
      refine wpAny_bind (wpAny_holding (wpAny_bind (wpAny_dictFind_heap hu (hka _ hin) hob hdb heb hkb hnb (fun hno => ?_) (fun j y hj => ?_))))
      · have hn := atKey_none_of_get hno
        rcases hpre.inv with ⟨_, er⟩ | ⟨y, _, _, hy, _⟩
        · rw [er] at h'
          refine wpAny_pure ?_
          show wpAny _ _ (if (!false) = true then _ else _) _ _ _
          rw [if_pos (by decide)]
          exact wpAny_pure (wpAny_pure h')
        · rw [hn] at hy; exact nomatch hy
      · have hv' := atKey_of_get hnb hj
        refine wpAny_bind (wpAny_dictEntries hob hdb ?_)
        rw [entry_at heb j, hj]
        rcases hpre.inv with ⟨hn, _⟩ | ⟨y2, e, b', hy, he, hrr, er⟩
        · rw [hv'] at hn; exact nomatch hn
        · have ey : y = y2 := Option.some.inj (hv'.symm.trans hy)
          subst ey
          refine wpAny_holding (he prog w _ _ ?_)
          cases e with
          | false =>
            rw [er, Bool.false_and] at h'
            show wpAny _ _ (if (!false) = true then _ else _) _ _ _
            rw [if_pos (by decide)]
            exact wpAny_pure (wpAny_pure h')
          | true =>
            rw [Bool.true_and] at er
            rw [← er] at hrr
            show wpAny _ _ (if (!true) = true then _ else _) _ _ _
            rw [if_neg (by decide)]
            refine wpAny_bind (wpAny_dictEpoch hoa hda ?_)
            rw [if_neg (by simp)]
            exact wpAny_pure ⟨rfl, rfl, x + 1, hrest, hlt, hrr⟩
    · rintro q s' ⟨rfl, rfl, i, hr, hi, hpre⟩
      have hin : i = es.size := by
        rcases Nat.lt_or_ge i es.size with h | h
        · have e : es.size - i = (es.size - (i + 1)) + 1 := by omega
          rw [e, List.range'_succ] at hr; exact nomatch hr
        · exact Nat.le_antisymm hi h
      refine wpAny_pure ?_
      rw [hin, ← hla, List.drop_length] at hpre
      cases hpre
      exact h'
theorem dictH_typeIs {a : Addr} {xs : List (K × Addr × Value)} (d : s.heap.DictOfH knd a xs) : s.TypeIs (.ref a) "dict" := by
  obtain ⟨o, _, _, h, e, _⟩ := d
  exact ⟨o, h, e.1⟩
theorem keq_T (neg : Bool) {a b : Addr} {xa xb : List (K × Addr × Value)} {r : Bool} {Q : Value → Shared → Prop} (hu : knd.room A.in1) (hu2 : A.units < cLine) (ha : (a == sysModules) = false) (hb : (b == sysModules) = false)
    (da : s.heap.DictOfH knd a xa) (db : s.heap.DictOfH knd b xb) (hits : xa.length = xb.length → HitsT A.in1 s xb xa r)
    (h : Q (.bool (if neg then !(xa.length == xb.length && r) else (xa.length == xb.length && r))) s) :
    wpAny (model prog w) A (compareOp (if neg then .NotEq else .Eq) (.ref a) (.ref b)) Q E s := by
  have ta := dictH_typeIs da
  have tb := dictH_typeIs db
  cases neg with
  | false =>
    refine wpAny_richCompare_same_room (op := .Eq) ta tb PySem.F.slot_dict_eq (wpAny_call_entry PySem.F.slot_dict_eq ta PySem.F.entry_dict_eq ?_ (PySem.F.args_dict_eq_2 _ _)) hu2
    show wpAny _ _ (Builtin.Dict.dictSlotArgs "__eq__" ⟨[.ref a, .ref b], []⟩ >>= _) _ _ s
    refine wpAny_bind ?_
    unfold Builtin.Dict.dictSlotArgs
    refine wpAny_bind (wpAny_notOrdered_dict ta ?_)
    show wpAny _ _ (pure (Value.ref a, Value.ref b)) _ _ s
    refine wpAny_pure ?_
    refine wpAny_bind (wpAny_isInstance (T := "dict") tb PySem.F.sub_dict_dict ?_)
    simp only [Bool.not_true, Bool.false_eq_true, if_false]
    refine wpAny_bind (wpAny_pure (wpAny_bind (wpAny_pure ?_)))
    refine wpAny_bind (keq_samePairsT hu ha hb da db hits ?_)
    refine wpAny_pure ⟨_, rfl, ?_, ?_⟩
    · exact fun x => nomatch x
    · simpa using h
  | true =>
    refine wpAny_richCompare_same_room (op := .NotEq) ta tb PySem.F.slot_dict_ne (wpAny_call_entry PySem.F.slot_dict_ne ta PySem.F.entry_dict_ne ?_ (PySem.F.args_dict_ne_2 _ _)) hu2
    show wpAny _ _ (Builtin.Dict.dictSlotArgs "__ne__" ⟨[.ref a, .ref b], []⟩ >>= _) _ _ s
    refine wpAny_bind ?_
    unfold Builtin.Dict.dictSlotArgs
    refine wpAny_bind (wpAny_notOrdered_dict ta ?_)
    show wpAny _ _ (pure (Value.ref a, Value.ref b)) _ _ s
    refine wpAny_pure ?_
    refine wpAny_bind (wpAny_isInstance (T := "dict") tb PySem.F.sub_dict_dict ?_)
    simp only [Bool.not_true, Bool.false_eq_true, if_false]
    refine wpAny_bind (wpAny_pure (wpAny_bind (wpAny_pure ?_)))
    refine wpAny_bind (keq_samePairsT hu ha hb da db hits ?_)
    refine wpAny_pure ⟨_, rfl, ?_, ?_⟩
    · exact fun x => nomatch x
    · simpa using h
end
end PySem.W
namespace Sh
open PySem PySem.Spec PyProof.Rows L2 Nk StX
variable [TabSet] [BasePred]
def isiY (bi : List String) (own : List (String × Bool)) : D → Option Bool
  | .ft _ => some (bi.contains "dict")
  | x => isiF bi own x
def eIsiY (bi : List String) (own : List (String × Bool)) (f : Sx D) (e : En) (S : Store) : R D := (f e S).bind fun x S1 => R.of S1 ((isiY bi own x).map .bl)
section
variable {K : PySem.W.Frag} {X : Cx} {W : WX} {ex ex2 : Expr} {f g : Sx D} {pos p : Pos}
theorem isiY_at {w : Wo} {T : Value} {bi : List String} {own : List (String × Bool)} (ok : IsiOk K T bi own) (hw : w.K = K) {d : D} {v : V} {b : Bool} (r : Rep w d v) (h : isiY bi own d = some b) : ∃ t, TyY K w.H v t ∧ PySem.W.kitOne K t T = some b := by
  cases d with
  | ft kvs =>
    unfold isiY at h
    cases h
    unfold Rep at r
    obtain ⟨a, o, vs, rfl, _, t, _⟩ := r
    exact ⟨_, .inr ⟨rfl, a, o, vs, rfl, t⟩, ok.b _ (by decide)⟩
  | _ =>
    obtain ⟨t, h1, h2⟩ := isi_at ok hw r h
    exact ⟨t, .inl h1, h2⟩
theorem x_isiY {T : Value} {vT : V} {bi : List String} {own : List (String × Bool)} (hK : X.K = K) (hg : Gl X "isinstance") (hm : X.mg "isinstance" = none) (hf : Ev K X W ex f) (hT : PE X ex2 (tC vT)) (ok : IsiOk K T bi own) (hv : ClsV vT T)
    (he : starEach [ex, ex2] X.env = (false, eval ex X.env) :: starEach [ex2] X.env := by rfl) (he2 : starEach [ex2] X.env = (false, eval ex2 X.env) :: starEach [] X.env := by rfl) (hpl : (backTo pos (starEach [ex2] X.env)).any (·.1) = false := by rfl) : Ev K X W (.Call (.Name "isinstance" p) [ex, ex2] [] pos) (eIsiY bi own f) := by
  subst hK
  obtain ⟨te, p1, h1⟩ := hf.run
  refine ⟨_, pe_callB call_isiY hg hm (by decide +kernel) (pa_cons p1 (pa_cons hT pa_nil he2) he) (by decide) (by decide) he hpl, fun b m ow H σ e S Q t q => h1 b m ow H σ e S _ t (Post.bind q fun d S1 v m1 H1 f1 c1 rx q => ?_)⟩
  cases e : isiY bi own d with
  | none => rw [e] at q; exact q.elim
  | some r =>
    rw [e] at q
    obtain ⟨t, h2, h3⟩ := isiY_at ok (w := wo X.K b.B m1 ow H1) rfl rx e
    exact ⟨v, vT, t, T, r, rfl, hv, h2, h3, q.val c1 rep_bl⟩
end
def dtHits (ls : List (List Key × D)) : List (List Key × D) → Option Bool
  | [] => some true
  | (k, d) :: r => match dtV ls k with
    | none => some false
    | some d2 => (dEq d d2).bind fun b => b.b.bind fun b => (dtHits ls r).map fun c => b && c
def dtEq (ks ls : List (List Key × D)) : Option Bool := if ks.length = ls.length then dtHits ls ks else some false
def oEqT (neg : Bool) (x y : D) (S : Store) : R D := R.of S ((x.dtv S).bind fun ks => (y.dtv S).bind fun ls => (dtEq ks ls).map fun b => .bl (if neg then !b else b))
inductive HitsTV (K : PySem.W.Frag) (H : Hp) (ls : List (List Key × V)) : List (List Key × V) → Bool → Prop
  | nil : HitsTV K H ls [] true
  | miss {k : List Key} {v : V} {r : List (List Key × V)} : valV ls k = none → HitsTV K H ls ((k, v) :: r) false
  | hit {k : List Key} {v y : V} {r : List (List Key × V)} {p q : PyData} {b : Bool} : valV ls k = some y → Dp K H v p → Dp K H y q → p.plain = true → q.plain = true → p.depth ≤ 60 → HitsTV K H ls r b → HitsTV K H ls ((k, v) :: r) (PyData.eqv p q && b)
def rEqT (K : PySem.W.Frag) (neg : Bool) : R2 := fun x y H Q => ∃ a b ks ls r, x = .ref a ∧ y = .ref b ∧ Rd H a (.dT ks) ∧ Rd H b (.dT ls) ∧ (ks.length = ls.length → HitsTV K H ls ks r) ∧ Q (.bl (if neg then !(ks.length == ls.length && r) else (ks.length == ls.length && r))) H
theorem hitsT_of {X : Cx} {pins : List (Addr × Obj)} {σ : L2.St} {H : Hp} {s : Shared} {A : Around} {ls : List (List Key × V)} {xb : List (List Key × Addr × Value)} (I : Inv X pins σ H s) (hu : A.units + 62 < cLine) (rb : KT H ls xb) : ∀ {ks : List (List Key × V)} {xa : List (List Key × Addr × Value)} {r : Bool}, KT H ks xa → HitsTV X.K H ls ks r → PySem.W.HitsT A s xb xa r
  | [], xa, r, ra, h => by
    cases ra
    cases h
    exact .nil
  | (k, v) :: ks, xa, r, ra, h => by
    cases ra with
    | @cons a q as bs h1 t =>
      obtain ⟨k', ka, u⟩ := q
      obtain ⟨e1, _, ru⟩ := h1
      have e1 : k = k' := e1
      subst e1
      have ru : RelV v u := ru
      cases h with
      | miss hn =>
        refine .miss ?_
        have := rb.val k
        rw [hn] at this
        cases hv : atKey xb k with
        | none => rfl
        | some y => rw [hv] at this; exact this.elim
      | @hit _ _ y _ p q b hy d1 d2 p1 p2 p3 hr =>
        have := rb.val k
        rw [hy] at this
        cases hv : atKey xb k with
        | none => rw [hv] at this; exact this.elim
        | some y' =>
          rw [hv] at this
          obtain ⟨as, r1⟩ := Dp.reads I p v u d1 ru
          obtain ⟨bs, r2⟩ := Dp.reads I q y y'.2 d2 this
          exact .hit hv (SeqAt.eqAt_plain _ _ _ _ _ _ _ _ r1 r2 p1 p2 (by omega)) (hitsT_of I hu rb t hr)
theorem op_eqT {X : Cx} (neg : Bool) (hu : X.A.units + 65 < cLine) : OpR X (compareOp (if neg then .NotEq else .Eq)) (rEqT X.K neg) := by
  intro pins s σ H x y v u Q I rx ry h
  obtain ⟨a, b, ks, ls, r, rfl, rfl, ea, eb, hp, q⟩ := h
  obtain rfl : v = Value.ref a := rx
  obtain rfl : u = Value.ref b := ry
  obtain ⟨_, ya, va, ra, da⟩ := dt_rd I.hok ea
  obtain ⟨_, yb, vb, rb, db⟩ := dt_rd I.hok eb
  have la := Paired.length ra
  have lb := Paired.length rb
  refine PySem.W.keq_T neg (knd := tupleKind (mixKind X.prog X.w)) (r := r) (tupleKind_room_in1 (by omega)) (by omega) ya yb da db (fun hl => hitsT_of I (by show X.A.units + 1 + 62 < cLine; omega) rb ra (hp (by rw [la, lb]; exact hl))) (fin_bl I q ?_)
  rw [la, lb]
section
variable {K : PySem.W.Frag} {X : Cx}
theorem hitsTV_of {w : Wo} {ls : List (List Key × D)} {lv : List (List Key × V)} (rl : RepT w ls lv) : ∀ {ks : List (List Key × D)} {kv : List (List Key × V)} {b : Bool}, RepT w ks kv → dtHits ls ks = some b → HitsTV w.K w.H lv kv b
  | [], kv, b, r, h => by
    unfold RepT at r
    unfold dtHits at h
    subst r
    cases h
    exact .nil
  | (k, d) :: ks, kv, b, r, h => by
    unfold RepT at r
    obtain ⟨v, kv', rfl, ⟨_, rv⟩, r⟩ := r
    unfold dtHits at h
    cases hv : dtV ls k with
    | none =>
      rw [hv] at h
      cases h
      exact .miss (repT_none rl hv)
    | some d2 =>
      rw [hv] at h
      dsimp only at h
      obtain ⟨v2, e2, rv2⟩ := repT_get rl hv
      unfold dEq dEqP at h
      split at h
      · rename_i p q ep eq
        split at h
        · rename_i h60
          simp only [Bool.false_eq_true, if_false, Option.bind_some, D.b] at h
          cases hh : dtHits ls ks with
          | none => rw [hh] at h; cases h
          | some c =>
            rw [hh] at h
            cases h
            obtain ⟨a1, b1⟩ := rep_dp _ rv ep
            obtain ⟨a2, b2⟩ := rep_dp _ rv2 eq
            exact .hit e2 a1 a2 b1 b2 h60 (hitsTV_of rl r hh)
        · cases h
      · cases h
theorem oe_eqT (neg : Bool) (hK : X.K = K) (hu : X.A.units + 65 < cLine) : OpE K X (compareOp (if neg then .NotEq else .Eq)) (oEqT neg) := by
  subst hK
  refine ⟨_, op_eqT neg hu, ?_⟩
  intro B m ow H S x y dx dy Q W c rx ry q
  unfold oEqT at q
  cases hx : dx.dtv S with
  | none => rw [hx] at q; exact q.elim
  | some ks =>
    cases hy : dy.dtv S with
    | none => rw [hx, hy] at q; exact q.elim
    | some ls =>
      rw [hx, hy] at q
      simp only [Option.bind_some] at q
      obtain ⟨a, va, rfl, ra, ka⟩ := dtv_at c rx hx
      obtain ⟨b, vb, rfl, rb, kb⟩ := dtv_at c ry hy
      have l1 := repT_len ka
      have l2 := repT_len kb
      unfold dtEq at q
      by_cases hl : ks.length = ls.length
      · rw [if_pos hl] at q
        cases hh : dtHits ls ks with
        | none => rw [hh] at q; exact q.elim
        | some r =>
          rw [hh] at q
          have q : Post X.K B ow m H Rep W Q (.ok (.bl (if neg then !r else r)) S) := q
          refine ⟨a, b, va, vb, r, rfl, rfl, ra, rb, fun _ => hitsTV_of kb ka hh, ?_⟩
          have : (va.length == vb.length) = true := by rw [l1, l2, hl]; simp
          rw [this, Bool.true_and]
          exact q.val c rep_bl
      · rw [if_neg hl] at q
        have q : Post X.K B ow m H Rep W Q (.ok (.bl (if neg then !false else false)) S) := q
        refine ⟨a, b, va, vb, false, rfl, rfl, ra, rb, fun z => absurd (by rw [← l1, ← l2]; exact z) hl, ?_⟩
        rw [Bool.and_false]
        exact q.val c rep_bl
end
end Sh
namespace Sh
open PySem PySem.Spec PyProof.Rows L2 Nk StX
variable [TabSet] [BasePred]
theorem room1 {k : Nat} {A : Around} (h : Room k A) : A.units + 1 < cLine := by have := h.un; omega
def putPT (i j l : Nat) (d1 : D) (kvs : List (List Key × D)) (d3 : D) (e : En) (S : Store) : RS := if notOwn i e = true ∧ (j < (e.set i (.val d1)).length ∧ notOwn j (e.set i (.val d1)) = true) ∧ notOwn l ((e.set i (.val d1)).set j (.own (.dt kvs))) = true then .nx (((e.set i (.val d1)).set j (.own (.dt kvs))).set l (.val d3)) S else .no
def sPar3T (i j l : Nat) (f : Sx D) (g : Sx (List (List Key × D))) (h : Sx D) (e : En) (S : Store) : RS := (f e S).run e fun d1 S1 => (g e S1).run e fun kvs S2 => (h e S2).run e fun d3 S3 => putPT i j l d1 kvs d3 e S3
theorem s_par3T {K : PySem.W.Frag} {X : Cx} {W : WX} {ex ex2 ex3 : Expr} {f h : Sx D} {g : Sx (List (List Key × D))} {i j l : Nat} {x y z : Str} {px py pz pt pos : Pos} {kt k2 pt2} (hc : X.calm = true) (hN : X.N.Nodup) (hi : X.N[i]? = some x) (hj : X.N[j]? = some y) (hl : X.N[l]? = some z) (hij : i ≠ j) (hil : i ≠ l) (hjl : j ≠ l)
    (hx : X.env.scope.names.lookup x = some .local) (hy : X.env.scope.names.lookup y = some .local) (hz : X.env.scope.names.lookup z = some .local) (hf : Ev K X W ex f) (hg : Eft K X W ex2 g) (hh : Ev K X W ex3 h)
    (hw : swappedStores [.Tuple [.Name x px, .Name y py, .Name z pz] kt pt] (.Tuple [ex, ex2, ex3] k2 pt2) X.env = pure (some [x, y, z]))
    (he : starEach [ex, ex2, ex3] X.env = (false, eval ex X.env) :: starEach [ex2, ex3] X.env := by rfl) (he2 : starEach [ex2, ex3] X.env = (false, eval ex2 X.env) :: starEach [ex3] X.env := by rfl) (he3 : starEach [ex3] X.env = (false, eval ex3 X.env) :: starEach [] X.env := by rfl)
    (hs : swapsWithSole [.Tuple [.Name x px, .Name y py, .Name z pz] kt pt] (.Tuple [ex, ex2, ex3] k2 pt2) pos.line X.env = pure false := by rfl) : Es K X W (.Assign [.Tuple [.Name x px, .Name y py, .Name z pz] kt pt] (.Tuple [ex, ex2, ex3] k2 pt2) pos) (sPar3T i j l f g h) := by
  obtain ⟨tf, p0, h0⟩ := hf.run
  obtain ⟨tg, p1, h1⟩ := hg.run
  obtain ⟨th, p2, h2⟩ := hh.run
  refine ⟨_, ps_par3 hc hN hi hj hl hij hil hjl hx hy hz (pa_cons p0 (pa_cons p1 (pa_cons p2 pa_nil he3) he2) he) hw hs, fun b m ow H σ e S D t z => h0 b m ow H σ e S _ t ?_⟩
  unfold sPar3T at z
  cases r : f e S with
  | no => rw [r] at z; exact z.elim
  | er x S1 => rw [r] at z; exact fun c d m1 H1 f1 c1 rx => z c d σ m1 ow H1 (t.go f1 c1) f1.le rx
  | ok d1 S1 =>
    rw [r, run_ok] at z
    intro v1 m1 H1 f1 c1 r1
    have t1 := t.go f1 c1
    refine h1 b m1 ow H1 σ e S1 _ t1 ?_
    generalize g e S1 = R at z ⊢
    cases R with
    | no => exact z.elim
    | er x S2 => exact fun c d m2 H2 f2 c2 rx => z c d σ m2 ow H2 (t1.go f2 c2) (f1.trans f2).le rx
    | ok kvs S2 =>
      rw [run_ok] at z
      intro p vs m2 H2 f2 hp c2 hz hv rk
      obtain ⟨t2, lp⟩ := t1.hid f2 hp c2
      refine h2 _ m2 ow H2 σ e S2 _ t2 ?_
      generalize h e S2 = R at z ⊢
      cases R with
      | no => exact z.elim
      | er x S3 =>
        intro c d m3 H3 f3 c3 rx2
        have c4 : Cells K b.B m3 ow H3 S3 := c3.unhide
        exact z c d σ m3 ow H3 (t1.go (f2.trans f3) c4) (f1.trans (f2.trans f3)).le (ExR.le le_hid rx2)
      | ok d3 S3 =>
        rw [run_ok] at z
        intro v3 m3 H3 f3 c3 r3
        unfold putPT at z
        split at z
        · rename_i hn
          have hv2 : H3 p = some (.dT vs) := f3.keep p _ hv (fun _ q => by cases q) fun q => hz (.inr (.inl q))
          have l2 : Le (wo K (fun x => b.B x ∨ x = p) m2 ow H2) (wo K (fun x => b.B x ∨ x = p) m3 ow H3) := f3.le
          have hz2 : ¬ zf b.B m3 ow p := by
            obtain ⟨⟨q, e2, hq⟩, _, _⟩ := f3
            rintro (h | h | h)
            · exact hz (.inl h)
            · rw [e2] at h
              rcases List.mem_append.mp h with h | h
              · exact hz (.inr (.inl h))
              · exact (hq p h).no hv (fun _ q => by cases q)
            · exact hz (.inr (.inr h))
          have t3 := (t1.go (f2.trans f3) (Cells.unhide (p := p) c3)).set' hn.1 (Rep.le (f2.trans f3).le _ r1)
          have t3h := (t2.go f3 c3).set' hn.1 (Rep.le (lp.trans l2) _ r1)
          obtain ⟨t4, l4⟩ := t3.own (c := .dt kvs) (i := j) hz2 (t1.fut.dom p hp) c3 ⟨vs, hv2, RepT.le l2 kvs rk⟩ (fun j s _ hs => t3h.slots j s hs) hn.2.1.1 hn.2.1.2
          exact ⟨v1, .ref p, v3, rfl, z _ m3 _ H3 (t4.set' hn.2.2 (Rep.le l4 _ r3)) ((f1.le.trans (lp.trans l2)).trans l4)⟩
        · exact z.elim
end Sh
namespace Sh
open PySem PyProof.Rows L2
theorem mapA_enc {α : Type} {g : Tg} {f : Sx D} {e : En} {S : Store} (enc : α → D) (k : α → D) (xs : List α) (acc : List D) (h : ∀ x ∈ xs, ∃ e1, g (enc x) e = some e1 ∧ f e1 S = .ok (k x) S) : mapA g tYesD f acc (xs.map enc) e S = .ok (acc ++ xs.map k) S := by
  induction xs generalizing acc with
  | nil => rw [List.map_nil, mapA_nil, List.map_nil, List.append_nil]
  | cons x r ih =>
    obtain ⟨e1, h1, h2⟩ := h x List.mem_cons_self
    rw [List.map_cons, mapA_cons, h1]
    show (R.ok true S).bind _ = _
    rw [ok_bind, if_pos rfl, h2, ok_bind, ih (acc ++ [k x]) (fun y hy => h y (List.mem_cons_of_mem _ hy)), List.append_assoc]
    rfl
theorem szl {n : Nat} (h : n ≤ 16777216) : (n ≤ sizeLine) = True := eq_true h
theorem szt {n : Nat} (h : n < 16777216) : (n < sizeLine) = True := eq_true h
theorem b_bl {b : Bool} : D.b (.bl b) = some b := rfl
def isDat : Nat → D → Bool
  | _, .non => true
  | _, .bl _ => true
  | _, .int _ => true
  | _, .str _ => true
  | 0, _ => false
  | n + 1, .tup xs => xs.all (isDat n)
  | n + 1, .lst xs => xs.all (isDat n)
  | _, _ => false
mutual
def D.qe : D → D → Bool
  | .non, .non => true
  | .bl a, .bl b => a == b
  | .bl a, .int j => (if a then 1 else 0) == j
  | .int i, .bl b => i == (if b then 1 else 0)
  | .int i, .int j => i == j
  | .str x, .str y => x == y
  | .lst xs, .lst ys => D.qes xs ys
  | .tup xs, .tup ys => D.qes xs ys
  | _, _ => false
def D.qes : List D → List D → Bool
  | [], [] => true
  | x :: xs, y :: ys => D.qe x y && D.qes xs ys
  | _, _ => false
end
mutual
theorem eqv_qe : ∀ (x y : D) {p q : PyData}, x.py = some p → y.py = some q → PyData.eqv p q = D.qe x y
  | .lst xs, y, p, q, e, e2 => by
    unfold D.py at e
    cases h : D.pys xs with
    | none => rw [h] at e; cases e
    | some ps =>
      rw [h] at e; cases e
      cases y <;> unfold D.py at e2 <;> try cases e2
      all_goals try (unfold D.qe; rfl)
      all_goals
        rename_i ys
        cases h2 : D.pys ys with
        | none => rw [h2] at e2; cases e2
        | some qs =>
          rw [h2] at e2; cases e2
          unfold D.qe PyData.eqv
          first | exact eqvs_qe xs ys h h2 | rfl
  | .tup xs, y, p, q, e, e2 => by
    unfold D.py at e
    cases h : D.pys xs with
    | none => rw [h] at e; cases e
    | some ps =>
      rw [h] at e; cases e
      cases y <;> unfold D.py at e2 <;> try cases e2
      all_goals try (unfold D.qe; rfl)
      all_goals
        rename_i ys
        cases h2 : D.pys ys with
        | none => rw [h2] at e2; cases e2
        | some qs =>
          rw [h2] at e2; cases e2
          unfold D.qe PyData.eqv
          first | exact eqvs_qe xs ys h h2 | rfl
  | .non, y, p, q, e, e2 => by
    cases e
    cases y <;> unfold D.py at e2 <;> try cases e2
    all_goals try (unfold D.qe; rfl)
    all_goals
      rename_i ys
      cases h2 : D.pys ys with
      | none => rw [h2] at e2; cases e2
      | some qs => rw [h2] at e2; cases e2; unfold D.qe; rfl
  | .bl b, y, p, q, e, e2 => by
    cases e
    cases y <;> unfold D.py at e2 <;> try cases e2
    all_goals try (unfold D.qe; rfl)
    all_goals
      rename_i ys
      cases h2 : D.pys ys with
      | none => rw [h2] at e2; cases e2
      | some qs => rw [h2] at e2; cases e2; unfold D.qe; rfl
  | .int i, y, p, q, e, e2 => by
    cases e
    cases y <;> unfold D.py at e2 <;> try cases e2
    all_goals try (unfold D.qe; rfl)
    all_goals
      rename_i ys
      cases h2 : D.pys ys with
      | none => rw [h2] at e2; cases e2
      | some qs => rw [h2] at e2; cases e2; unfold D.qe; rfl
  | .str i, y, p, q, e, e2 => by
    cases e
    cases y <;> unfold D.py at e2 <;> try cases e2
    all_goals try (unfold D.qe; rfl)
    all_goals
      rename_i ys
      cases h2 : D.pys ys with
      | none => rw [h2] at e2; cases e2
      | some qs => rw [h2] at e2; cases e2; unfold D.qe; rfl
  | .ty _, _, _, _, e, _ => by unfold D.py at e; cases e
  | .cls _, _, _, _, e, _ => by unfold D.py at e; cases e
  | .obj _ _, _, _, _, e, _ => by unfold D.py at e; cases e
  | .exc _ _, _, _, _, e, _ => by unfold D.py at e; cases e
  | .dk _, _, _, _, e, _ => by unfold D.py at e; cases e
  | .dt _, _, _, _, e, _ => by unfold D.py at e; cases e
  | .ref _, _, _, _, e, _ => by unfold D.py at e; cases e
  | .scr _, _, _, _, e, _ => by unfold D.py at e; cases e
  | .adr _, _, _, _, e, _ => by unfold D.py at e; cases e
  | .fk _, _, _, _, e, _ => by unfold D.py at e; cases e
  | .ft _, _, _, _, e, _ => by unfold D.py at e; cases e
  | .tpl _, _, _, _, e, _ => by unfold D.py at e; cases e
theorem eqvs_qe : ∀ (xs ys : List D) {ps qs : List PyData}, D.pys xs = some ps → D.pys ys = some qs → PyData.eqvAll ps qs = D.qes xs ys
  | [], ys, ps, qs, e, e2 => by
    cases e
    cases ys with
    | nil => cases e2; unfold D.qes; rfl
    | cons y r =>
      unfold D.pys at e2
      cases h : y.py <;> cases h2 : D.pys r <;> simp only [h, h2] at e2 <;> cases e2
      unfold D.qes; rfl
  | x :: xs, ys, ps, qs, e, e2 => by
    unfold D.pys at e
    cases h : x.py <;> cases h2 : D.pys xs <;> simp only [h, h2] at e <;> cases e
    cases ys with
    | nil => cases e2; unfold D.qes; rfl
    | cons y r =>
      unfold D.pys at e2
      cases h3 : y.py <;> cases h4 : D.pys r <;> simp only [h3, h4] at e2 <;> cases e2
      unfold D.qes PyData.eqvAll
      rw [eqv_qe x y h h3, eqvs_qe xs r h2 h4]
end
mutual
theorem dat_py : ∀ (n : Nat) (x : D), isDat n x = true → ∃ p, x.py = some p ∧ p.depth ≤ n + 1
  | n, .non, _ => ⟨_, by unfold D.py; rfl, by simp only [PyData.depth]; omega⟩
  | n, .bl _, _ => ⟨_, by unfold D.py; rfl, by simp only [PyData.depth]; omega⟩
  | n, .int _, _ => ⟨_, by unfold D.py; rfl, by simp only [PyData.depth]; omega⟩
  | n, .str _, _ => ⟨_, by unfold D.py; rfl, by simp only [PyData.depth]; omega⟩
  | n + 1, .tup xs, h => by
    unfold isDat at h
    obtain ⟨ps, e, d⟩ := dats_py n xs h
    exact ⟨.tuple ps, by unfold D.py; rw [e]; rfl, by simp only [PyData.depth]; omega⟩
  | n + 1, .lst xs, h => by
    unfold isDat at h
    obtain ⟨ps, e, d⟩ := dats_py n xs h
    exact ⟨.list ps, by unfold D.py; rw [e]; rfl, by simp only [PyData.depth]; omega⟩
  | 0, .tup xs, h => by unfold isDat at h; cases h
  | 0, .lst xs, h => by unfold isDat at h; cases h
  | n, .ty _, h => by unfold isDat at h; cases n <;> cases h
  | n, .cls _, h => by unfold isDat at h; cases n <;> cases h
  | n, .obj _ _, h => by unfold isDat at h; cases n <;> cases h
  | n, .exc _ _, h => by unfold isDat at h; cases n <;> cases h
  | n, .dk _, h => by unfold isDat at h; cases n <;> cases h
  | n, .dt _, h => by unfold isDat at h; cases n <;> cases h
  | n, .ref _, h => by unfold isDat at h; cases n <;> cases h
  | n, .scr _, h => by unfold isDat at h; cases n <;> cases h
  | n, .adr _, h => by unfold isDat at h; cases n <;> cases h
  | n, .fk _, h => by unfold isDat at h; cases n <;> cases h
  | n, .ft _, h => by unfold isDat at h; cases n <;> cases h
  | n, .tpl _, h => by unfold isDat at h; cases n <;> cases h
theorem dats_py : ∀ (n : Nat) (xs : List D), xs.all (isDat n) = true → ∃ ps, D.pys xs = some ps ∧ PyData.depthAll ps ≤ n + 1
  | n, [], _ => ⟨[], rfl, by simp only [PyData.depthAll]; omega⟩
  | n, x :: xs, h => by
    rw [List.all_cons, Bool.and_eq_true] at h
    obtain ⟨p, e, d⟩ := dat_py n x h.1
    obtain ⟨ps, e2, d2⟩ := dats_py n xs h.2
    exact ⟨p :: ps, by unfold D.pys; rw [e, e2], by simp only [PyData.depthAll]; omega⟩
end
theorem dEq_of {x y : D} {b : Bool} (hx : isDat 9 x = true) (hy : isDat 9 y = true) (h : D.qe x y = b) : dEq x y = some (.bl b) := by
  obtain ⟨p, e, d⟩ := dat_py 9 x hx
  obtain ⟨q, e2, _⟩ := dat_py 9 y hy
  unfold dEq dEqP
  rw [e, e2]
  dsimp only
  rw [if_pos (by omega), eqv_qe x y e e2, h]
  rfl
theorem dNe_of {x y : D} {b : Bool} (hx : isDat 9 x = true) (hy : isDat 9 y = true) (h : D.qe x y = b) : dNe x y = some (.bl (!b)) := by
  obtain ⟨p, e, d⟩ := dat_py 9 x hx
  obtain ⟨q, e2, _⟩ := dat_py 9 y hy
  unfold dNe dEqP
  rw [e, e2]
  dsimp only
  rw [if_pos (by omega), eqv_qe x y e e2, h]
  rfl
theorem dEq_q {x y : D} (hx : isDat 9 x = true) (hy : isDat 9 y = true) : dEq x y = some (.bl (D.qe x y)) := dEq_of hx hy rfl
theorem dNe_q {x y : D} (hx : isDat 9 x = true) (hy : isDat 9 y = true) : dNe x y = some (.bl (!D.qe x y)) := dNe_of hx hy rfl
theorem isDat_non {n : Nat} : isDat n .non = true := by unfold isDat; rfl
theorem isDat_bl {n : Nat} {b : Bool} : isDat n (.bl b) = true := by unfold isDat; rfl
theorem isDat_int {n : Nat} {b : Int} : isDat n (.int b) = true := by unfold isDat; rfl
theorem isDat_str {n : Nat} {b : Str} : isDat n (.str b) = true := by unfold isDat; rfl
theorem isDat_t9 {xs : List D} : isDat 9 (.tup xs) = xs.all (isDat 8) := by rw [isDat]
theorem isDat_l9 {xs : List D} : isDat 9 (.lst xs) = xs.all (isDat 8) := by rw [isDat]
theorem isDat_t8 {xs : List D} : isDat 8 (.tup xs) = xs.all (isDat 7) := by rw [isDat]
theorem isDat_l8 {xs : List D} : isDat 8 (.lst xs) = xs.all (isDat 7) := by rw [isDat]
theorem isDat_t7 {xs : List D} : isDat 7 (.tup xs) = xs.all (isDat 6) := by rw [isDat]
theorem isDat_l7 {xs : List D} : isDat 7 (.lst xs) = xs.all (isDat 6) := by rw [isDat]
theorem isDat_t6 {xs : List D} : isDat 6 (.tup xs) = xs.all (isDat 5) := by rw [isDat]
theorem isDat_l6 {xs : List D} : isDat 6 (.lst xs) = xs.all (isDat 5) := by rw [isDat]
theorem qe_ii {a b : Int} : D.qe (.int a) (.int b) = (a == b) := by unfold D.qe; rfl
theorem qe_ss {a b : Str} : D.qe (.str a) (.str b) = (a == b) := by unfold D.qe; rfl
theorem qe_bb {a b : Bool} : D.qe (.bl a) (.bl b) = (a == b) := by unfold D.qe; rfl
theorem qe_bi {a : Bool} {b : Int} : D.qe (.bl a) (.int b) = ((if a then 1 else 0) == b) := by unfold D.qe; rfl
theorem qe_ib {a : Int} {b : Bool} : D.qe (.int a) (.bl b) = (a == (if b then 1 else 0)) := by unfold D.qe; rfl
theorem qe_nn : D.qe .non .non = true := by unfold D.qe; rfl
theorem qe_ns {b : Str} : D.qe .non (.str b) = false := by unfold D.qe; rfl
theorem qe_sn {b : Str} : D.qe (.str b) .non = false := by unfold D.qe; rfl
theorem qe_ni {b : Int} : D.qe .non (.int b) = false := by unfold D.qe; rfl
theorem qe_in {b : Int} : D.qe (.int b) .non = false := by unfold D.qe; rfl
theorem qe_is {a : Int} {b : Str} : D.qe (.int a) (.str b) = false := by unfold D.qe; rfl
theorem qe_si {a : Int} {b : Str} : D.qe (.str b) (.int a) = false := by unfold D.qe; rfl
theorem qe_bn {b : Bool} : D.qe (.bl b) .non = false := by unfold D.qe; rfl
theorem qe_nb {b : Bool} : D.qe .non (.bl b) = false := by unfold D.qe; rfl
theorem qe_bs {a : Bool} {b : Str} : D.qe (.bl a) (.str b) = false := by unfold D.qe; rfl
theorem qe_sb {a : Bool} {b : Str} : D.qe (.str b) (.bl a) = false := by unfold D.qe; rfl
theorem qe_tt {a b : List D} : D.qe (.tup a) (.tup b) = D.qes a b := by rw [D.qe]
theorem qe_ll {a b : List D} : D.qe (.lst a) (.lst b) = D.qes a b := by rw [D.qe]
theorem qe_lt {a b : List D} : D.qe (.lst a) (.tup b) = false := by rw [D.qe] <;> simp
theorem qe_tl {a b : List D} : D.qe (.tup a) (.lst b) = false := by rw [D.qe] <;> simp
theorem qe_tn {a : List D} : D.qe (.tup a) .non = false := by rw [D.qe] <;> simp
theorem qe_nt {a : List D} : D.qe .non (.tup a) = false := by rw [D.qe] <;> simp
theorem qe_ts {a : List D} {b : Str} : D.qe (.tup a) (.str b) = false := by rw [D.qe] <;> simp
theorem qe_st {a : List D} {b : Str} : D.qe (.str b) (.tup a) = false := by rw [D.qe] <;> simp
theorem qes_nil : D.qes [] [] = true := by unfold D.qes; rfl
theorem qes_cons {x y : D} {xs ys : List D} : D.qes (x :: xs) (y :: ys) = (D.qe x y && D.qes xs ys) := by rw [D.qes]
theorem qes_nc {y : D} {ys : List D} : D.qes [] (y :: ys) = false := by rw [D.qes] <;> simp
theorem qes_cn {y : D} {ys : List D} : D.qes (y :: ys) [] = false := by rw [D.qes] <;> simp
theorem at_z {x : D} {xs : List D} : atI (x :: xs) 0 = some x := by
  unfold atI ixN
  rw [if_pos (by decide), if_pos (by simp only [List.length_cons]; omega)]
  rfl
theorem at_1 {x y : D} {xs : List D} : atI (x :: y :: xs) 1 = some y := by
  unfold atI ixN
  rw [if_pos (by decide), if_pos (by simp only [List.length_cons]; omega)]
  rfl
theorem at_2 {x y z : D} {xs : List D} : atI (x :: y :: z :: xs) 2 = some z := by
  unfold atI ixN
  rw [if_pos (by decide), if_pos (by simp only [List.length_cons]; omega)]
  rfl
theorem at_3 {x y z u : D} {xs : List D} : atI (x :: y :: z :: u :: xs) 3 = some u := by
  unfold atI ixN
  rw [if_pos (by decide), if_pos (by simp only [List.length_cons]; omega)]
  rfl
theorem at_4 {x y z u v : D} {xs : List D} : atI (x :: y :: z :: u :: v :: xs) 4 = some v := by
  unfold atI ixN
  rw [if_pos (by decide), if_pos (by simp only [List.length_cons]; omega)]
  rfl
theorem ix_T {xs : List D} {k : Int} : D.ix (.tup xs) (.int k) = atI xs k := by
  simp only [D.ix, alt2]
  cases atI xs k <;> rfl
theorem dLen_S {x : Str} : dLen [.str x] = some (.int x.length) := rfl
theorem dLen_T {xs : List D} : dLen [.tup xs] = some (.int xs.length) := rfl
theorem sl_L {xs : List D} {a b : Option Int} : D.sl a b (.lst xs) = some (.lst (cutD xs a b)) := rfl
theorem sl_T {xs : List D} {a b : Option Int} : D.sl a b (.tup xs) = some (.tup (cutD xs a b)) := rfl
theorem sl_S {xs : List D} {a b : Option Int} : D.sl a b (.scr xs) = some (.lst (cutD xs a b)) := rfl
theorem cut_to {xs : List D} {k : Int} (h : 0 ≤ k) : cutD xs none (some k) = xs.take k.toNat := by
  unfold cutD
  rw [HT.sIx_none]
  show (xs.drop 0).take ((if k < 0 then (k + (xs.length : Int)).toNat else min k.toNat xs.length) - 0) = _
  rw [if_neg (by omega), List.drop_zero, Nat.sub_zero]
  rw [← List.take_take, List.take_length]
theorem cut_from {xs : List D} {k : Int} (h : 0 ≤ k) : cutD xs (some k) none = xs.drop k.toNat := by
  unfold cutD
  rw [HT.sIx_none]
  show (xs.drop (if k < 0 then (k + (xs.length : Int)).toNat else min k.toNat xs.length)).take (xs.length - (if k < 0 then (k + (xs.length : Int)).toNat else min k.toNat xs.length)) = _
  rw [if_neg (by omega)]
  by_cases hk : k.toNat ≤ xs.length
  · rw [Nat.min_eq_left hk, ← List.length_drop, List.take_length]
  · rw [Nat.min_eq_right (by omega), Nat.sub_self, List.take_zero, List.drop_eq_nil_of_le (by omega)]
variable [TabSet] [BasePred]
theorem dList_L {xs : List D} : dList [.lst xs] = some (.lst xs) := rfl
theorem dList_T {xs : List D} : dList [.tup xs] = some (.lst xs) := rfl
theorem dTuple_L {xs : List D} : dTuple [.lst xs] = some (.tup xs) := rfl
theorem dTuple_T {xs : List D} : dTuple [.tup xs] = some (.tup xs) := rfl
theorem okRt {n : Int} (h : -4611686018427387904 ≤ n ∧ n < 4611686018427387904) : (okR n = true) = True := eq_true (okR_of (by omega) (by omega))
theorem bs_bls {bs : List Bool} : D.bs (bs.map D.bl) = some bs := by
  induction bs with
  | nil => rfl
  | cons b r ih => simp only [List.map_cons, D.bs, D.b, ih]
theorem dAll_b {xs : List D} : dAll [.lst xs] = (D.bs xs).map fun bs => .bl (bs.all id) := rfl
theorem isi_non {bi : List String} {own : List (String × Bool)} : isiF bi own .non = some (bi.contains "NoneType") := rfl
theorem isi_bl {bi : List String} {own : List (String × Bool)} {b : Bool} : isiF bi own (.bl b) = some (bi.contains "bool") := rfl
theorem isi_int {bi : List String} {own : List (String × Bool)} {b : Int} : isiF bi own (.int b) = some (bi.contains "int") := rfl
theorem isi_str {bi : List String} {own : List (String × Bool)} {b : Str} : isiF bi own (.str b) = some (bi.contains "str") := rfl
theorem isi_tup {bi : List String} {own : List (String × Bool)} {b : List D} : isiF bi own (.tup b) = some (bi.contains "tuple") := rfl
theorem isi_lst {bi : List String} {own : List (String × Bool)} {b : List D} : isiF bi own (.lst b) = some (bi.contains "list") := rfl
theorem isi_scr {bi : List String} {own : List (String × Bool)} {b : List D} : isiF bi own (.scr b) = some (bi.contains "list") := rfl
theorem isi_dk {bi : List String} {own : List (String × Bool)} {b : List (Key × D)} : isiF bi own (.dk b) = some (bi.contains "dict") := rfl
theorem isi_dt {bi : List String} {own : List (String × Bool)} {b : List (List Key × D)} : isiF bi own (.dt b) = some (bi.contains "dict") := rfl
theorem isi_obj {bi : List String} {own : List (String × Bool)} {c : String} {fs : List (Str × D)} : isiF bi own (.obj c fs) = own.lookup c := rfl
theorem items_lst {xs : List D} : D.items (.lst xs) = some xs := rfl
theorem items_tup {xs : List D} : D.items (.tup xs) = some xs := rfl
theorem items_str {z : Str} : D.items (.str z) = some (z.cps.toList.map fun c => .str ⟨#[c]⟩) := rfl
theorem fmt_str {z : Str} : fmtD (.str z) = some (.str z) := rfl
theorem tree_lst {xs : List D} : Cell.tree (.lst xs) = .lst xs := rfl
theorem tree_ins {c : String} {fs : List (Str × D)} : Cell.tree (.ins c fs) = .obj c fs := rfl
theorem tree_dk {b : List (Key × D)} : Cell.tree (.dk b) = .dk b := rfl
theorem tree_fk {b : List (Key × D)} : Cell.tree (.fk b) = .fk b := rfl
theorem tree_dt {b : List (List Key × D)} : Cell.tree (.dt b) = .dt b := rfl
theorem seq_lst {xs : List D} : D.seq (.lst xs) = some xs := rfl
theorem seq_tup {xs : List D} : D.seq (.tup xs) = some xs := rfl
theorem isN_non : D.isN .non = true := rfl
theorem isN_bl {b : Bool} : D.isN (.bl b) = false := rfl
theorem isN_int {b : Int} : D.isN (.int b) = false := rfl
theorem isN_str {b : Str} : D.isN (.str b) = false := rfl
theorem isN_tup {b : List D} : D.isN (.tup b) = false := rfl
theorem isN_lst {b : List D} : D.isN (.lst b) = false := rfl
theorem isN_obj {c : String} {fs : List (Str × D)} : D.isN (.obj c fs) = false := rfl
theorem isN_exc {c : String} {fs : List (Str × D)} : D.isN (.exc c fs) = false := rfl
theorem isN_ref {c : Nat} : D.isN (.ref c) = false := rfl
theorem is_n {x : D} : dIs x .non = some (.bl x.isN) := by cases x <;> rfl
theorem not_n {x : D} : dNot x .non = some (.bl (!x.isN)) := by cases x <;> rfl
theorem fld_obj {cs : List String} {f : Str} {S : Store} {c : String} {fs : List (Str × D)} : D.fld cs f S (.obj c fs) = if c ∈ cs then fs.lookup f else none := rfl
theorem isC_obj {k : String} {f : Str} {S : Store} {c : String} {fs : List (Str × D)} : D.isC k f S (.obj c fs) = (c == k && (fs.lookup f).isNone) := rfl
theorem isO_obj {k : String} {S : Store} {c : String} {fs : List (Str × D)} : D.isO k S (.obj c fs) = (c == k) := rfl
theorem tyIn_obj {bi cs : List String} {S : Store} {c : String} {fs : List (Str × D)} : D.tyIn bi cs S (.obj c fs) = cs.contains c := rfl
theorem dAdd_ll {xs ys : List D} (h : xs.length + ys.length ≤ 16777216) : dAdd (.lst xs) (.lst ys) = some (.lst (xs ++ ys)) := by
  simp only [dAdd, alt2, oI0, oStr, oCatL, oCatT]
  rw [if_pos (show xs.length + ys.length ≤ sizeLine from h)]
theorem dAdd_tt {xs ys : List D} (h : xs.length + ys.length ≤ 16777216) : dAdd (.tup xs) (.tup ys) = some (.tup (xs ++ ys)) := by
  simp only [dAdd, alt2, oI0, oStr, oCatL, oCatT]
  rw [if_pos (show xs.length + ys.length ≤ sizeLine from h)]
theorem dAdd_ss {x y : Str} (h : x.length + y.length ≤ 16777216) : dAdd (.str x) (.str y) = some (.str (x ++ y)) := by
  simp only [dAdd, alt2, oI0, oStr, oCatL, oCatT]
  rw [if_pos (show x.length + y.length ≤ sizeLine from h)]
theorem dMul_r1 {x : D} {k : Int} (h : -9223372036854775808 ≤ k ∧ k ≤ 16777216) : dMul (.lst [x]) (.int k) = some (.lst (List.replicate k.toNat x)) := by
  simp only [dMul, alt2, oI, oRep]
  rw [if_pos ⟨okK_of (by omega) (by omega), show [x].length * k.toNat ≤ sizeLine by rw [List.length_singleton, Nat.one_mul]; show _ ≤ 16777216; omega⟩]
  have : ∀ n, (List.replicate n [x]).flatten = List.replicate n x := fun n => by
    induction n with
    | zero => rfl
    | succ n ih => rw [List.replicate_succ, List.flatten_cons, ih, List.replicate_succ]; rfl
  rw [this]
theorem strs_map {ys : List Str} : D.strs (ys.map D.str) = some ys := by
  induction ys with
  | nil => rfl
  | cons y r ih => simp only [List.map_cons, D.strs, ih, Option.map_some]
theorem dEq_sk {x : Str} {kvs : List (Key × D)} : dEq (.str x) (.dk kvs) = none := rfl
theorem dEq_so {x : Str} {c : String} {fs : List (Str × D)} : dEq (.str x) (.obj c fs) = none := rfl
theorem key_str {z : Str} : (D.str z).key = some (.inr z) := rfl
theorem key_int {i : Int} : (D.int i).key = some (.inl i) := rfl
theorem keyD_s {z : Str} : keyD (.inr z) = D.str z := rfl
theorem keyD_i {i : Int} : keyD (.inl i) = D.int i := rfl
theorem isi_fk {bi : List String} {own : List (String × Bool)} {b : List (Key × D)} : isiF bi own (.fk b) = some (bi.contains "dict") := rfl
theorem tyIn_fk {bi cs : List String} {S : Store} {b : List (Key × D)} : D.tyIn bi cs S (.fk b) = bi.contains "dict" := rfl
theorem sTryH_nil {x : Exn} {e : En} {S : Store} : sTryH [] x e S = .er x e S := rfl
theorem sTryH_some {isa : List (String × Bool)} {i : Nat} {q : Sy} {r : List Hd} {x : Exn} {e : En} {S : Store} : sTryH ((isa, some i, q) :: r) x e S = (match isa.lookup x.c with
    | some true => (if notOwn i e then (match q (e.set i (.val (.exc x.c x.fs))) S with
        | .nx e2 S2 => if notOwn i e2 then .nx (e2.set i .no) S2 else .no
        | .rt d S2 => .rt d S2
        | _ => .no) else .no)
    | some false => sTryH r x e S
    | none => .no) := rfl
theorem sTryH_none {isa : List (String × Bool)} {q : Sy} {r : List Hd} {x : Exn} {e : En} {S : Store} : sTryH ((isa, none, q) :: r) x e S = (match isa.lookup x.c with
    | some true => (match q e S with
        | .nx e2 S2 => .nx e2 S2
        | .rt d S2 => .rt d S2
        | _ => .no)
    | some false => sTryH r x e S
    | none => .no) := rfl
theorem prm_nil {α : Type} {zs : List α} : prm [] zs = [] := rfl
theorem prm_0 {α : Type} {l : List Nat} {x : α} {zs : List α} : prm (0 :: l) (x :: zs) = x :: prm l (x :: zs) := rfl
theorem prm_1 {α : Type} {l : List Nat} {x y : α} {zs : List α} : prm (1 :: l) (x :: y :: zs) = y :: prm l (x :: y :: zs) := rfl
theorem prm_2 {α : Type} {l : List Nat} {x y u : α} {zs : List α} : prm (2 :: l) (x :: y :: u :: zs) = u :: prm l (x :: y :: u :: zs) := rfl
theorem zip_nn {α β : Type} {zs : List β} : ([] : List α).zip zs = [] := rfl
theorem zip_cc {α β : Type} {x : α} {xs : List α} {y : β} {ys : List β} : (x :: xs).zip (y :: ys) = (x, y) :: xs.zip ys := rfl
theorem ap_runD (n k : Nat) (f : Sy) (ds : List D) (S : Store) : runD n k f ds S = (if ds.length = n then (f (ds.map Sl.val ++ List.replicate k .no) S).res else .no) := rfl
theorem ap_runI (n k : Nat) (f : Sy) (c : Cell) (ds : List D) (S : Store) : runI n k f c ds S = (if ds.length + 1 = n then (f (.own c :: (ds.map Sl.val ++ List.replicate k .no)) S).resI else .no) := rfl
theorem ap_sSeq (f g : Sy) (e : En) (S : Store) : sSeq f g e S = ((f e S).seq g) := rfl
theorem ap_sNil (e : En) (S : Store) : sNil e S = (.nx e S) := rfl
def k_sSet_1 (i : Nat) (e : En) (d : D) (S1 : Store) : RS := if notOwn i e then .nx (e.set i (.val d)) S1 else .no
theorem ap_k_sSet_1 (i : Nat) (e : En) (d : D) (S1 : Store) : k_sSet_1 i e d S1 = (if notOwn i e then .nx (e.set i (.val d)) S1 else .no) := rfl
theorem ap_sSet (i : Nat) (f : Sx D) (e : En) (S : Store) : sSet i f e S = ((f e S).run e (k_sSet_1 i e)) := rfl
def k_sDrop_1 (e : En) (_0 : D) (S1 : Store) : RS := .nx e S1
theorem ap_k_sDrop_1 (e : En) (_0 : D) (S1 : Store) : k_sDrop_1 e _0 S1 = (.nx e S1) := rfl
theorem ap_sDrop (f : Sx D) (e : En) (S : Store) : sDrop f e S = ((f e S).run e (k_sDrop_1 e)) := rfl
def k_sRet_1 (d : D) (S1 : Store) : RS := .rt d S1
theorem ap_k_sRet_1 (d : D) (S1 : Store) : k_sRet_1 d S1 = (.rt d S1) := rfl
theorem ap_sRet (f : Sx D) (e : En) (S : Store) : sRet f e S = ((f e S).run e (k_sRet_1)) := rfl
def k_sIf_1 (f : Sy) (g : Sy) (e : En) (b : Bool) (S1 : Store) : RS := if b then f e S1 else g e S1
theorem ap_k_sIf_1 (f : Sy) (g : Sy) (e : En) (b : Bool) (S1 : Store) : k_sIf_1 f g e b S1 = (if b then f e S1 else g e S1) := rfl
theorem ap_sIf (t : Sx Bool) (f g : Sy) (e : En) (S : Store) : sIf t f g e S = ((t e S).run e (k_sIf_1 f g e)) := rfl
def k_sFor_1 (g : Tg) (body : Sy) (e : En) (ds : (List D)) (S1 : Store) : RS := forD g body ds e S1
theorem ap_k_sFor_1 (g : Tg) (body : Sy) (e : En) (ds : (List D)) (S1 : Store) : k_sFor_1 g body e ds S1 = (forD g body ds e S1) := rfl
theorem ap_sFor (it : Sx (List D)) (g : Tg) (body : Sy) (e : En) (S : Store) : sFor it g body e S = ((it e S).run e (k_sFor_1 g body e)) := rfl
def k_sRs_1 (c : String) (fs : List Str) (e : En) (ds : (List D)) (S1 : Store) : RS := if ds.length = fs.length then .er ⟨c, (fs.zip ds).reverse⟩ e S1 else .no
theorem ap_k_sRs_1 (c : String) (fs : List Str) (e : En) (ds : (List D)) (S1 : Store) : k_sRs_1 c fs e ds S1 = (if ds.length = fs.length then .er ⟨c, (fs.zip ds).reverse⟩ e S1 else .no) := rfl
theorem ap_sRs (c : String) (fs : List Str) (a : Sx (List D)) (e : En) (S : Store) : sRs c fs a e S = ((a e S).run e (k_sRs_1 c fs e)) := rfl
def k_sFdO_1 (c : String) (fd : Str) (e : En) (d : D) (S1 : Store) : RS := match (e[0]? : Option Sl) with
  | some (Sl.own (.ins c' fs)) => if c' = c ∧ fs.length < 999 then .nx (e.set 0 (.own (.ins c' (putD fd d fs)))) S1 else .no
  | _ => .no
theorem ap_k_sFdO_1 (c : String) (fd : Str) (e : En) (d : D) (S1 : Store) : k_sFdO_1 c fd e d S1 = (match (e[0]? : Option Sl) with
  | some (Sl.own (.ins c' fs)) => if c' = c ∧ fs.length < 999 then .nx (e.set 0 (.own (.ins c' (putD fd d fs)))) S1 else .no
  | _ => .no) := rfl
theorem ap_sFdO (c : String) (fd : Str) (f : Sx D) (e : En) (S : Store) : sFdO c fd f e S = ((f e S).run e (k_sFdO_1 c fd e)) := rfl
def k_sFdC_1 (cs : List String) (fd : Str) (e : En) (d : D) (o : D) (S2 : Store) : RS := match o with
  | .ref n => match S2[n]? with
    | some (.ins c fs) => if c ∈ cs ∧ fs.length < 999 then .nx e (S2.set n (.ins c (putD fd d fs))) else .no
    | _ => .no
  | _ => .no
theorem ap_k_sFdC_1 (cs : List String) (fd : Str) (e : En) (d : D) (o : D) (S2 : Store) : k_sFdC_1 cs fd e d o S2 = (match o with
  | .ref n => match S2[n]? with
    | some (.ins c fs) => if c ∈ cs ∧ fs.length < 999 then .nx e (S2.set n (.ins c (putD fd d fs))) else .no
    | _ => .no
  | _ => .no) := rfl
def k_sFdC_2 (cs : List String) (fd : Str) (g : Sx D) (e : En) (d : D) (S1 : Store) : RS := (g e S1).run e (k_sFdC_1 cs fd e d)
theorem ap_k_sFdC_2 (cs : List String) (fd : Str) (g : Sx D) (e : En) (d : D) (S1 : Store) : k_sFdC_2 cs fd g e d S1 = ((g e S1).run e (k_sFdC_1 cs fd e d)) := rfl
theorem ap_sFdC (cs : List String) (fd : Str) (g f : Sx D) (e : En) (S : Store) : sFdC cs fd g f e S = ((f e S).run e (k_sFdC_2 cs fd g e)) := rfl
def k_sFdA_1 (fd : Str) (k : Int → Int → Int) (e : En) (n : Nat) (c : String) (i : Int) (d : D) (S2 : Store) : RS := match d, S2[n]? with
        | .int l, some (.ins c2 fs2) => if c2 = c ∧ fs2.length < 999 then .nx e (S2.set n (.ins c (putD fd (.int (k i l)) fs2))) else .no
        | _, _ => .no
theorem ap_k_sFdA_1 (fd : Str) (k : Int → Int → Int) (e : En) (n : Nat) (c : String) (i : Int) (d : D) (S2 : Store) : k_sFdA_1 fd k e n c i d S2 = (match d, S2[n]? with
        | .int l, some (.ins c2 fs2) => if c2 = c ∧ fs2.length < 999 then .nx e (S2.set n (.ins c (putD fd (.int (k i l)) fs2))) else .no
        | _, _ => .no) := rfl
def k_sFdA_2 (cs : List String) (fd : Str) (k : Int → Int → Int) (f : Sx D) (e : En) (o : D) (S1 : Store) : RS := match o with
  | .ref n => match S1[n]? with
    | some (.ins c fs) => if c ∈ cs then (match fs.lookup fd with
      | some (.int i) => (f e S1).run e (k_sFdA_1 fd k e n c i)
      | _ => .no) else .no
    | _ => .no
  | _ => .no
theorem ap_k_sFdA_2 (cs : List String) (fd : Str) (k : Int → Int → Int) (f : Sx D) (e : En) (o : D) (S1 : Store) : k_sFdA_2 cs fd k f e o S1 = (match o with
  | .ref n => match S1[n]? with
    | some (.ins c fs) => if c ∈ cs then (match fs.lookup fd with
      | some (.int i) => (f e S1).run e (k_sFdA_1 fd k e n c i)
      | _ => .no) else .no
    | _ => .no
  | _ => .no) := rfl
theorem ap_sFdA (cs : List String) (fd : Str) (k : Int → Int → Int) (g f : Sx D) (e : En) (S : Store) : sFdA cs fd k g f e S = ((g e S).run e (k_sFdA_2 cs fd k f e)) := rfl
def k_sIxC_1 (e : En) (d : D) (o : D) (y : D) (S3 : Store) : RS := match o, y with
  | .ref n, .int l => match S3[n]? with
    | some (.lst ds) => match ixN ds.length l with
      | some j => .nx e (S3.set n (.lst (ds.set j d)))
      | none => .no
    | _ => .no
  | _, _ => .no
theorem ap_k_sIxC_1 (e : En) (d : D) (o : D) (y : D) (S3 : Store) : k_sIxC_1 e d o y S3 = (match o, y with
  | .ref n, .int l => match S3[n]? with
    | some (.lst ds) => match ixN ds.length l with
      | some j => .nx e (S3.set n (.lst (ds.set j d)))
      | none => .no
    | _ => .no
  | _, _ => .no) := rfl
def k_sIxC_2 (k : Sx D) (e : En) (d : D) (o : D) (S2 : Store) : RS := (k e S2).run e (k_sIxC_1 e d o)
theorem ap_k_sIxC_2 (k : Sx D) (e : En) (d : D) (o : D) (S2 : Store) : k_sIxC_2 k e d o S2 = ((k e S2).run e (k_sIxC_1 e d o)) := rfl
def k_sIxC_3 (g : Sx D) (k : Sx D) (e : En) (d : D) (S1 : Store) : RS := (g e S1).run e (k_sIxC_2 k e d)
theorem ap_k_sIxC_3 (g : Sx D) (k : Sx D) (e : En) (d : D) (S1 : Store) : k_sIxC_3 g k e d S1 = ((g e S1).run e (k_sIxC_2 k e d)) := rfl
theorem ap_sIxC (g k f : Sx D) (e : En) (S : Store) : sIxC g k f e S = ((f e S).run e (k_sIxC_3 g k e)) := rfl
theorem ap_eVar (i : Nat) (e : En) (S : Store) : eVar i e S = (match e[i]? with
  | some (.val d) => .ok d S
  | _ => .no) := rfl
theorem ap_eC (d : D) (_z : En) (S : Store) : eC d _z S = (.ok d S) := rfl
def k_eBin_1 (o : D → D → Option D) (x : D) (y : D) (S2 : Store) : R D := R.of S2 (o x y)
theorem ap_k_eBin_1 (o : D → D → Option D) (x : D) (y : D) (S2 : Store) : k_eBin_1 o x y S2 = (R.of S2 (o x y)) := rfl
def k_eBin_2 (o : D → D → Option D) (g : Sx D) (e : En) (x : D) (S1 : Store) : R D := (g e S1).bind (k_eBin_1 o x)
theorem ap_k_eBin_2 (o : D → D → Option D) (g : Sx D) (e : En) (x : D) (S1 : Store) : k_eBin_2 o g e x S1 = ((g e S1).bind (k_eBin_1 o x)) := rfl
theorem ap_eBin (o : D → D → Option D) (f g : Sx D) (e : En) (S : Store) : eBin o f g e S = ((f e S).bind (k_eBin_2 o g e)) := rfl
def k_eUn_1 (o : D → Option D) (x : D) (S1 : Store) : R D := R.of S1 (o x)
theorem ap_k_eUn_1 (o : D → Option D) (x : D) (S1 : Store) : k_eUn_1 o x S1 = (R.of S1 (o x)) := rfl
theorem ap_eUn (o : D → Option D) (f : Sx D) (e : En) (S : Store) : eUn o f e S = ((f e S).bind (k_eUn_1 o)) := rfl
def k_tVal_1 (x : D) (S1 : Store) : R Bool := R.of S1 x.b
theorem ap_k_tVal_1 (x : D) (S1 : Store) : k_tVal_1 x S1 = (R.of S1 x.b) := rfl
theorem ap_tVal (f : Sx D) (e : En) (S : Store) : tVal f e S = ((f e S).bind (k_tVal_1)) := rfl
def k_tNt_1 (b : Bool) (S1 : Store) : R Bool := .ok (!b) S1
theorem ap_k_tNt_1 (b : Bool) (S1 : Store) : k_tNt_1 b S1 = (.ok (!b) S1) := rfl
theorem ap_tNt (f : Sx Bool) (e : En) (S : Store) : tNt f e S = ((f e S).bind (k_tNt_1)) := rfl
def k_tAd_1 (g : Sx Bool) (e : En) (b : Bool) (S1 : Store) : R Bool := if b then g e S1 else .ok false S1
theorem ap_k_tAd_1 (g : Sx Bool) (e : En) (b : Bool) (S1 : Store) : k_tAd_1 g e b S1 = (if b then g e S1 else .ok false S1) := rfl
theorem ap_tAd (f g : Sx Bool) (e : En) (S : Store) : tAd f g e S = ((f e S).bind (k_tAd_1 g e)) := rfl
def k_tOo_1 (g : Sx Bool) (e : En) (b : Bool) (S1 : Store) : R Bool := if b then .ok true S1 else g e S1
theorem ap_k_tOo_1 (g : Sx Bool) (e : En) (b : Bool) (S1 : Store) : k_tOo_1 g e b S1 = (if b then .ok true S1 else g e S1) := rfl
theorem ap_tOo (f g : Sx Bool) (e : En) (S : Store) : tOo f g e S = ((f e S).bind (k_tOo_1 g e)) := rfl
def k_eNt_1 (b : Bool) (S1 : Store) : R D := .ok (.bl (!b)) S1
theorem ap_k_eNt_1 (b : Bool) (S1 : Store) : k_eNt_1 b S1 = (.ok (.bl (!b)) S1) := rfl
theorem ap_eNt (f : Sx D) (e : En) (S : Store) : eNt f e S = ((tVal f e S).bind (k_eNt_1)) := rfl
def k_eAd_1 (g : Sx D) (e : En) (b : Bool) (S1 : Store) : R D := if b then g e S1 else .ok (.bl false) S1
theorem ap_k_eAd_1 (g : Sx D) (e : En) (b : Bool) (S1 : Store) : k_eAd_1 g e b S1 = (if b then g e S1 else .ok (.bl false) S1) := rfl
theorem ap_eAd (f g : Sx D) (e : En) (S : Store) : eAd f g e S = ((tVal f e S).bind (k_eAd_1 g e)) := rfl
def k_eIf_1 (f : Sx D) (g : Sx D) (e : En) (b : Bool) (S1 : Store) : R D := if b then f e S1 else g e S1
theorem ap_k_eIf_1 (f : Sx D) (g : Sx D) (e : En) (b : Bool) (S1 : Store) : k_eIf_1 f g e b S1 = (if b then f e S1 else g e S1) := rfl
theorem ap_eIf (t : Sx Bool) (f g : Sx D) (e : En) (S : Store) : eIf t f g e S = ((t e S).bind (k_eIf_1 f g e)) := rfl
def k_eChain_1 (p : D → D → Option D) (y : D) (z : D) (S4 : Store) : R D := R.of S4 (p y z)
theorem ap_k_eChain_1 (p : D → D → Option D) (y : D) (z : D) (S4 : Store) : k_eChain_1 p y z S4 = (R.of S4 (p y z)) := rfl
def k_eChain_2 (p : D → D → Option D) (h : Sx D) (e : En) (y : D) (b : Bool) (S3 : Store) : R D := if b then (h e S3).bind (k_eChain_1 p y) else .ok (.bl false) S3
theorem ap_k_eChain_2 (p : D → D → Option D) (h : Sx D) (e : En) (y : D) (b : Bool) (S3 : Store) : k_eChain_2 p h e y b S3 = (if b then (h e S3).bind (k_eChain_1 p y) else .ok (.bl false) S3) := rfl
def k_eChain_3 (o : D → D → Option D) (p : D → D → Option D) (h : Sx D) (e : En) (x : D) (y : D) (S2 : Store) : R D := (R.of S2 ((o x y).bind D.b)).bind (k_eChain_2 p h e y)
theorem ap_k_eChain_3 (o : D → D → Option D) (p : D → D → Option D) (h : Sx D) (e : En) (x : D) (y : D) (S2 : Store) : k_eChain_3 o p h e x y S2 = ((R.of S2 ((o x y).bind D.b)).bind (k_eChain_2 p h e y)) := rfl
def k_eChain_4 (o : D → D → Option D) (p : D → D → Option D) (g : Sx D) (h : Sx D) (e : En) (x : D) (S1 : Store) : R D := (g e S1).bind (k_eChain_3 o p h e x)
theorem ap_k_eChain_4 (o : D → D → Option D) (p : D → D → Option D) (g : Sx D) (h : Sx D) (e : En) (x : D) (S1 : Store) : k_eChain_4 o p g h e x S1 = ((g e S1).bind (k_eChain_3 o p h e x)) := rfl
theorem ap_eChain (o p : D → D → Option D) (f g h : Sx D) (e : En) (S : Store) : eChain o p f g h e S = ((f e S).bind (k_eChain_4 o p g h e)) := rfl
theorem ap_aNil (_z : En) (S : Store) : aNil _z S = (.ok [] S) := rfl
def k_aCons_1 (x : D) (xs : (List D)) (S2 : Store) : R (List D) := .ok (x :: xs) S2
theorem ap_k_aCons_1 (x : D) (xs : (List D)) (S2 : Store) : k_aCons_1 x xs S2 = (.ok (x :: xs) S2) := rfl
def k_aCons_2 (g : Sx (List D)) (e : En) (x : D) (S1 : Store) : R (List D) := (g e S1).bind (k_aCons_1 x)
theorem ap_k_aCons_2 (g : Sx (List D)) (e : En) (x : D) (S1 : Store) : k_aCons_2 g e x S1 = ((g e S1).bind (k_aCons_1 x)) := rfl
theorem ap_aCons (f : Sx D) (g : Sx (List D)) (e : En) (S : Store) : aCons f g e S = ((f e S).bind (k_aCons_2 g e)) := rfl
def k_eTup_1 (xs : (List D)) (S1 : Store) : R D := if xs.length ≤ sizeLine then .ok (.tup xs) S1 else .no
theorem ap_k_eTup_1 (xs : (List D)) (S1 : Store) : k_eTup_1 xs S1 = (if xs.length ≤ sizeLine then .ok (.tup xs) S1 else .no) := rfl
theorem ap_eTup (g : Sx (List D)) (e : En) (S : Store) : eTup g e S = ((g e S).bind (k_eTup_1)) := rfl
def k_eLst_1 (xs : (List D)) (S1 : Store) : R D := if xs.length ≤ sizeLine then .ok (.lst xs) S1 else .no
theorem ap_k_eLst_1 (xs : (List D)) (S1 : Store) : k_eLst_1 xs S1 = (if xs.length ≤ sizeLine then .ok (.lst xs) S1 else .no) := rfl
theorem ap_eLst (g : Sx (List D)) (e : En) (S : Store) : eLst g e S = ((g e S).bind (k_eLst_1)) := rfl
def k_eCall_1 (o : List D → Option D) (xs : (List D)) (S1 : Store) : R D := R.of S1 (o xs)
theorem ap_k_eCall_1 (o : List D → Option D) (xs : (List D)) (S1 : Store) : k_eCall_1 o xs S1 = (R.of S1 (o xs)) := rfl
theorem ap_eCall (o : List D → Option D) (g : Sx (List D)) (e : En) (S : Store) : eCall o g e S = ((g e S).bind (k_eCall_1 o)) := rfl
def k_eIx_1 (x : D) (y : D) (S2 : Store) : R D := match x with
  | .ref n => match S2[n]?, y with
    | some (.lst xs), .int i => R.of S2 (atI xs i)
    | _, _ => .no
  | _ => R.of S2 (D.ix x y)
theorem ap_k_eIx_1 (x : D) (y : D) (S2 : Store) : k_eIx_1 x y S2 = (match x with
  | .ref n => match S2[n]?, y with
    | some (.lst xs), .int i => R.of S2 (atI xs i)
    | _, _ => .no
  | _ => R.of S2 (D.ix x y)) := rfl
def k_eIx_2 (g : Sx D) (e : En) (x : D) (S1 : Store) : R D := (g e S1).bind (k_eIx_1 x)
theorem ap_k_eIx_2 (g : Sx D) (e : En) (x : D) (S1 : Store) : k_eIx_2 g e x S1 = ((g e S1).bind (k_eIx_1 x)) := rfl
theorem ap_eIx (f g : Sx D) (e : En) (S : Store) : eIx f g e S = ((f e S).bind (k_eIx_2 g e)) := rfl
def k_eDf_1 (f : List D → Store → R D) (ds : (List D)) (S1 : Store) : R D := f ds S1
theorem ap_k_eDf_1 (f : List D → Store → R D) (ds : (List D)) (S1 : Store) : k_eDf_1 f ds S1 = (f ds S1) := rfl
theorem ap_eDf (f : List D → Store → R D) (a : Sx (List D)) (e : En) (S : Store) : eDf f a e S = ((a e S).bind (k_eDf_1 f)) := rfl
def k_eFd_1 (cs : List String) (f : Str) (x : D) (S1 : Store) : R D := R.of S1 (x.fld cs f S1)
theorem ap_k_eFd_1 (cs : List String) (f : Str) (x : D) (S1 : Store) : k_eFd_1 cs f x S1 = (R.of S1 (x.fld cs f S1)) := rfl
theorem ap_eFd (cs : List String) (f : Str) (g : Sx D) (e : En) (S : Store) : eFd cs f g e S = ((g e S).bind (k_eFd_1 cs f)) := rfl
def k_eMe_1 (f : List D → Store → R D) (x : D) (ds : (List D)) (S2 : Store) : R D := f (x :: ds) S2
theorem ap_k_eMe_1 (f : List D → Store → R D) (x : D) (ds : (List D)) (S2 : Store) : k_eMe_1 f x ds S2 = (f (x :: ds) S2) := rfl
def k_eMe_2 (c : String) (m : Str) (f : List D → Store → R D) (a : Sx (List D)) (e : En) (x : D) (S1 : Store) : R D := if x.isC c m S1 then (a e S1).bind (k_eMe_1 f x) else .no
theorem ap_k_eMe_2 (c : String) (m : Str) (f : List D → Store → R D) (a : Sx (List D)) (e : En) (x : D) (S1 : Store) : k_eMe_2 c m f a e x S1 = (if x.isC c m S1 then (a e S1).bind (k_eMe_1 f x) else .no) := rfl
theorem ap_eMe (c : String) (m : Str) (f : List D → Store → R D) (g : Sx D) (a : Sx (List D)) (e : En) (S : Store) : eMe c m f g a e S = ((g e S).bind (k_eMe_2 c m f a e)) := rfl
def k_eCm_1 (c : String) (f : List D → Store → R D) (ds : (List D)) (S2 : Store) : R D := f (.cls c :: ds) S2
theorem ap_k_eCm_1 (c : String) (f : List D → Store → R D) (ds : (List D)) (S2 : Store) : k_eCm_1 c f ds S2 = (f (.cls c :: ds) S2) := rfl
def k_eCm_2 (c : String) (f : List D → Store → R D) (a : Sx (List D)) (e : En) (x : D) (S1 : Store) : R D := match x with
  | .cls c' => if c' = c then (a e S1).bind (k_eCm_1 c f) else .no
  | _ => .no
theorem ap_k_eCm_2 (c : String) (f : List D → Store → R D) (a : Sx (List D)) (e : En) (x : D) (S1 : Store) : k_eCm_2 c f a e x S1 = (match x with
  | .cls c' => if c' = c then (a e S1).bind (k_eCm_1 c f) else .no
  | _ => .no) := rfl
theorem ap_eCm (c : String) (f : List D → Store → R D) (g : Sx D) (a : Sx (List D)) (e : En) (S : Store) : eCm c f g a e S = ((g e S).bind (k_eCm_2 c f a e)) := rfl
def k_ePr_1 (c : String) (f : List D → Store → R D) (x : D) (S1 : Store) : R D := if x.isC c "" S1 then (f [x] S1).clean else .no
theorem ap_k_ePr_1 (c : String) (f : List D → Store → R D) (x : D) (S1 : Store) : k_ePr_1 c f x S1 = (if x.isC c "" S1 then (f [x] S1).clean else .no) := rfl
theorem ap_ePr (c : String) (f : List D → Store → R D) (g : Sx D) (e : En) (S : Store) : ePr c f g e S = ((g e S).bind (k_ePr_1 c f)) := rfl
def k_eMk_1 (c' : Cell) (S3 : Store) : R D := .ok c'.tree S3
theorem ap_k_eMk_1 (c' : Cell) (S3 : Store) : k_eMk_1 c' S3 = (.ok c'.tree S3) := rfl
def k_eMk_2 (c : String) (f : Cell → List D → Store → R Cell) (ds : (List D)) (S2 : Store) : R D := (f (.ins c []) ds S2).bind (k_eMk_1)
theorem ap_k_eMk_2 (c : String) (f : Cell → List D → Store → R Cell) (ds : (List D)) (S2 : Store) : k_eMk_2 c f ds S2 = ((f (.ins c []) ds S2).bind (k_eMk_1)) := rfl
def k_eMk_3 (c : String) (f : Cell → List D → Store → R Cell) (a : Sx (List D)) (e : En) (x : D) (S1 : Store) : R D := match x with
  | .cls c' => if c' = c then (a e S1).bind (k_eMk_2 c f) else .no
  | _ => .no
theorem ap_k_eMk_3 (c : String) (f : Cell → List D → Store → R Cell) (a : Sx (List D)) (e : En) (x : D) (S1 : Store) : k_eMk_3 c f a e x S1 = (match x with
  | .cls c' => if c' = c then (a e S1).bind (k_eMk_2 c f) else .no
  | _ => .no) := rfl
theorem ap_eMk (c : String) (f : Cell → List D → Store → R Cell) (g : Sx D) (a : Sx (List D)) (e : En) (S : Store) : eMk c f g a e S = ((g e S).bind (k_eMk_3 c f a e)) := rfl
def k_eMkC_1 (c' : Cell) (S3 : Store) : R D := pubC c' S3
theorem ap_k_eMkC_1 (c' : Cell) (S3 : Store) : k_eMkC_1 c' S3 = (pubC c' S3) := rfl
def k_eMkC_2 (c : String) (f : Cell → List D → Store → R Cell) (ds : (List D)) (S2 : Store) : R D := (f (.ins c []) ds S2).bind (k_eMkC_1)
theorem ap_k_eMkC_2 (c : String) (f : Cell → List D → Store → R Cell) (ds : (List D)) (S2 : Store) : k_eMkC_2 c f ds S2 = ((f (.ins c []) ds S2).bind (k_eMkC_1)) := rfl
def k_eMkC_3 (c : String) (f : Cell → List D → Store → R Cell) (a : Sx (List D)) (e : En) (x : D) (S1 : Store) : R D := match x with
  | .cls c' => if c' = c then (a e S1).bind (k_eMkC_2 c f) else .no
  | _ => .no
theorem ap_k_eMkC_3 (c : String) (f : Cell → List D → Store → R Cell) (a : Sx (List D)) (e : En) (x : D) (S1 : Store) : k_eMkC_3 c f a e x S1 = (match x with
  | .cls c' => if c' = c then (a e S1).bind (k_eMkC_2 c f) else .no
  | _ => .no) := rfl
theorem ap_eMkC (c : String) (f : Cell → List D → Store → R Cell) (g : Sx D) (a : Sx (List D)) (e : En) (S : Store) : eMkC c f g a e S = ((g e S).bind (k_eMkC_3 c f a e)) := rfl
def k_eLstC_1 (xs : (List D)) (S1 : Store) : R D := if xs.length ≤ sizeLine then pubC (.lst xs) S1 else .no
theorem ap_k_eLstC_1 (xs : (List D)) (S1 : Store) : k_eLstC_1 xs S1 = (if xs.length ≤ sizeLine then pubC (.lst xs) S1 else .no) := rfl
theorem ap_eLstC (a : Sx (List D)) (e : En) (S : Store) : eLstC a e S = ((a e S).bind (k_eLstC_1)) := rfl
theorem ap_pubC (c : Cell) (S : Store) : pubC c S = (.ok (.ref S.length) (S ++ [c])) := rfl
def k_eIsi_1 (bi : List String) (own : List (String × Bool)) (x : D) (S1 : Store) : R D := R.of S1 ((isiF bi own x).map .bl)
theorem ap_k_eIsi_1 (bi : List String) (own : List (String × Bool)) (x : D) (S1 : Store) : k_eIsi_1 bi own x S1 = (R.of S1 ((isiF bi own x).map .bl)) := rfl
theorem ap_eIsi (bi : List String) (own : List (String × Bool)) (f : Sx D) (e : En) (S : Store) : eIsi bi own f e S = ((f e S).bind (k_eIsi_1 bi own)) := rfl
def k_eFmt_1 (x : D) (S1 : Store) : R D := R.of S1 (fmtD x)
theorem ap_k_eFmt_1 (x : D) (S1 : Store) : k_eFmt_1 x S1 = (R.of S1 (fmtD x)) := rfl
theorem ap_eFmt (f : Sx D) (e : En) (S : Store) : eFmt f e S = ((f e S).bind (k_eFmt_1)) := rfl
def k_eSl_1 (x : D) (l : (Option Int)) (u : (Option Int)) (S3 : Store) : R D := match x with
  | .ref n => match S3[n]? with
    | some (.lst xs) => .ok (.lst (cutD xs l u)) S3
    | _ => .no
  | _ => R.of S3 (x.sl l u)
theorem ap_k_eSl_1 (x : D) (l : (Option Int)) (u : (Option Int)) (S3 : Store) : k_eSl_1 x l u S3 = (match x with
  | .ref n => match S3[n]? with
    | some (.lst xs) => .ok (.lst (cutD xs l u)) S3
    | _ => .no
  | _ => R.of S3 (x.sl l u)) := rfl
def k_eSl_2 (hi : Sx (Option Int)) (e : En) (x : D) (l : (Option Int)) (S2 : Store) : R D := (hi e S2).bind (k_eSl_1 x l)
theorem ap_k_eSl_2 (hi : Sx (Option Int)) (e : En) (x : D) (l : (Option Int)) (S2 : Store) : k_eSl_2 hi e x l S2 = ((hi e S2).bind (k_eSl_1 x l)) := rfl
def k_eSl_3 (lo : Sx (Option Int)) (hi : Sx (Option Int)) (e : En) (x : D) (S1 : Store) : R D := (lo e S1).bind (k_eSl_2 hi e x)
theorem ap_k_eSl_3 (lo : Sx (Option Int)) (hi : Sx (Option Int)) (e : En) (x : D) (S1 : Store) : k_eSl_3 lo hi e x S1 = ((lo e S1).bind (k_eSl_2 hi e x)) := rfl
theorem ap_eSl (f : Sx D) (lo hi : Sx (Option Int)) (e : En) (S : Store) : eSl f lo hi e S = ((f e S).bind (k_eSl_3 lo hi e)) := rfl
theorem ap_pNo (_z : En) (S : Store) : pNo _z S = (.ok none S) := rfl
def k_pSo_1 (x : D) (S1 : Store) : R (Option Int) := match x with
  | .int i => .ok (some i) S1
  | _ => .no
theorem ap_k_pSo_1 (x : D) (S1 : Store) : k_pSo_1 x S1 = (match x with
  | .int i => .ok (some i) S1
  | _ => .no) := rfl
theorem ap_pSo (f : Sx D) (e : En) (S : Store) : pSo f e S = ((f e S).bind (k_pSo_1)) := rfl
def k_eM1_1 (o : Str → D → Option D) (z : Str) (y : D) (S2 : Store) : R D := R.of S2 (o z y)
theorem ap_k_eM1_1 (o : Str → D → Option D) (z : Str) (y : D) (S2 : Store) : k_eM1_1 o z y S2 = (R.of S2 (o z y)) := rfl
def k_eM1_2 (o : Str → D → Option D) (g : Sx D) (e : En) (x : D) (S1 : Store) : R D := match x with
  | .str z => (g e S1).bind (k_eM1_1 o z)
  | _ => .no
theorem ap_k_eM1_2 (o : Str → D → Option D) (g : Sx D) (e : En) (x : D) (S1 : Store) : k_eM1_2 o g e x S1 = (match x with
  | .str z => (g e S1).bind (k_eM1_1 o z)
  | _ => .no) := rfl
theorem ap_eM1 (o : Str → D → Option D) (f g : Sx D) (e : En) (S : Store) : eM1 o f g e S = ((f e S).bind (k_eM1_2 o g e)) := rfl
theorem ap_eAct (f : Addr) (th : Store → R D) (e : En) (S : Store) : eAct f th e S = (match (e[0]? : Option Sl) with
  | some (Sl.val (.adr g)) => if g = f ∧ noOwn e = true then th S else .no
  | _ => .no) := rfl
theorem ap_eLam (heard : Addr → (Store → R D) → Store → R D) (f : Sx D) (e : En) (S : Store) : eLam heard f e S = ((heard 0 (fun S1 => f e S1) S).clean) := rfl
def k_eXf_1 (cs : List String) (fd : Str) (x : D) (S1 : Store) : R D := match x with
  | .exc c fs => if c ∈ cs then R.of S1 (fs.lookup fd) else .no
  | _ => .no
theorem ap_k_eXf_1 (cs : List String) (fd : Str) (x : D) (S1 : Store) : k_eXf_1 cs fd x S1 = (match x with
  | .exc c fs => if c ∈ cs then R.of S1 (fs.lookup fd) else .no
  | _ => .no) := rfl
theorem ap_eXf (cs : List String) (fd : Str) (g : Sx D) (e : En) (S : Store) : eXf cs fd g e S = ((g e S).bind (k_eXf_1 cs fd)) := rfl
def k_eBinE_1 (o : D → D → Store → R D) (x : D) (y : D) (S2 : Store) : R D := (o x y S2).clean
theorem ap_k_eBinE_1 (o : D → D → Store → R D) (x : D) (y : D) (S2 : Store) : k_eBinE_1 o x y S2 = ((o x y S2).clean) := rfl
def k_eBinE_2 (o : D → D → Store → R D) (g : Sx D) (e : En) (x : D) (S1 : Store) : R D := (g e S1).bind (k_eBinE_1 o x)
theorem ap_k_eBinE_2 (o : D → D → Store → R D) (g : Sx D) (e : En) (x : D) (S1 : Store) : k_eBinE_2 o g e x S1 = ((g e S1).bind (k_eBinE_1 o x)) := rfl
theorem ap_eBinE (o : D → D → Store → R D) (f g : Sx D) (e : En) (S : Store) : eBinE o f g e S = ((f e S).bind (k_eBinE_2 o g e)) := rfl
def k_eCallE_1 (o : List D → Store → R D) (xs : (List D)) (S1 : Store) : R D := (o xs S1).clean
theorem ap_k_eCallE_1 (o : List D → Store → R D) (xs : (List D)) (S1 : Store) : k_eCallE_1 o xs S1 = ((o xs S1).clean) := rfl
theorem ap_eCallE (o : List D → Store → R D) (g : Sx (List D)) (e : En) (S : Store) : eCallE o g e S = ((g e S).bind (k_eCallE_1 o)) := rfl
def k_eNew_1 (ds : (List D)) (S1 : Store) : R D := .ok (.lst ds) S1
theorem ap_k_eNew_1 (ds : (List D)) (S1 : Store) : k_eNew_1 ds S1 = (.ok (.lst ds) S1) := rfl
theorem ap_eNew (f : Sx (List D)) (e : En) (S : Store) : eNew f e S = ((f e S).bind (k_eNew_1)) := rfl
def k_lComp_1 (vs : List Nat) (g : Tg) (t : Sx Bool) (f : Sx D) (e : En) (ds : (List D)) (S1 : Store) : R (List D) := if ds.length ≤ sizeLine ∧ vs.all (fun v => notOwn v e) = true then (mapA g t f [] ds (clr vs e) S1).clean else .no
theorem ap_k_lComp_1 (vs : List Nat) (g : Tg) (t : Sx Bool) (f : Sx D) (e : En) (ds : (List D)) (S1 : Store) : k_lComp_1 vs g t f e ds S1 = (if ds.length ≤ sizeLine ∧ vs.all (fun v => notOwn v e) = true then (mapA g t f [] ds (clr vs e) S1).clean else .no) := rfl
theorem ap_lComp (vs : List Nat) (it : Sx (List D)) (g : Tg) (t : Sx Bool) (f : Sx D) (e : En) (S : Store) : lComp vs it g t f e S = ((it e S).bind (k_lComp_1 vs g t f e)) := rfl
def k_iSq_1 (x : D) (S1 : Store) : R (List D) := R.of S1 x.items
theorem ap_k_iSq_1 (x : D) (S1 : Store) : k_iSq_1 x S1 = (R.of S1 x.items) := rfl
theorem ap_iSq (f : Sx D) (e : En) (S : Store) : iSq f e S = ((f e S).bind (k_iSq_1)) := rfl
def k_iRng1_1 (xs : (List D)) (S1 : Store) : R (List D) := match xs with
  | [.int j] => if okR j = true then .ok ((List.range j.toNat).map fun i => .int (i : Nat)) S1 else .no
  | _ => .no
theorem ap_k_iRng1_1 (xs : (List D)) (S1 : Store) : k_iRng1_1 xs S1 = (match xs with
  | [.int j] => if okR j = true then .ok ((List.range j.toNat).map fun i => .int (i : Nat)) S1 else .no
  | _ => .no) := rfl
theorem ap_iRng1 (a : Sx (List D)) (e : En) (S : Store) : iRng1 a e S = ((a e S).bind (k_iRng1_1)) := rfl
theorem ap_tYesD (_z : En) (S : Store) : tYesD _z S = (.ok true S) := rfl
theorem ap_gN (i : Nat) (d : D) (e : En) : gN i d e = (if notOwn i e then some (e.set i (.val d)) else none) := rfl
theorem ap_gT (gs : List D → En → Option En) (d : D) (e : En) : gT gs d e = (match d with
  | .tup ds => gs ds e
  | _ => none) := rfl
theorem ap_gsNil (ds : List D) (e : En) : gsNil ds e = (match ds with
  | [] => some e
  | _ => none) := rfl
theorem ap_gsCons (g : Tg) (gs : List D → En → Option En) (ds : List D) (e : En) : gsCons g gs ds e = (match ds with
  | d :: ds => (g d e).bind (gs ds)
  | [] => none) := rfl
theorem ap_noOwn (e : En) : noOwn e = (e.all fun s => match s with
  | .own _ => false
  | _ => true) := rfl
theorem ap_dflF (dv : List D) (f : List D → Store → R D) (ds : List D) (S : Store) : dflF dv f ds S = (f (ds ++ dv) S) := rfl
theorem ap_dflI (dv : List D) (f : Cell → List D → Store → R Cell) (c : Cell) (ds : List D) (S : Store) : dflI dv f c ds S = (f c (ds ++ dv) S) := rfl
theorem ap_cOf (o : List D → Option D) (x : List D) (S : Store) : cOf o x S = (R.of S (o x)) := rfl
theorem ap_oOf (o : D → D → Option D) (x : D) (y : D) (S : Store) : oOf o x y S = (R.of S (o x y)) := rfl
def k_oOwn_1 (neg : Bool) (z : D) (S1 : Store) : R D := R.of S1 (z.b.map fun b => .bl (if neg then !b else b))
theorem ap_k_oOwn_1 (neg : Bool) (z : D) (S1 : Store) : k_oOwn_1 neg z S1 = (R.of S1 (z.b.map fun b => .bl (if neg then !b else b))) := rfl
theorem ap_oOwn (neg : Bool) (c : String) (bi cs : List String) (F : List D → Store → R D) (x : D) (y : D) (S : Store) : oOwn neg c bi cs F x y S = (if x.isO c S = true ∧ y.tyIn bi cs S = true then (F [x, y] S).clean.bind (k_oOwn_1 neg) else .no) := rfl
theorem ap_oOr (o p : D → D → Store → R D) (x : D) (y : D) (S : Store) : oOr o p x y S = ((o x y S).orE (p x y S)) := rfl
theorem ap_sTryM (hs : List Hd) (body : Sy) (e : En) (S : Store) : sTryM hs body e S = (match body e S with
  | .er x e1 S1 => sTryH hs x e1 S1
  | r => r) := rfl
def k_sPar_1 (i : Nat) (j : Nat) (e : En) (xs : (List D)) (S1 : Store) : RS := match xs with
  | [x, y] => if notOwn i e = true ∧ notOwn j (e.set i (.val x)) = true then .nx ((e.set i (.val x)).set j (.val y)) S1 else .no
  | _ => .no
theorem ap_k_sPar_1 (i : Nat) (j : Nat) (e : En) (xs : (List D)) (S1 : Store) : k_sPar_1 i j e xs S1 = (match xs with
  | [x, y] => if notOwn i e = true ∧ notOwn j (e.set i (.val x)) = true then .nx ((e.set i (.val x)).set j (.val y)) S1 else .no
  | _ => .no) := rfl
theorem ap_sPar (i j : Nat) (a : Sx (List D)) (e : En) (S : Store) : sPar i j a e S = ((a e S).run e (k_sPar_1 i j e)) := rfl
theorem ap_kwF (g : List D → List D) (F : List D → Store → R D) (ds : List D) (S : Store) : kwF g F ds S = (match ds with
  | x :: zs => F (x :: g zs) S
  | _ => .no) := rfl
def k_lComp2_1 (vs : List Nat) (g : Tg) (t : Sx Bool) (it1 : Sx (List D)) (vs1 : List Nat) (g1 : Tg) (t1 : Sx Bool) (f : Sx D) (e : En) (ds : (List D)) (S1 : Store) : R (List D) := if vs.all (fun v => notOwn v e) = true then (mapB g t it1 vs1 g1 t1 f [] ds (clr vs e) S1).clean else .no
theorem ap_k_lComp2_1 (vs : List Nat) (g : Tg) (t : Sx Bool) (it1 : Sx (List D)) (vs1 : List Nat) (g1 : Tg) (t1 : Sx Bool) (f : Sx D) (e : En) (ds : (List D)) (S1 : Store) : k_lComp2_1 vs g t it1 vs1 g1 t1 f e ds S1 = (if vs.all (fun v => notOwn v e) = true then (mapB g t it1 vs1 g1 t1 f [] ds (clr vs e) S1).clean else .no) := rfl
theorem ap_lComp2 (vs : List Nat) (it : Sx (List D)) (g : Tg) (t : Sx Bool) (it1 : Sx (List D)) (vs1 : List Nat) (g1 : Tg) (t1 : Sx Bool) (f : Sx D) (e : En) (S : Store) : lComp2 vs it g t it1 vs1 g1 t1 f e S = ((it e S).bind (k_lComp2_1 vs g t it1 vs1 g1 t1 f e)) := rfl
def k_eCf_1 (F : List D → Store → R D) (ds : (List D)) (S2 : Store) : R D := F ds S2
theorem ap_k_eCf_1 (F : List D → Store → R D) (ds : (List D)) (S2 : Store) : k_eCf_1 F ds S2 = (F ds S2) := rfl
def k_eCf_2 (c : String) (F : List D → Store → R D) (a : Sx (List D)) (e : En) (d : D) (S1 : Store) : R D := match d with
  | .cls c' => if c' = c then (a e S1).bind (k_eCf_1 F) else .no
  | _ => .no
theorem ap_k_eCf_2 (c : String) (F : List D → Store → R D) (a : Sx (List D)) (e : En) (d : D) (S1 : Store) : k_eCf_2 c F a e d S1 = (match d with
  | .cls c' => if c' = c then (a e S1).bind (k_eCf_1 F) else .no
  | _ => .no) := rfl
theorem ap_eCf (c : String) (F : List D → Store → R D) (g : Sx D) (a : Sx (List D)) (e : En) (S : Store) : eCf c F g a e S = ((g e S).bind (k_eCf_2 c F a e)) := rfl
def k_eNewD_1 (kvs : List (Key × D)) (S1 : Store) : R D := .ok (.fk kvs) S1
theorem ap_k_eNewD_1 (kvs : List (Key × D)) (S1 : Store) : k_eNewD_1 kvs S1 = (.ok (.fk kvs) S1) := rfl
theorem ap_eNewD (f : Sx (List (Key × D))) (e : En) (S : Store) : eNewD f e S = ((f e S).bind (k_eNewD_1)) := rfl
theorem ap_kNil (e : En) (S : Store) : kNil e S = (.ok [] S) := rfl
theorem ap_iRng3 (a : Sx (List D)) (e : En) (S : Store) : iRng3 a e S = ((a e S).bind fun xs S1 => match xs with
  | [.int i, .int j, .int c] => if 0 ≤ i ∧ i ≤ j ∧ j < 1000000 ∧ 1 ≤ c ∧ c < 1000000 then .ok ((List.range (rgN i j c)).map fun k => .int (i + (k : Nat) * c)) S1 else .no
  | _ => .no) := rfl
theorem ap_eDixT (f g : Sx D) (e : En) (S : Store) : eDixT f g e S = ((f e S).bind fun x S1 => (g e S1).bind fun y S2 => R.of S2 ((x.dtv S2).bind fun kvs => (y.tkey).bind fun k => dtV kvs k)) := rfl
def k_iDt_1 (x : D) (S1 : Store) : R (List D) := match x with
  | .ft kvs => .ok (kvs.map fun p => tkeyD p.1) S1
  | _ => .no
theorem ap_k_iDt_1 (x : D) (S1 : Store) : k_iDt_1 x S1 = (match x with
  | .ft kvs => .ok (kvs.map fun p => tkeyD p.1) S1
  | _ => .no) := rfl
theorem ap_iDt (f : Sx D) (e : En) (S : Store) : iDt f e S = ((f e S).bind (k_iDt_1)) := rfl
theorem ap_eLenT (f : Sx D) (e : En) (S : Store) : eLenT f e S = ((f e S).bind fun x S1 => R.of S1 ((x.dtv S1).map fun kvs => .int kvs.length)) := rfl
theorem ap_eNewT (f : Sx (List (List Key × D))) (e : En) (S : Store) : eNewT f e S = ((f e S).bind fun kvs S1 => .ok (.ft kvs) S1) := rfl
theorem ap_sOwnT (i : Nat) (f : Sx (List (List Key × D))) (e : En) (S : Store) : sOwnT i f e S = ((f e S).run e fun kvs S1 => if i < e.length ∧ notOwn i e = true then .nx (e.set i (.own (.dt kvs))) S1 else .no) := rfl
theorem ap_kNilT (e : En) (S : Store) : kNilT e S = (.ok [] S) := rfl
theorem ap_kCompT (vs : List Nat) (it : Sx (List D)) (g : Tg) (t : Sx Bool) (fk fv : Sx D) (e : En) (S : Store) : kCompT vs it g t fk fv e S = ((it e S).bind fun ds S1 => if ds.length ≤ sizeLine ∧ vs.all (fun v => notOwn v e) = true then (mapT g t fk fv [] ds (clr vs e) S1).clean else .no) := rfl
theorem ap_sFrzT (i : Nat) (p : Sy) (e : En) (S : Store) : sFrzT i p e S = (match (e[i]? : Option Sl) with
  | some (Sl.own (.dt kvs)) => p (e.set i (.val (.ft kvs))) S
  | _ => p e S) := rfl
theorem ap_sDsOT (i : Nat) (k f : Sx D) (e : En) (S : Store) : sDsOT i k f e S = (match (e[i]? : Option Sl) with
  | some (Sl.own (.dt kvs)) => (f e S).run e fun d S1 => (k e S1).run e fun y S2 => setDt i kvs y d e S2
  | _ => .no) := rfl
theorem ap_setDt (i : Nat) (kvs : List (List Key × D)) (y d : D) (e : En) (S : Store) : setDt i kvs y d e S = (match y.tkey with
  | some kk => if kvs.length < sizeLine then .nx (e.set i (.own (.dt (dtSt kvs kk d)))) S else .no
  | none => .no) := rfl
theorem ap_eIsiY (bi : List String) (own : List (String × Bool)) (f : Sx D) (e : En) (S : Store) : eIsiY bi own f e S = ((f e S).bind fun x S1 => R.of S1 ((isiY bi own x).map .bl)) := rfl
theorem ap_oEqT (neg : Bool) (x y : D) (S : Store) : oEqT neg x y S = (R.of S ((x.dtv S).bind fun ks => (y.dtv S).bind fun ls => (dtEq ks ls).map fun b => .bl (if neg then !b else b))) := rfl
theorem ap_sPar3T (i j l : Nat) (f : Sx D) (g : Sx (List (List Key × D))) (h : Sx D) (e : En) (S : Store) : sPar3T i j l f g h e S = ((f e S).run e fun d1 S1 => (g e S1).run e fun kvs S2 => (h e S2).run e fun d3 S3 => putPT i j l d1 kvs d3 e S3) := rfl
theorem ap_putPT (i j l : Nat) (d1 : D) (kvs : List (List Key × D)) (d3 : D) (e : En) (S : Store) : putPT i j l d1 kvs d3 e S = (if notOwn i e = true ∧ (j < (e.set i (.val d1)).length ∧ notOwn j (e.set i (.val d1)) = true) ∧ notOwn l ((e.set i (.val d1)).set j (.own (.dt kvs))) = true then .nx (((e.set i (.val d1)).set j (.own (.dt kvs))).set l (.val d3)) S else .no) := rfl
end Sh
local macro_rules | `(tactic| simp_all_arith) => `(tactic| simp -implicitDefEqProofs (disch := first | (simp only [Sh.isDat_non, Sh.isDat_bl, Sh.isDat_int, Sh.isDat_str, Sh.isDat_t9, Sh.isDat_l9, Sh.isDat_t8, Sh.isDat_l8, Sh.isDat_t7, Sh.isDat_l7, Sh.isDat_t6, Sh.isDat_l6, List.all_cons, List.all_nil, Bool.and_self, Bool.and_true]; done) | omega | (simp only [List.length_append, List.length_cons, List.length_nil, List.length_map, List.length_replicate, List.length_drop, List.length_take]; omega)) only [Sh.ap_runD, Sh.ap_runI, Sh.runL, Sh.ap_sSeq, Sh.ap_sNil, Sh.ap_sSet, Sh.ap_sDrop, Sh.ap_sRet, Sh.ap_sIf, Sh.ap_sFor, Sh.ap_sRs, Sh.ap_sFdO, Sh.ap_sFdC, Sh.ap_sFdA, Sh.ap_sIxC, Sh.ap_eVar, Sh.ap_eC, Sh.ap_eBin, Sh.ap_eUn, Sh.ap_tVal, Sh.ap_tNt, Sh.ap_tAd, Sh.ap_tOo, Sh.ap_eNt, Sh.ap_eAd, Sh.ap_eIf, Sh.ap_eChain, Sh.ap_aNil, Sh.ap_aCons, Sh.ap_eTup, Sh.ap_eLst, Sh.ap_eCall, Sh.ap_eIx, Sh.ap_eDf, Sh.ap_eFd, Sh.ap_eMe, Sh.ap_eCm, Sh.ap_ePr, Sh.ap_eMk, Sh.ap_eMkC, Sh.ap_eLstC, Sh.ap_pubC, Sh.ap_eIsi, Sh.ap_eFmt, Sh.ap_eSl, Sh.ap_pNo, Sh.ap_pSo, Sh.ap_eM1, Sh.ap_eAct, Sh.ap_eLam, Sh.ap_eXf, Sh.ap_eBinE, Sh.ap_eCallE, Sh.ap_eNew, Sh.ap_lComp, Sh.clr, Sh.ap_iSq, Sh.ap_iRng1, Sh.ap_tYesD, Sh.ap_gN, Sh.ap_gT, Sh.ap_gsNil, Sh.ap_gsCons, Sh.notOwn_free, Sh.free_no, Sh.free_val, Sh.free_own, Sh.ap_noOwn, Sh.ap_dflF, Sh.ap_dflI, Sh.ap_cOf, Sh.ap_oOf, ↓Sh.seq_nx, ↓Sh.seq_rt, ↓Sh.seq_bk, ↓Sh.seq_ct, ↓Sh.seq_er, ↓Sh.seq_no, ↓Sh.run_ok, ↓Sh.run_er, ↓Sh.run_no, ↓Sh.ok_bind, ↓Sh.er_bind, ↓Sh.no_bind, Sh.of_some, Sh.of_none, Sh.res_nx, Sh.res_rt, Sh.res_er, Sh.res_no, Sh.resI_nx, Sh.resI_er, Sh.resI_no, Sh.orE_no, Sh.orE_ok, Sh.orE_er, Sh.clean_ok, Sh.clean_er, Sh.clean_no, Sh.clean_of, Option.map_some, Option.map_none, ↓Option.bind_some, ↓Option.bind_none, List.getElem?_cons_zero, List.getElem?_cons_succ, List.set_cons_zero, List.set_cons_succ, List.length_cons, List.length_nil, List.map_cons, List.map_nil, List.cons_append, List.nil_append, List.append_nil, List.replicate_succ, List.replicate_zero, List.all_cons, List.all_nil, Nat.zero_add, Nat.reduceAdd, Nat.reduceLeDiff, Nat.reduceLT, Nat.reduceEqDiff, if_true, if_false, ite_true, ite_false, reduceIte, Bool.and_true, Bool.true_and, and_true, true_and, and_self, decide_true, decide_false, Bool.not_true, Bool.not_false, Bool.false_eq_true, reduceCtorEq, cond_true, cond_false, List.lookup_nil, List.lookup_cons, Sh.ofStr_beq, Sh.ofStr_eq, String.reduceBEq, String.reduceEq, beq_self_eq_true, List.mem_cons, List.not_mem_nil, or_false, false_or, or_true, true_or, or_self, Sh.dMul_L, Sh.dMul_R, Sh.dAdd_I, Sh.dSub_I, Sh.dMod_I, Sh.dFdiv_I, Sh.dPow_I, Sh.dLt_I, Sh.dLe_I, Sh.dGt_I, Sh.dGe_I, Sh.dInt_I, Sh.dInt_B, Sh.dAbs_I, Sh.dLen_L, Sh.ix_L, Sh.at0, Sh.at1, Sh.at2, Sh.ixN0, Sh.ixN1, Sh.ixN2, Sh.ap_oOwn, Sh.ap_oOr, Sh.ap_sTryM, Sh.sWhile, Sh.putD, Nat.zero_le, List.take_zero, List.drop_zero, List.contains_cons, List.contains_nil, Bool.or_false, Bool.false_or, Bool.or_true, Bool.true_or, Bool.and_false, Bool.false_and, List.length_map, Int.toNat_natCast, Int.natCast_nonneg, Sh.forD_nil, Sh.mapA_nil, ↓Sh.turn_nx, ↓Sh.turn_ct, ↓Sh.turn_bk, ↓Sh.turn_rt, ↓Sh.turn_er, ↓Sh.turn_no, List.length_replicate, List.length_append, List.length_range, Option.isNone_some, Option.isNone_none, Option.isNone, Bool.not_eq_true, eq_self, id_eq, Int.cast_ofNat_Int, Int.reduceBEq, Int.reduceLT, Int.reduceLE, Int.reduceToNat, Int.reduceAdd, Int.reduceSub, Int.reduceNeg, Int.reduceMul, Sh.D.bs, Sh.ap_sPar, Sh.ap_kwF, Sh.ap_lComp2, Sh.ap_eCf, Sh.ap_eNewD, Sh.ap_kNil, Sh.dNilEq, Sh.ap_iRng3, Sh.ap_eDixT, Sh.ap_iDt, Sh.ap_eLenT, Sh.ap_eNewT, Sh.ap_sOwnT, Sh.ap_kNilT, Sh.ap_kCompT, Sh.ap_sFrzT, Sh.ap_sDsOT, Sh.ap_setDt, Sh.ap_eIsiY, Sh.ap_oEqT, Sh.ap_sPar3T, Sh.ap_putPT, Sh.dStr_S, Sh.dStr_N, Sh.fmt_N, Sh.eJs_nil, Sh.eJs_cons, Sh.kJs_s, Sh.szl, Sh.szt, Sh.b_bl, Sh.dEq_q, Sh.dNe_q, Sh.isDat_non, Sh.isDat_bl, Sh.isDat_int, Sh.isDat_str, Sh.isDat_t9, Sh.isDat_l9, Sh.isDat_t8, Sh.isDat_l8, Sh.isDat_t7, Sh.isDat_l7, Sh.isDat_t6, Sh.isDat_l6, Sh.qe_ii, Sh.qe_ss, Sh.qe_bb, Sh.qe_bi, Sh.qe_ib, Sh.qe_nn, Sh.qe_ns, Sh.qe_sn, Sh.qe_ni, Sh.qe_in, Sh.qe_is, Sh.qe_si, Sh.qe_bn, Sh.qe_nb, Sh.qe_bs, Sh.qe_sb, Sh.qe_tt, Sh.qe_ll, Sh.qe_lt, Sh.qe_tl, Sh.qe_tn, Sh.qe_nt, Sh.qe_ts, Sh.qe_st, Sh.qes_nil, Sh.qes_cons, Sh.qes_nc, Sh.qes_cn, Sh.at_z, Sh.at_1, Sh.at_2, Sh.at_3, Sh.at_4, Sh.ix_T, Sh.dLen_S, Sh.dLen_T, Sh.sl_L, Sh.sl_T, Sh.sl_S, Sh.cut_to, Sh.cut_from, Sh.dList_L, Sh.dList_T, Sh.dTuple_L, Sh.dTuple_T, Sh.okRt, Sh.bs_bls, Sh.dAll_b, Sh.isi_non, Sh.isi_bl, Sh.isi_int, Sh.isi_str, Sh.isi_tup, Sh.isi_lst, Sh.isi_scr, Sh.isi_dk, Sh.isi_dt, Sh.isi_obj, Sh.items_lst, Sh.items_tup, Sh.items_str, Sh.fmt_str, Sh.tree_lst, Sh.tree_ins, Sh.tree_dk, Sh.tree_fk, Sh.tree_dt, Sh.seq_lst, Sh.seq_tup, Sh.isN_non, Sh.isN_bl, Sh.isN_int, Sh.isN_str, Sh.isN_tup, Sh.isN_lst, Sh.isN_obj, Sh.isN_exc, Sh.isN_ref, Sh.is_n, Sh.not_n, Sh.fld_obj, Sh.isC_obj, Sh.isO_obj, Sh.tyIn_obj, Sh.dAdd_ll, Sh.dAdd_tt, Sh.dAdd_ss, Sh.dMul_r1, Sh.strs_map, Sh.dEq_sk, Sh.dEq_so, Sh.key_str, Sh.key_int, Sh.keyD_s, Sh.keyD_i, Sh.isi_fk, Sh.tyIn_fk, Sh.sTryH_nil, Sh.sTryH_some, Sh.sTryH_none, Sh.prm_nil, Sh.prm_0, Sh.prm_1, Sh.prm_2, Sh.zip_nn, Sh.zip_cc, Sh.ap_k_sSet_1, Sh.ap_k_sDrop_1, Sh.ap_k_sRet_1, Sh.ap_k_sIf_1, Sh.ap_k_sFor_1, Sh.ap_k_sRs_1, Sh.ap_k_sFdO_1, Sh.ap_k_sFdC_1, Sh.ap_k_sFdC_2, Sh.ap_k_sFdA_1, Sh.ap_k_sFdA_2, Sh.ap_k_sIxC_1, Sh.ap_k_sIxC_2, Sh.ap_k_sIxC_3, Sh.ap_k_eBin_1, Sh.ap_k_eBin_2, Sh.ap_k_eUn_1, Sh.ap_k_tVal_1, Sh.ap_k_tNt_1, Sh.ap_k_tAd_1, Sh.ap_k_tOo_1, Sh.ap_k_eNt_1, Sh.ap_k_eAd_1, Sh.ap_k_eIf_1, Sh.ap_k_eChain_1, Sh.ap_k_eChain_2, Sh.ap_k_eChain_3, Sh.ap_k_eChain_4, Sh.ap_k_aCons_1, Sh.ap_k_aCons_2, Sh.ap_k_eTup_1, Sh.ap_k_eLst_1, Sh.ap_k_eCall_1, Sh.ap_k_eIx_1, Sh.ap_k_eIx_2, Sh.ap_k_eDf_1, Sh.ap_k_eFd_1, Sh.ap_k_eMe_1, Sh.ap_k_eMe_2, Sh.ap_k_eCm_1, Sh.ap_k_eCm_2, Sh.ap_k_ePr_1, Sh.ap_k_eMk_1, Sh.ap_k_eMk_2, Sh.ap_k_eMk_3, Sh.ap_k_eMkC_1, Sh.ap_k_eMkC_2, Sh.ap_k_eMkC_3, Sh.ap_k_eLstC_1, Sh.ap_k_eIsi_1, Sh.ap_k_eFmt_1, Sh.ap_k_eSl_1, Sh.ap_k_eSl_2, Sh.ap_k_eSl_3, Sh.ap_k_pSo_1, Sh.ap_k_eM1_1, Sh.ap_k_eM1_2, Sh.ap_k_eXf_1, Sh.ap_k_eBinE_1, Sh.ap_k_eBinE_2, Sh.ap_k_eCallE_1, Sh.ap_k_eNew_1, Sh.ap_k_lComp_1, Sh.ap_k_iSq_1, Sh.ap_k_iRng1_1, Sh.ap_k_oOwn_1, Sh.ap_k_sPar_1, Sh.ap_k_lComp2_1, Sh.ap_k_eCf_1, Sh.ap_k_eCf_2, Sh.ap_k_eNewD_1, Sh.ap_k_iDt_1])
local macro_rules | `(tactic| simp_all_arith [$ts,*]) => `(tactic| simp -implicitDefEqProofs (disch := first | (simp only [Sh.isDat_non, Sh.isDat_bl, Sh.isDat_int, Sh.isDat_str, Sh.isDat_t9, Sh.isDat_l9, Sh.isDat_t8, Sh.isDat_l8, Sh.isDat_t7, Sh.isDat_l7, Sh.isDat_t6, Sh.isDat_l6, List.all_cons, List.all_nil, Bool.and_self, Bool.and_true]; done) | omega | (simp only [List.length_append, List.length_cons, List.length_nil, List.length_map, List.length_replicate, List.length_drop, List.length_take]; omega)) only [Sh.ap_runD, Sh.ap_runI, Sh.runL, Sh.ap_sSeq, Sh.ap_sNil, Sh.ap_sSet, Sh.ap_sDrop, Sh.ap_sRet, Sh.ap_sIf, Sh.ap_sFor, Sh.ap_sRs, Sh.ap_sFdO, Sh.ap_sFdC, Sh.ap_sFdA, Sh.ap_sIxC, Sh.ap_eVar, Sh.ap_eC, Sh.ap_eBin, Sh.ap_eUn, Sh.ap_tVal, Sh.ap_tNt, Sh.ap_tAd, Sh.ap_tOo, Sh.ap_eNt, Sh.ap_eAd, Sh.ap_eIf, Sh.ap_eChain, Sh.ap_aNil, Sh.ap_aCons, Sh.ap_eTup, Sh.ap_eLst, Sh.ap_eCall, Sh.ap_eIx, Sh.ap_eDf, Sh.ap_eFd, Sh.ap_eMe, Sh.ap_eCm, Sh.ap_ePr, Sh.ap_eMk, Sh.ap_eMkC, Sh.ap_eLstC, Sh.ap_pubC, Sh.ap_eIsi, Sh.ap_eFmt, Sh.ap_eSl, Sh.ap_pNo, Sh.ap_pSo, Sh.ap_eM1, Sh.ap_eAct, Sh.ap_eLam, Sh.ap_eXf, Sh.ap_eBinE, Sh.ap_eCallE, Sh.ap_eNew, Sh.ap_lComp, Sh.clr, Sh.ap_iSq, Sh.ap_iRng1, Sh.ap_tYesD, Sh.ap_gN, Sh.ap_gT, Sh.ap_gsNil, Sh.ap_gsCons, Sh.notOwn_free, Sh.free_no, Sh.free_val, Sh.free_own, Sh.ap_noOwn, Sh.ap_dflF, Sh.ap_dflI, Sh.ap_cOf, Sh.ap_oOf, ↓Sh.seq_nx, ↓Sh.seq_rt, ↓Sh.seq_bk, ↓Sh.seq_ct, ↓Sh.seq_er, ↓Sh.seq_no, ↓Sh.run_ok, ↓Sh.run_er, ↓Sh.run_no, ↓Sh.ok_bind, ↓Sh.er_bind, ↓Sh.no_bind, Sh.of_some, Sh.of_none, Sh.res_nx, Sh.res_rt, Sh.res_er, Sh.res_no, Sh.resI_nx, Sh.resI_er, Sh.resI_no, Sh.orE_no, Sh.orE_ok, Sh.orE_er, Sh.clean_ok, Sh.clean_er, Sh.clean_no, Sh.clean_of, Option.map_some, Option.map_none, ↓Option.bind_some, ↓Option.bind_none, List.getElem?_cons_zero, List.getElem?_cons_succ, List.set_cons_zero, List.set_cons_succ, List.length_cons, List.length_nil, List.map_cons, List.map_nil, List.cons_append, List.nil_append, List.append_nil, List.replicate_succ, List.replicate_zero, List.all_cons, List.all_nil, Nat.zero_add, Nat.reduceAdd, Nat.reduceLeDiff, Nat.reduceLT, Nat.reduceEqDiff, if_true, if_false, ite_true, ite_false, reduceIte, Bool.and_true, Bool.true_and, and_true, true_and, and_self, decide_true, decide_false, Bool.not_true, Bool.not_false, Bool.false_eq_true, reduceCtorEq, cond_true, cond_false, List.lookup_nil, List.lookup_cons, Sh.ofStr_beq, Sh.ofStr_eq, String.reduceBEq, String.reduceEq, beq_self_eq_true, List.mem_cons, List.not_mem_nil, or_false, false_or, or_true, true_or, or_self, Sh.dMul_L, Sh.dMul_R, Sh.dAdd_I, Sh.dSub_I, Sh.dMod_I, Sh.dFdiv_I, Sh.dPow_I, Sh.dLt_I, Sh.dLe_I, Sh.dGt_I, Sh.dGe_I, Sh.dInt_I, Sh.dInt_B, Sh.dAbs_I, Sh.dLen_L, Sh.ix_L, Sh.at0, Sh.at1, Sh.at2, Sh.ixN0, Sh.ixN1, Sh.ixN2, Sh.ap_oOwn, Sh.ap_oOr, Sh.ap_sTryM, Sh.sWhile, Sh.putD, Nat.zero_le, List.take_zero, List.drop_zero, List.contains_cons, List.contains_nil, Bool.or_false, Bool.false_or, Bool.or_true, Bool.true_or, Bool.and_false, Bool.false_and, List.length_map, Int.toNat_natCast, Int.natCast_nonneg, Sh.forD_nil, Sh.mapA_nil, ↓Sh.turn_nx, ↓Sh.turn_ct, ↓Sh.turn_bk, ↓Sh.turn_rt, ↓Sh.turn_er, ↓Sh.turn_no, List.length_replicate, List.length_append, List.length_range, Option.isNone_some, Option.isNone_none, Option.isNone, Bool.not_eq_true, eq_self, id_eq, Int.cast_ofNat_Int, Int.reduceBEq, Int.reduceLT, Int.reduceLE, Int.reduceToNat, Int.reduceAdd, Int.reduceSub, Int.reduceNeg, Int.reduceMul, Sh.D.bs, Sh.ap_sPar, Sh.ap_kwF, Sh.ap_lComp2, Sh.ap_eCf, Sh.ap_eNewD, Sh.ap_kNil, Sh.dNilEq, Sh.ap_iRng3, Sh.ap_eDixT, Sh.ap_iDt, Sh.ap_eLenT, Sh.ap_eNewT, Sh.ap_sOwnT, Sh.ap_kNilT, Sh.ap_kCompT, Sh.ap_sFrzT, Sh.ap_sDsOT, Sh.ap_setDt, Sh.ap_eIsiY, Sh.ap_oEqT, Sh.ap_sPar3T, Sh.ap_putPT, Sh.dStr_S, Sh.dStr_N, Sh.fmt_N, Sh.eJs_nil, Sh.eJs_cons, Sh.kJs_s, Sh.szl, Sh.szt, Sh.b_bl, Sh.dEq_q, Sh.dNe_q, Sh.isDat_non, Sh.isDat_bl, Sh.isDat_int, Sh.isDat_str, Sh.isDat_t9, Sh.isDat_l9, Sh.isDat_t8, Sh.isDat_l8, Sh.isDat_t7, Sh.isDat_l7, Sh.isDat_t6, Sh.isDat_l6, Sh.qe_ii, Sh.qe_ss, Sh.qe_bb, Sh.qe_bi, Sh.qe_ib, Sh.qe_nn, Sh.qe_ns, Sh.qe_sn, Sh.qe_ni, Sh.qe_in, Sh.qe_is, Sh.qe_si, Sh.qe_bn, Sh.qe_nb, Sh.qe_bs, Sh.qe_sb, Sh.qe_tt, Sh.qe_ll, Sh.qe_lt, Sh.qe_tl, Sh.qe_tn, Sh.qe_nt, Sh.qe_ts, Sh.qe_st, Sh.qes_nil, Sh.qes_cons, Sh.qes_nc, Sh.qes_cn, Sh.at_z, Sh.at_1, Sh.at_2, Sh.at_3, Sh.at_4, Sh.ix_T, Sh.dLen_S, Sh.dLen_T, Sh.sl_L, Sh.sl_T, Sh.sl_S, Sh.cut_to, Sh.cut_from, Sh.dList_L, Sh.dList_T, Sh.dTuple_L, Sh.dTuple_T, Sh.okRt, Sh.bs_bls, Sh.dAll_b, Sh.isi_non, Sh.isi_bl, Sh.isi_int, Sh.isi_str, Sh.isi_tup, Sh.isi_lst, Sh.isi_scr, Sh.isi_dk, Sh.isi_dt, Sh.isi_obj, Sh.items_lst, Sh.items_tup, Sh.items_str, Sh.fmt_str, Sh.tree_lst, Sh.tree_ins, Sh.tree_dk, Sh.tree_fk, Sh.tree_dt, Sh.seq_lst, Sh.seq_tup, Sh.isN_non, Sh.isN_bl, Sh.isN_int, Sh.isN_str, Sh.isN_tup, Sh.isN_lst, Sh.isN_obj, Sh.isN_exc, Sh.isN_ref, Sh.is_n, Sh.not_n, Sh.fld_obj, Sh.isC_obj, Sh.isO_obj, Sh.tyIn_obj, Sh.dAdd_ll, Sh.dAdd_tt, Sh.dAdd_ss, Sh.dMul_r1, Sh.strs_map, Sh.dEq_sk, Sh.dEq_so, Sh.key_str, Sh.key_int, Sh.keyD_s, Sh.keyD_i, Sh.isi_fk, Sh.tyIn_fk, Sh.sTryH_nil, Sh.sTryH_some, Sh.sTryH_none, Sh.prm_nil, Sh.prm_0, Sh.prm_1, Sh.prm_2, Sh.zip_nn, Sh.zip_cc, Sh.ap_k_sSet_1, Sh.ap_k_sDrop_1, Sh.ap_k_sRet_1, Sh.ap_k_sIf_1, Sh.ap_k_sFor_1, Sh.ap_k_sRs_1, Sh.ap_k_sFdO_1, Sh.ap_k_sFdC_1, Sh.ap_k_sFdC_2, Sh.ap_k_sFdA_1, Sh.ap_k_sFdA_2, Sh.ap_k_sIxC_1, Sh.ap_k_sIxC_2, Sh.ap_k_sIxC_3, Sh.ap_k_eBin_1, Sh.ap_k_eBin_2, Sh.ap_k_eUn_1, Sh.ap_k_tVal_1, Sh.ap_k_tNt_1, Sh.ap_k_tAd_1, Sh.ap_k_tOo_1, Sh.ap_k_eNt_1, Sh.ap_k_eAd_1, Sh.ap_k_eIf_1, Sh.ap_k_eChain_1, Sh.ap_k_eChain_2, Sh.ap_k_eChain_3, Sh.ap_k_eChain_4, Sh.ap_k_aCons_1, Sh.ap_k_aCons_2, Sh.ap_k_eTup_1, Sh.ap_k_eLst_1, Sh.ap_k_eCall_1, Sh.ap_k_eIx_1, Sh.ap_k_eIx_2, Sh.ap_k_eDf_1, Sh.ap_k_eFd_1, Sh.ap_k_eMe_1, Sh.ap_k_eMe_2, Sh.ap_k_eCm_1, Sh.ap_k_eCm_2, Sh.ap_k_ePr_1, Sh.ap_k_eMk_1, Sh.ap_k_eMk_2, Sh.ap_k_eMk_3, Sh.ap_k_eMkC_1, Sh.ap_k_eMkC_2, Sh.ap_k_eMkC_3, Sh.ap_k_eLstC_1, Sh.ap_k_eIsi_1, Sh.ap_k_eFmt_1, Sh.ap_k_eSl_1, Sh.ap_k_eSl_2, Sh.ap_k_eSl_3, Sh.ap_k_pSo_1, Sh.ap_k_eM1_1, Sh.ap_k_eM1_2, Sh.ap_k_eXf_1, Sh.ap_k_eBinE_1, Sh.ap_k_eBinE_2, Sh.ap_k_eCallE_1, Sh.ap_k_eNew_1, Sh.ap_k_lComp_1, Sh.ap_k_iSq_1, Sh.ap_k_iRng1_1, Sh.ap_k_oOwn_1, Sh.ap_k_sPar_1, Sh.ap_k_lComp2_1, Sh.ap_k_eCf_1, Sh.ap_k_eCf_2, Sh.ap_k_eNewD_1, Sh.ap_k_iDt_1, $ts,*])
namespace Nk
open PySem PySem.Spec PyProof.Rows L2
abbrev FnP (K : PySem.W.Frag) (x : Str) (st : Stmt) (f : Addr) : Prop := ∃ fd, FunD K x x (defArgs st) (defBody st) (defScope st) [] [] f fd
def FUEL : Nat := 1000000
instance : Sh.TabSet := ⟨fun K => [((He.cT K ("_law_read_right", none)).2, ("_law_read_right.<locals>.<lambda>" : Str)), ((He.cT K ("law", none)).2, ("law.<locals>.<lambda>" : Str))]⟩
structure TBs (K : PySem.W.Frag) (base : Heap) (mg : Str → Option Value) : Prop where
  tb__law_read_right : LamX.TabB base mg (He.codeOf K ("_law_read_right", none)) (He.cT K ("_law_read_right", none)).2
  tb_law : LamX.TabB base mg (He.codeOf K ("law", none)) (He.cT K ("law", none)).2
theorem tu__law_read_right {K : PySem.W.Frag} (h : (true && decide ((He.cT K ("law", none)).2 ≠ (He.cT K ("_law_read_right", none)).2)) = true) : ∀ p ∈ Sh.TabSet.TS K, p.1 = (He.cT K ("_law_read_right", none)).2 → p.2 = ("_law_read_right.<locals>.<lambda>" : Str) := by
  simp only [Bool.true_and, Bool.and_eq_true, decide_eq_true_eq] at h
  intro p hp e
  have hp : p ∈ [((He.cT K ("_law_read_right", none)).2, ("_law_read_right.<locals>.<lambda>" : Str)), ((He.cT K ("law", none)).2, ("law.<locals>.<lambda>" : Str))] := hp
  simp only [List.mem_cons, List.not_mem_nil, or_false] at hp
  rcases hp with rfl | rfl
  all_goals first | rfl | exact absurd e h | exact absurd e h.1 | exact absurd e h.2 | exact absurd e h.1.1 | exact absurd e h.1.2 | exact absurd e h.1.1.1 | exact absurd e h.1.1.2
theorem tu_law {K : PySem.W.Frag} (h : (true && decide ((He.cT K ("_law_read_right", none)).2 ≠ (He.cT K ("law", none)).2)) = true) : ∀ p ∈ Sh.TabSet.TS K, p.1 = (He.cT K ("law", none)).2 → p.2 = ("law.<locals>.<lambda>" : Str) := by
  simp only [Bool.true_and, Bool.and_eq_true, decide_eq_true_eq] at h
  intro p hp e
  have hp : p ∈ [((He.cT K ("_law_read_right", none)).2, ("_law_read_right.<locals>.<lambda>" : Str)), ((He.cT K ("law", none)).2, ("law.<locals>.<lambda>" : Str))] := hp
  simp only [List.mem_cons, List.not_mem_nil, or_false] at hp
  rcases hp with rfl | rfl
  all_goals first | rfl | exact absurd e h | exact absurd e h.1 | exact absurd e h.2 | exact absurd e h.1.1 | exact absurd e h.1.2 | exact absurd e h.1.1.1 | exact absurd e h.1.1.2
instance : Sh.BasePred := ⟨fun _ => True, fun _ _ _ _ => trivial⟩
structure Tx (K : PySem.W.Frag) (mg : Str → Option Value) : Prop where
  d_BadName_init : SupD K "__init__" "BadName.__init__" s_BadName_init (He.ma K (He.ga K "BadName") "__init__") (He.ga K "BadName") "/claim/cut.py"
  n_super : mg "super" = none
  ci_BadName : ∃ cd, PySem.W.clsIn K (He.ga K "BadName") = some cd
  exc_BadName : SupX K (He.ga K "BadName")
  nx_BadName_value : PySem.W.findIn K (.ref (He.ga K "BadName")) "value" = some none
  d_BadNumber_init : SupD K "__init__" "BadNumber.__init__" s_BadNumber_init (He.ma K (He.ga K "BadNumber") "__init__") (He.ga K "BadNumber") "/claim/cut.py"
  ci_BadNumber : ∃ cd, PySem.W.clsIn K (He.ga K "BadNumber") = some cd
  exc_BadNumber : SupX K (He.ga K "BadNumber")
  nx_BadNumber_value : PySem.W.findIn K (.ref (He.ga K "BadNumber")) "value" = some none
  d_BadTable_init : SupD K "__init__" "BadTable.__init__" s_BadTable_init (He.ma K (He.ga K "BadTable") "__init__") (He.ga K "BadTable") "/claim/cut.py"
  ci_BadTable : ∃ cd, PySem.W.clsIn K (He.ga K "BadTable") = some cd
  exc_BadTable : SupX K (He.ga K "BadTable")
  nx_BadTable_value : PySem.W.findIn K (.ref (He.ga K "BadTable")) "value" = some none
  d_BadText_init : SupD K "__init__" "BadText.__init__" s_BadText_init (He.ma K (He.ga K "BadText") "__init__") (He.ga K "BadText") "/claim/cut.py"
  ci_BadText : ∃ cd, PySem.W.clsIn K (He.ga K "BadText") = some cd
  exc_BadText : SupX K (He.ga K "BadText")
  nx_BadText_line : PySem.W.findIn K (.ref (He.ga K "BadText")) "line" = some none
  nx_BadText_word : PySem.W.findIn K (.ref (He.ga K "BadText")) "word" = some none
  d_is_integer : ∃ f, FnP K "is_integer" s_is_integer f ∧ mg "is_integer" = some (.ref f)
  n_isinstance : mg "isinstance" = none
  n_int : mg "int" = none
  n_bool : mg "bool" = none
  d_is_within : ∃ f, FnP K "is_within" s_is_within f ∧ mg "is_within" = some (.ref f)
  d_is_number : ∃ f, FnP K "is_number" s_is_number f ∧ mg "is_number" = some (.ref f)
  c_MOST_NUMBER : ∃ u, mg "MOST_NUMBER" = some u ∧ RelV (.int 999999999999999999999999999999999999999999999999999999999999) u
  d_is_name : ∃ f, FnP K "is_name" s_is_name f ∧ mg "is_name" = some (.ref f)
  n_str : mg "str" = none
  n_len : mg "len" = none
  c_MOST_LETTERS : ∃ u, mg "MOST_LETTERS" = some u ∧ RelV (.int 8) u
  n_all : mg "all" = none
  c_LETTERS : ∃ u, mg "LETTERS" = some u ∧ RelV (.str "abcdefghijklmnopqrstuvwxyz") u
  d_number_in : ∃ f, FnP K "number_in" s_number_in f ∧ mg "number_in" = some (.ref f)
  c_MOST_FIGURES : ∃ u, mg "MOST_FIGURES" = some u ∧ RelV (.int 60) u
  c_FIGURES : ∃ u, mg "FIGURES" = some u ∧ RelV (.str "0123456789") u
  d_is_name_pair : ∃ f, FnP K "is_name_pair" s_is_name_pair f ∧ mg "is_name_pair" = some (.ref f)
  n_tuple : mg "tuple" = none
  d_Words_init : ∃ fd, FunD K "__init__" "Words.__init__" (defArgs s_Words_init) (defBody s_Words_init) (defScope s_Words_init) [.int 0] [] (He.ma K (He.ga K "Words") "__init__") fd
  cl_Standing : Cls K (He.ga K "Standing")
  in_Standing : InsC K (He.ga K "Standing")
  kt_Standing_str_f : PySem.W.kitOne K (.ref (He.ga K "Standing")) (.type "str") = some false
  xi_BadText : PySem.W.findIn K (.ref (He.ga K "BadText")) "__init__" = some (some (.ref (He.ma K (He.ga K "BadText") "__init__")))
  xt_BadText : PySem.W.typeIn K (.ref (He.ma K (He.ga K "BadText") "__init__")) = some (.type "function")
  g_BadText : mg "BadText" = some (.ref (He.ga K "BadText"))
  cl_Words : Cls K (He.ga K "Words")
  na_Words_told : NoAttr K (He.ga K "Words") "told"
  na_Words_line_index : NoAttr K (He.ga K "Words") "line_index"
  na_Words_next_index : NoAttr K (He.ga K "Words") "next_index"
  d_Words_refuse : ∃ fd, FunD K "refuse" "Words.refuse" (defArgs s_Words_refuse) (defBody s_Words_refuse) (defScope s_Words_refuse) [.non] [] (He.ma K (He.ga K "Words") "refuse") fd
  d_Words_is_over : ∃ fd, FunD K "is_over" "Words.is_over" (defArgs s_Words_is_over) (defBody s_Words_is_over) (defScope s_Words_is_over) [] [] (He.ma K (He.ga K "Words") "is_over") fd
  d_Words_upcoming : ∃ fd, FunD K "upcoming" "Words.upcoming" (defArgs s_Words_upcoming) (defBody s_Words_upcoming) (defScope s_Words_upcoming) [] [] (He.ma K (He.ga K "Words") "upcoming") fd
  mt_Words_is_over : Meth K (He.ga K "Words") "is_over" (He.ma K (He.ga K "Words") "is_over")
  d_Words_skip : ∃ fd, FunD K "skip" "Words.skip" (defArgs s_Words_skip) (defBody s_Words_skip) (defScope s_Words_skip) [] [] (He.ma K (He.ga K "Words") "skip") fd
  mt_Words_refuse : Meth K (He.ga K "Words") "refuse" (He.ma K (He.ga K "Words") "refuse")
  d_Words_take_name : ∃ fd, FunD K "take_name" "Words.take_name" (defArgs s_Words_take_name) (defBody s_Words_take_name) (defScope s_Words_take_name) [] [] (He.ma K (He.ga K "Words") "take_name") fd
  mt_Words_upcoming : Meth K (He.ga K "Words") "upcoming" (He.ma K (He.ga K "Words") "upcoming")
  mt_Words_skip : Meth K (He.ga K "Words") "skip" (He.ma K (He.ga K "Words") "skip")
  d_Words_take_number : ∃ fd, FunD K "take_number" "Words.take_number" (defArgs s_Words_take_number) (defBody s_Words_take_number) (defScope s_Words_take_number) [.non] [] (He.ma K (He.ga K "Words") "take_number") fd
  d_Words_is_lone : ∃ fd, FunD K "is_lone" "Words.is_lone" (defArgs s_Words_is_lone) (defBody s_Words_is_lone) (defScope s_Words_is_lone) [] [] (He.ma K (He.ga K "Words") "is_lone") fd
  d_Words_close : ∃ fd, FunD K "close" "Words.close" (defArgs s_Words_close) (defBody s_Words_close) (defScope s_Words_close) [] [] (He.ma K (He.ga K "Words") "close") fd
  d_ascending_pairs : ∃ f, FnP K "ascending_pairs" s_ascending_pairs f ∧ mg "ascending_pairs" = some (.ref f)
  n_sorted : mg "sorted" = none
  n_set : mg "set" = none
  d_things_of : ∃ f, FnP K "things_of" s_things_of f ∧ mg "things_of" = some (.ref f)
  n_dict : mg "dict" = none
  xi_BadTable : PySem.W.findIn K (.ref (He.ga K "BadTable")) "__init__" = some (some (.ref (He.ma K (He.ga K "BadTable") "__init__")))
  xt_BadTable : PySem.W.typeIn K (.ref (He.ma K (He.ga K "BadTable") "__init__")) = some (.type "function")
  g_BadTable : mg "BadTable" = some (.ref (He.ga K "BadTable"))
  xi_BadName : PySem.W.findIn K (.ref (He.ga K "BadName")) "__init__" = some (some (.ref (He.ma K (He.ga K "BadName") "__init__")))
  xt_BadName : PySem.W.typeIn K (.ref (He.ma K (He.ga K "BadName") "__init__")) = some (.type "function")
  g_BadName : mg "BadName" = some (.ref (He.ga K "BadName"))
  xi_BadNumber : PySem.W.findIn K (.ref (He.ga K "BadNumber")) "__init__" = some (some (.ref (He.ma K (He.ga K "BadNumber") "__init__")))
  xt_BadNumber : PySem.W.typeIn K (.ref (He.ma K (He.ga K "BadNumber") "__init__")) = some (.type "function")
  g_BadNumber : mg "BadNumber" = some (.ref (He.ga K "BadNumber"))
  d_take_things : ∃ f, FnP K "take_things" s_take_things f ∧ mg "take_things" = some (.ref f)
  mt_Words_is_lone : Meth K (He.ga K "Words") "is_lone" (He.ma K (He.ga K "Words") "is_lone")
  mt_Words_take_name : Meth K (He.ga K "Words") "take_name" (He.ma K (He.ga K "Words") "take_name")
  mt_Words_take_number : Meth K (He.ga K "Words") "take_number" (He.ma K (He.ga K "Words") "take_number")
  d_Standing_init : ∃ fd, FunD K "__init__" "Standing.__init__" (defArgs s_Standing_init) (defBody s_Standing_init) (defScope s_Standing_init) [] [] (He.ma K (He.ga K "Standing") "__init__") fd
  na_Standing_own_things : NoAttr K (He.ga K "Standing") "own_things"
  d_Standing_none : ∃ fd, FunD K "none" "Standing.none" (defArgs s_Standing_none) (defBody s_Standing_none) (defScope s_Standing_none) [] [] (smOf K (He.ga K "Standing") "none") fd
  g_Standing : mg "Standing" = some (.ref (He.ga K "Standing"))
  mk_Standing : Mk K (He.ga K "Standing") (He.ma K (He.ga K "Standing") "__init__")
  d_Standing_read : ∃ fd, FunD K "read" "Standing.read" (defArgs s_Standing_read) (defBody s_Standing_read) (defScope s_Standing_read) [] [] (cmOf K (He.ga K "Standing") "read") fd
  g_Words : mg "Words" = some (.ref (He.ga K "Words"))
  mk_Words : Mk K (He.ga K "Words") (He.ma K (He.ga K "Words") "__init__")
  mt_Words_close : Meth K (He.ga K "Words") "close" (He.ma K (He.ga K "Words") "close")
  d_Standing_parts : ∃ fd, FunD K "parts" "Standing.parts" (defArgs s_Standing_parts) (defBody s_Standing_parts) (defScope s_Standing_parts) [] [] (getOf K (He.ga K "Standing") "parts") fd
  d_Standing_eq : ∃ fd, FunD K "__eq__" "Standing.__eq__" (defArgs s_Standing_eq) (defBody s_Standing_eq) (defScope s_Standing_eq) [] [] (He.ma K (He.ga K "Standing") "__eq__") fd
  kts_Standing : ∀ t ∈ tys, PySem.W.kitOne K (.type t) (.ref (He.ga K "Standing")) = some false
  kt_Standing_Standing_t : PySem.W.kitOne K (.ref (He.ga K "Standing")) (.ref (He.ga K "Standing")) = some true
  d_Standing_str : ∃ fd, FunD K "__str__" "Standing.__str__" (defArgs s_Standing_str) (defBody s_Standing_str) (defScope s_Standing_str) [] [] (He.ma K (He.ga K "Standing") "__str__") fd
  pr_Standing_parts : PropOf K (He.ga K "Standing") "parts" (He.ma K (He.ga K "Standing") "parts") (getOf K (He.ga K "Standing") "parts")
  d__law_pen : ∃ f, FnP K "_law_pen" s__law_pen f ∧ mg "_law_pen" = some (.ref f)
  n_list : mg "list" = none
  d__law_draw : ∃ f, FnP K "_law_draw" s__law_draw f ∧ mg "_law_draw" = some (.ref f)
  n_abs : mg "abs" = none
  d__law_pick : ∃ f, FnP K "_law_pick" s__law_pick f ∧ mg "_law_pick" = some (.ref f)
  d__law_word : ∃ f, FnP K "_law_word" s__law_word f ∧ mg "_law_word" = some (.ref f)
  n_range : mg "range" = none
  d__law_table : ∃ f, FnP K "_law_table" s__law_table f ∧ mg "_law_table" = some (.ref f)
  d__law_text : ∃ f, FnP K "_law_text" s__law_text f ∧ mg "_law_text" = some (.ref f)
  d__law_bent : ∃ f, FnP K "_law_bent" s__law_bent f ∧ mg "_law_bent" = some (.ref f)
  d__law_is_name : ∃ f, FnP K "_law_is_name" s__law_is_name f ∧ mg "_law_is_name" = some (.ref f)
  d__law_is_number : ∃ f, FnP K "_law_is_number" s__law_is_number f ∧ mg "_law_is_number" = some (.ref f)
  d__law_due : ∃ f, FnP K "_law_due" s__law_due f ∧ mg "_law_due" = some (.ref f)
  exm_BadName_BadText_f : PySem.W.exmOne K (.ref (He.ga K "BadName")) (.ref (He.ga K "BadText")) = some false
  exm_BadNumber_BadText_f : PySem.W.exmOne K (.ref (He.ga K "BadNumber")) (.ref (He.ga K "BadText")) = some false
  exm_BadTable_BadText_f : PySem.W.exmOne K (.ref (He.ga K "BadTable")) (.ref (He.ga K "BadText")) = some false
  exm_BadText_BadText_t : PySem.W.exmOne K (.ref (He.ga K "BadText")) (.ref (He.ga K "BadText")) = some true
  xf_BadText : XfC K (He.ga K "BadText")
  g_NextError : mg "NextError" = some (.ref (He.ga K "NextError"))
  exm_BadName_NextError_t : PySem.W.exmOne K (.ref (He.ga K "BadName")) (.ref (He.ga K "NextError")) = some true
  exm_BadNumber_NextError_t : PySem.W.exmOne K (.ref (He.ga K "BadNumber")) (.ref (He.ga K "NextError")) = some true
  exm_BadTable_NextError_t : PySem.W.exmOne K (.ref (He.ga K "BadTable")) (.ref (He.ga K "NextError")) = some true
  exm_BadText_NextError_t : PySem.W.exmOne K (.ref (He.ga K "BadText")) (.ref (He.ga K "NextError")) = some true
  d__law_read_right : ∃ f, FnP K "_law_read_right" s__law_read_right f ∧ mg "_law_read_right" = some (.ref f)
  g__law_read_right : mg "_law_read_right" = some (.ref (He.ga K "_law_read_right"))
  d__law_heard : ∃ f, FnP K "_law_heard" s__law_heard f ∧ mg "_law_heard" = some (.ref f)
  tm__law_read_right : ((He.cT K ("_law_read_right", none)).2, ("_law_read_right.<locals>.<lambda>" : Str)) ∈ Sh.TabSet.TS K
  tu__law_read_right : ∀ p ∈ Sh.TabSet.TS K, p.1 = (He.cT K ("_law_read_right", none)).2 → p.2 = ("_law_read_right.<locals>.<lambda>" : Str)
  cr_Standing : ClX.CRead K (He.ga K "Standing") (.type "type")
  cm_Standing_read : ClX.CMet K (He.ga K "Standing") (.type "type") "read" (He.ma K (He.ga K "Standing") "read") (cmOf K (He.ga K "Standing") "read")
  eq_Standing : EqC K (He.ga K "Standing") (He.ma K (He.ga K "Standing") "__eq__")
  nf_Standing_Standing : PySem.W.notFirst K (He.ga K "Standing") (.ref (He.ga K "Standing")) = true
  own_Standing_str : OwnM K (He.ga K "Standing") "__str__" (He.ma K (He.ga K "Standing") "__str__")
  tm_law : ((He.cT K ("law", none)).2, ("law.<locals>.<lambda>" : Str)) ∈ Sh.TabSet.TS K
  tu_law : ∀ p ∈ Sh.TabSet.TS K, p.1 = (He.cT K ("law", none)).2 → p.2 = ("law.<locals>.<lambda>" : Str)
  cf_Standing_none : CFn K (He.ga K "Standing") "none" (smOf K (He.ga K "Standing") "none")
end Nk
namespace Nk
open PySem PySem.Spec PyProof.Rows L2
local macro_rules | `(tactic| walk_at "r1") => `(tactic| with_reducible first
  | refine r_var rfl ?_ | refine r_c ?_ | refine r_seq ?_ | refine r_asgN ?_ | refine r_op ?_ | refine r_cb ?_ | refine r_cons ?_ | refine r_nil ?_
  | refine r_ret ?_ | refine r_ifS ?_ | refine r_I0 ?_ | refine r_test ?_ | refine r_B ?_ | refine r_k ?_ | refine r_not ?_ | refine r_and ?_ | refine r_or ?_
  | refine r_andV ?_ | refine r_orV ?_ | refine r_notV ?_ | refine r_if ?_ | refine r_chain ?_ | refine r_df ?_ | refine r_lst ?_ | refine r_tup ?_ | refine r_asg ?_ | refine r_gsub ?_ | refine r_drop ?_ | refine r_retN ?_ | refine r_next ?_ | refine r_bm ?_ | refine r_un ?_
  | refine r_gN ?_ | refine r_yes ?_ | refine r_lc ?_ | refine r_for ?_ | refine r_iStr ?_ | refine r_iList ?_ | refine r_iTup ?_ | refine r_iRng1 ?_ | refine r_xstr ?_ | refine r_xref ?_ | refine r_xint ?_ | refine r_xints ?_
  | refine r_m1 ?_ | refine r_isS ?_ | refine r_sl ?_ | refine r_nop ?_ | refine r_part ?_ | refine r_int1 ?_ | refine r_intb ?_ | refine r_iteT ?_ | refine r_iteF ?_ | refine r_iteNF ?_ | refine r_iteNT ?_)
local macro_rules | `(tactic| walk_at "r") => `(tactic| repeat (first | walk_at "r1" | walk_at "r2" | (dsimp only; first | walk_at "r1" | walk_at "r2")))
local macro_rules | `(tactic| walk_at "side") => `(tactic| first | assumption | (show (0 : Int) < _; omega) | exact c_mulL ⟨by omega, by omega⟩ | exact c_mulR ⟨by omega, by omega⟩ | exact c_pow ⟨by omega, by omega⟩ ⟨by omega, by omega⟩ | exact c_divW (by omega) (by omega))
local macro_rules | `(tactic| walk_at "r2") => `(tactic| first
  | ((with_reducible refine' r_I ?c1 ?_); (case c1 => walk_at "side"))
  | ((with_reducible refine' r_eq ?c1 ?_); (case c1 => rfl))
  | ((with_reducible refine' r_ne ?c1 ?_); (case c1 => rfl))
  | ((with_reducible refine' r_ixL ?c1 ?c2 ?_); (case c1 => first | exact SqL.of (by assumption) | assumption); (case c2 => rfl))
  | ((with_reducible refine' r_lenL ?c1 ?_); (case c1 => first | exact SqL.of (by assumption) | assumption))
  | ((with_reducible refine' r_slL ?c1 ?_); (case c1 => first | assumption | exact SqL.of (by assumption))))
local macro_rules | `(tactic| tbr_iter ($p:ident, $hp:ident, $H:ident, $s:ident, $e:ident, $o:ident)) => `(tactic| (intro $p:ident $hp:ident; generalize e0 : upd _ $p _ = $H:ident; have ⟨$s, $e, $o⟩ := Nk.new_facts $hp e0; clear e0))
section
variable {w : World} {K : PySem.W.Frag} {mg : Str → Option Value} {base : Heap}
theorem fo_BadName (T : Tx K mg) : Fo PP w K mg base (He.ma K (He.ga K "BadName") "__init__") 1 ["self", "value"] (spExc1 (He.ga K "BadName") "value") := by
  refine T.d_BadName_init.ok sc_BadName_init (fun vs H Q E h => ?_) (fun _ _ _ _ _ _ _ us hl => match us, hl with | [_, _], _ => rfl) (sf := "self") rfl rfl (by decide +kernel) (by decide +kernel) T.n_super (by decide +kernel) (by decide +kernel) (by decide +kernel) rfl T.ci_BadName (fun cc cdv A outer s H vs Q E S hr h => ?_)
  · obtain ⟨a, v, rfl, _⟩ := h
    rfl
  · obtain ⟨a, v, rfl, ha, k⟩ := h
    refine ⟨_, pscs_cons (psc_superX S T.exc_BadName (pa_cons (pv 1) pa_nil)) (pscs_of (pss_one (ps_ost (pv 0) (pv 1)))), ?_⟩
    refine ⟨a, rfl, ha, ?_⟩
    walk_at "r"
    refine ⟨by simp, ha, ?_⟩
    walk_at "r"
    exact ⟨v, rfl, .ref a, rfl, a, He.ga K "BadName", rfl, T.exc_BadName.T, T.nx_BadName_value, .inl ⟨ha, fun dx h1 h2 => k dx h1 h2⟩⟩
end
end Nk
namespace Nk
open PySem PySem.Spec PyProof.Rows L2 Sh
def pic_is_integer : Sy := (sRet (eAd (eIsi ["bool", "int"] [] (eVar 0)) (eNt (eIsi ["bool"] [] (eVar 0)))))
def sh_is_integer : List D → Store → R D := runD 1 0 pic_is_integer
section
variable {w : World} {K : PySem.W.Frag} {mg : Str → Option Value} {base : Heap}
theorem df_is_integer (T : Tx K mg) : Df PP w K mg base "is_integer" 1 ["value"] (spSh K sh_is_integer) := by
  obtain ⟨f, F, hm⟩ := T.d_is_integer
  exact df_sh (f := pic_is_integer) F hm sc_is_integer (fun _ _ _ _ _ _ us hl => match us, hl with | [_], _ => rfl) rfl rfl (fun _ => trivial) (fun cdv A outer s H E hr => (ss_one (s_ret (x_and (x_isi (bi := ["bool", "int"]) (own := []) rfl (by rfl) T.n_isinstance (x_var (i := 0) rfl (by first | exact .inl rfl | exact .inr (.inl rfl) | exact .inr (.inr rfl))) (pe_bltn (v := .ty "int") (u := .type "int") (by rfl) T.n_int (by decide +kernel) rfl) ⟨(io_b (by decide +kernel)), oo_nil⟩ (.ty _)) (x_one (x_not (x_isi (bi := ["bool"]) (own := []) rfl (by rfl) T.n_isinstance (x_var (i := 0) rfl (by first | exact .inl rfl | exact .inr (.inl rfl) | exact .inr (.inr rfl))) (pe_bltn (v := .ty "bool") (u := .type "bool") (by rfl) T.n_bool (by decide +kernel) rfl) ⟨(io_b (by decide +kernel)), oo_nil⟩ (.ty _))))))))
end
def pic_is_within : Sy := (sRet (eAd (eDf sh_is_integer (aCons (eVar 0) aNil)) (eChain dLe dLe (eVar 1) (eVar 0) (eVar 2))))
def sh_is_within : List D → Store → R D := runD 3 0 pic_is_within
section
variable {w : World} {K : PySem.W.Frag} {mg : Str → Option Value} {base : Heap}
theorem df_is_within (T : Tx K mg) : Df PP w K mg base "is_within" 2 ["value", "least", "most"] (spSh K sh_is_within) := by
  have G_is_integer : Df PP w K mg base "is_integer" 1 _ _ := df_is_integer T
  obtain ⟨f, F, hm⟩ := T.d_is_within
  exact df_sh (f := pic_is_within) F hm sc_is_within (fun _ _ _ _ _ _ us hl => match us, hl with | [_, _, _], _ => rfl) rfl rfl (fun _ => trivial) (fun cdv A outer s H E hr => (ss_one (s_ret (x_and (x_df G_is_integer shp_sh hr (by decide) (by rfl) (takes_of rfl rfl rfl rfl) (a_cons (x_var (i := 0) rfl (by first | exact .inl rfl | exact .inr (.inl rfl) | exact .inr (.inr rfl))) a_nil)) (x_one (x_chain (ops_le rfl) (ops_le rfl) (x_var (i := 1) rfl (by first | exact .inl rfl | exact .inr (.inl rfl) | exact .inr (.inr rfl))) (x_var (i := 0) rfl (by first | exact .inl rfl | exact .inr (.inl rfl) | exact .inr (.inr rfl))) (x_var (i := 2) rfl (by first | exact .inl rfl | exact .inr (.inl rfl) | exact .inr (.inr rfl)))))))))
end
def pic_is_number : Sy := (sRet (eDf sh_is_within (aCons (eVar 0) (aCons (eC (.int 0)) (aCons (eC (.int 999999999999999999999999999999999999999999999999999999999999)) aNil)))))
def sh_is_number : List D → Store → R D := runD 1 0 pic_is_number
section
variable {w : World} {K : PySem.W.Frag} {mg : Str → Option Value} {base : Heap}
theorem df_is_number (T : Tx K mg) : Df PP w K mg base "is_number" 3 ["value"] (spSh K sh_is_number) := by
  have G_is_within : Df PP w K mg base "is_within" 2 _ _ := df_is_within T
  obtain ⟨f, F, hm⟩ := T.d_is_number
  exact df_sh (f := pic_is_number) F hm sc_is_number (fun _ _ _ _ _ _ us hl => match us, hl with | [_], _ => rfl) rfl rfl (fun _ => trivial) (fun cdv A outer s H E hr => (ss_one (s_ret (x_df G_is_within shp_sh hr (by decide) (by rfl) (takes_of rfl rfl rfl rfl) (a_cons (x_var (i := 0) rfl (by first | exact .inl rfl | exact .inr (.inl rfl) | exact .inr (.inr rfl))) (a_cons x_int (a_cons (x_gc (by rfl) T.c_MOST_NUMBER (fun _ => rep_int)) a_nil)))))))
end
def pic_is_name : Sy := (sSeq (sIf (tOo (tNt (tVal (eIsi ["str"] [] (eVar 0)))) (tNt (tVal (eChain dLe dLe (eC (.int 1)) (eCall dLen (aCons (eVar 0) aNil)) (eC (.int 8))))))
    (sRet (eC (.bl false)))
    sNil)
    (sRet (eCall dAll (aCons (eNew (lComp [1] (iSq (eVar 0)) (gN 1) tYesD (eBin dIn (eVar 1) (eC (.str "abcdefghijklmnopqrstuvwxyz"))))) aNil))))
def sh_is_name : List D → Store → R D := runD 1 1 pic_is_name
section
variable {w : World} {K : PySem.W.Frag} {mg : Str → Option Value} {base : Heap}
theorem df_is_name (T : Tx K mg) : Df PP w K mg base "is_name" 1 ["value"] (spSh K sh_is_name) := by
  obtain ⟨f, F, hm⟩ := T.d_is_name
  exact df_sh (f := pic_is_name) F hm sc_is_name (fun _ _ _ _ _ _ us hl => match us, hl with | [_], _ => rfl) rfl rfl (fun _ => trivial) (fun cdv A outer s H E hr => (ss_cons (s_if (w_pt (w_or (t_not (t_val (x_isi (bi := ["str"]) (own := []) rfl (by rfl) T.n_isinstance (x_var (i := 0) rfl (by first | exact .inl rfl | exact .inr (.inl rfl) | exact .inr (.inr rfl))) (pe_bltn (v := .ty "str") (u := .type "str") (by rfl) T.n_str (by decide +kernel) rfl) ⟨(io_b (by decide +kernel)), oo_nil⟩ (.ty _)))) (w_or1 (t_not (t_chain (ops_le rfl) (ops_le rfl) x_int (x_callB (calls_len rfl) (by rfl) T.n_len (by decide +kernel) (a_cons (x_var (i := 0) rfl (by first | exact .inl rfl | exact .inr (.inl rfl) | exact .inr (.inr rfl))) a_nil)) (x_gc (by rfl) T.c_MOST_LETTERS (fun _ => rep_int)))))))
    (ss_one (s_ret x_bl))
    ss_nil)
    (ss_one (s_ret (x_callB (calls_all rfl rfl) (by rfl) T.n_all (by decide +kernel) (a_cons (x_new (f_comp (own := [("letter", 1)]) rfl sc_is_name.nd (i_seq rfl (x_var (i := 0) rfl (by first | exact .inl rfl | exact .inr (.inl rfl) | exact .inr (.inr rfl)))) (blkOk_by (N := ["value", "letter"]) (sc := defScope s_is_name) (by decide +kernel)) (fun _ _ _ _ _ => (g_name (i := 1) sc_is_name.nd rfl (by first | exact .inl rfl | exact .inr rfl))) (fun _ _ _ _ _ => ts_nil) (fun _ _ _ _ _ => (x_cmp (ops_in rfl (room65 hr)) (x_var (i := 1) rfl (by first | exact .inl rfl | exact .inr (.inl rfl) | exact .inr (.inr rfl))) (x_gc (by rfl) T.c_LETTERS (fun _ => rep_str (by decide +kernel))) rfl)))) a_nil))))))
end
def pic_number_in : Sy := (sSeq (sIf (tOo (tVal (eBin dEq (eVar 0) (eC (.str "")))) (tOo (tVal (eBin dGt (eCall dLen (aCons (eVar 0) aNil)) (eC (.int 60)))) (tNt (tVal (eCall dAll (aCons (eNew (lComp [1] (iSq (eVar 0)) (gN 1) tYesD (eBin dIn (eVar 1) (eC (.str "0123456789"))))) aNil))))))
    (sRet (eC .non))
    sNil)
    (sRet (eIf (tOo (tVal (eBin dEq (eVar 0) (eC (.str "0")))) (tVal (eBin dNe (eIx (eVar 0) (eC (.int 0))) (eC (.str "0"))))) (eCall dIntS (aCons (eVar 0) aNil)) (eC .non))))
def sh_number_in : List D → Store → R D := runD 1 1 pic_number_in
section
variable {w : World} {K : PySem.W.Frag} {mg : Str → Option Value} {base : Heap}
theorem df_number_in (T : Tx K mg) : Df PP w K mg base "number_in" 1 ["word"] (spSh K sh_number_in) := by
  obtain ⟨f, F, hm⟩ := T.d_number_in
  exact df_sh (f := pic_number_in) F hm sc_number_in (fun _ _ _ _ _ _ us hl => match us, hl with | [_], _ => rfl) rfl rfl (fun _ => trivial) (fun cdv A outer s H E hr => (ss_cons (s_if (w_pt (w_or (t_cmp (ops_eqP rfl (room64 hr)) (x_var (i := 0) rfl (by first | exact .inl rfl | exact .inr (.inl rfl) | exact .inr (.inr rfl))) x_str (nomark _)) (w_or (t_cmp (ops_gt rfl) (x_callB (calls_len rfl) (by rfl) T.n_len (by decide +kernel) (a_cons (x_var (i := 0) rfl (by first | exact .inl rfl | exact .inr (.inl rfl) | exact .inr (.inr rfl))) a_nil)) (x_gc (by rfl) T.c_MOST_FIGURES (fun _ => rep_int)) (nomark _)) (w_or1 (t_not (t_val (x_callB (calls_all rfl rfl) (by rfl) T.n_all (by decide +kernel) (a_cons (x_new (f_comp (own := [("sign", 1)]) rfl sc_number_in.nd (i_seq rfl (x_var (i := 0) rfl (by first | exact .inl rfl | exact .inr (.inl rfl) | exact .inr (.inr rfl)))) (blkOk_by (N := ["word", "sign"]) (sc := defScope s_number_in) (by decide +kernel)) (fun _ _ _ _ _ => (g_name (i := 1) sc_number_in.nd rfl (by first | exact .inl rfl | exact .inr rfl))) (fun _ _ _ _ _ => ts_nil) (fun _ _ _ _ _ => (x_cmp (ops_in rfl (room65 hr)) (x_var (i := 1) rfl (by first | exact .inl rfl | exact .inr (.inl rfl) | exact .inr (.inr rfl))) (x_gc (by rfl) T.c_FIGURES (fun _ => rep_str (by decide +kernel))) rfl)))) a_nil))))))))
    (ss_one (s_ret x_non))
    ss_nil)
    (ss_one (s_ret (x_if (w_pt (w_or (t_cmp (ops_eqP rfl (room64 hr)) (x_var (i := 0) rfl (by first | exact .inl rfl | exact .inr (.inl rfl) | exact .inr (.inr rfl))) x_str (nomark _)) (w_or1 (t_cmp (ops_neP rfl (room64 hr)) (x_ix rfl (x_var (i := 0) rfl (by first | exact .inl rfl | exact .inr (.inl rfl) | exact .inr (.inr rfl))) x_int (fun _ _ => rfl)) x_str (nomark _))))) (x_callT calls_intS (by rfl) T.n_int (by decide +kernel) (a_cons (x_var (i := 0) rfl (by first | exact .inl rfl | exact .inr (.inl rfl) | exact .inr (.inr rfl))) a_nil)) x_non)))))
end
def pic_is_name_pair : Sy := (sRet (eAd (eIsi ["tuple"] [] (eVar 0)) (eAd (eBin dEq (eCall dLen (aCons (eVar 0) aNil)) (eC (.int 2))) (eAd (eDf sh_is_name (aCons (eIx (eVar 0) (eC (.int 0))) aNil)) (eDf sh_is_name (aCons (eIx (eVar 0) (eC (.int 1))) aNil))))))
def sh_is_name_pair : List D → Store → R D := runD 1 0 pic_is_name_pair
section
variable {w : World} {K : PySem.W.Frag} {mg : Str → Option Value} {base : Heap}
theorem df_is_name_pair (T : Tx K mg) : Df PP w K mg base "is_name_pair" 2 ["value"] (spSh K sh_is_name_pair) := by
  have G_is_name : Df PP w K mg base "is_name" 1 _ _ := df_is_name T
  obtain ⟨f, F, hm⟩ := T.d_is_name_pair
  exact df_sh (f := pic_is_name_pair) F hm sc_is_name_pair (fun _ _ _ _ _ _ us hl => match us, hl with | [_], _ => rfl) rfl rfl (fun _ => trivial) (fun cdv A outer s H E hr => (ss_one (s_ret (x_and (x_isi (bi := ["tuple"]) (own := []) rfl (by rfl) T.n_isinstance (x_var (i := 0) rfl (by first | exact .inl rfl | exact .inr (.inl rfl) | exact .inr (.inr rfl))) (pe_bltn (v := .ty "tuple") (u := .type "tuple") (by rfl) T.n_tuple (by decide +kernel) rfl) ⟨(io_b (by decide +kernel)), oo_nil⟩ (.ty _)) (x_and (x_cmp (ops_eqP rfl (room64 hr)) (x_callB (calls_len rfl) (by rfl) T.n_len (by decide +kernel) (a_cons (x_var (i := 0) rfl (by first | exact .inl rfl | exact .inr (.inl rfl) | exact .inr (.inr rfl))) a_nil)) x_int (nomark _)) (x_and (x_df G_is_name shp_sh hr (by decide) (by rfl) (takes_of rfl rfl rfl rfl) (a_cons (x_ix rfl (x_var (i := 0) rfl (by first | exact .inl rfl | exact .inr (.inl rfl) | exact .inr (.inr rfl))) x_int (fun _ _ => rfl)) a_nil)) (x_one (x_df G_is_name shp_sh hr (by decide) (by rfl) (takes_of rfl rfl rfl rfl) (a_cons (x_ix rfl (x_var (i := 0) rfl (by first | exact .inl rfl | exact .inr (.inl rfl) | exact .inr (.inr rfl))) x_int (fun _ _ => rfl)) a_nil)))))))))
end
end Nk
namespace Nk
open PySem PySem.Spec PyProof.Rows L2
local macro_rules | `(tactic| walk_at "r1") => `(tactic| with_reducible first
  | refine r_var rfl ?_ | refine r_c ?_ | refine r_seq ?_ | refine r_asgN ?_ | refine r_op ?_ | refine r_cb ?_ | refine r_cons ?_ | refine r_nil ?_
  | refine r_ret ?_ | refine r_ifS ?_ | refine r_I0 ?_ | refine r_test ?_ | refine r_B ?_ | refine r_k ?_ | refine r_not ?_ | refine r_and ?_ | refine r_or ?_
  | refine r_andV ?_ | refine r_orV ?_ | refine r_notV ?_ | refine r_if ?_ | refine r_chain ?_ | refine r_df ?_ | refine r_lst ?_ | refine r_tup ?_ | refine r_asg ?_ | refine r_gsub ?_ | refine r_drop ?_ | refine r_retN ?_ | refine r_next ?_ | refine r_bm ?_ | refine r_un ?_
  | refine r_gN ?_ | refine r_yes ?_ | refine r_lc ?_ | refine r_for ?_ | refine r_iStr ?_ | refine r_iList ?_ | refine r_iTup ?_ | refine r_iRng1 ?_ | refine r_xstr ?_ | refine r_xref ?_ | refine r_xint ?_ | refine r_xints ?_
  | refine r_m1 ?_ | refine r_isS ?_ | refine r_sl ?_ | refine r_nop ?_ | refine r_part ?_ | refine r_int1 ?_ | refine r_intb ?_ | refine r_iteT ?_ | refine r_iteF ?_ | refine r_iteNF ?_ | refine r_iteNT ?_)
local macro_rules | `(tactic| walk_at "r") => `(tactic| repeat (first | walk_at "r1" | walk_at "r2" | (dsimp only; first | walk_at "r1" | walk_at "r2")))
local macro_rules | `(tactic| walk_at "side") => `(tactic| first | assumption | (show (0 : Int) < _; omega) | exact c_mulL ⟨by omega, by omega⟩ | exact c_mulR ⟨by omega, by omega⟩ | exact c_pow ⟨by omega, by omega⟩ ⟨by omega, by omega⟩ | exact c_divW (by omega) (by omega))
local macro_rules | `(tactic| walk_at "r2") => `(tactic| first
  | ((with_reducible refine' r_I ?c1 ?_); (case c1 => walk_at "side"))
  | ((with_reducible refine' r_eq ?c1 ?_); (case c1 => rfl))
  | ((with_reducible refine' r_ne ?c1 ?_); (case c1 => rfl))
  | ((with_reducible refine' r_ixL ?c1 ?c2 ?_); (case c1 => first | exact SqL.of (by assumption) | assumption); (case c2 => rfl))
  | ((with_reducible refine' r_lenL ?c1 ?_); (case c1 => first | exact SqL.of (by assumption) | assumption))
  | ((with_reducible refine' r_slL ?c1 ?_); (case c1 => first | assumption | exact SqL.of (by assumption))))
local macro_rules | `(tactic| tbr_iter ($p:ident, $hp:ident, $H:ident, $s:ident, $e:ident, $o:ident)) => `(tactic| (intro $p:ident $hp:ident; generalize e0 : upd _ $p _ = $H:ident; have ⟨$s, $e, $o⟩ := Nk.new_facts $hp e0; clear e0))
section
variable {w : World} {K : PySem.W.Frag} {mg : Str → Option Value} {base : Heap}
theorem fo_BadText (T : Tx K mg) : Fo PP w K mg base (He.ma K (He.ga K "BadText") "__init__") 1 ["self", "line", "word"] (spExc2 (He.ga K "BadText") "line" "word") := by
  refine T.d_BadText_init.ok sc_BadText_init (fun vs H Q E h => ?_) (fun _ _ _ _ _ _ _ us hl => match us, hl with | [_, _, _], _ => rfl) (sf := "self") rfl rfl (by decide +kernel) (by decide +kernel) T.n_super (by decide +kernel) (by decide +kernel) (by decide +kernel) rfl T.ci_BadText (fun cc cdv A outer s H vs Q E S hr h => ?_)
  · obtain ⟨a, v, u, rfl, _⟩ := h
    rfl
  · obtain ⟨a, v, u, rfl, ha, k⟩ := h
    refine ⟨_, pscs_cons (psc_superX S T.exc_BadText (pa_cons (pv 1) (pa_cons (pv 2) pa_nil))) (pscs_of (pss_cons (ps_ost (pv 0) (pv 1)) (pss_one (ps_ost (pv 0) (pv 2))))), ?_⟩
    refine ⟨a, rfl, ha, ?_⟩
    walk_at "r"
    refine ⟨by simp, ha, ?_⟩
    walk_at "r"
    refine ⟨v, rfl, .ref a, rfl, a, He.ga K "BadText", rfl, T.exc_BadText.T, T.nx_BadText_line, .inl ⟨ha, fun dx h1 h2 => ?_⟩⟩
    walk_at "r"
    exact ⟨u, rfl, .ref a, rfl, a, He.ga K "BadText", rfl, T.exc_BadText.T, T.nx_BadText_word, .inr ⟨dx, _, upd_same, by rw [upd_ne h2, upd_same], by simp, k dx h1 h2⟩⟩
end
end Nk
namespace Nk
open PySem PySem.Spec PyProof.Rows L2 Sh
def pic_Words_init : Sy := (sSeq (sIf (tNt (tVal (eIsi ["str"] [("Standing", false)] (eVar 1))))
    (sRs "BadText" ["line", "word"] (aCons (eC (.int 0)) (aCons (eC (.int 0)) aNil)))
    sNil)
    (sSeq (sFdO "Words" "told" (eM1 dSplit (eVar 1) (eC (.str " "))))
    (sSeq (sFdO "Words" "line_index" (eVar 2))
    (sFdO "Words" "next_index" (eC (.int 0))))))
def sh_Words_init : Cell → List D → Store → R Cell := runI 3 0 pic_Words_init
section
variable {w : World} {K : PySem.W.Frag} {mg : Str → Option Value} {base : Heap}
theorem fs_Words_init_0 (T : Tx K mg) : Fs PP w K mg base (He.ma K (He.ga K "Words") "__init__") 3 (fun vs H Q E => (spIn K sh_Words_init) (vs ++ [V.int 0]) H Q E) := by
  have G_BadText_init : Fo PP w K mg base (He.ma K (He.ga K "BadText") "__init__") 1 _ _ := fo_BadText T
  refine fs_dfl (n := 2) (j := 0) T.d_Words_init (ps := ["self", "text", "line"]) (sp := (spIn K sh_Words_init)) (fun fd F => F.ok sc_Words_init (fun vs H Q E h => spIn_len h) (fun cdv A outer s H vs Q E hr h => ?_)) (by simp) rfl (fun Tp kV doc pm an cdv ct us its h1 h2 => match us, h1, its, h2 with | [_, _], _, [_], _ => ⟨_, rfl, rfl⟩)
  refine bodyI_of (f := pic_Words_init) (fun _ => trivial) rfl ?_ h
  exact (ss_cons (s_if (t_not (t_val (x_isi (bi := ["str"]) (own := [("Standing", false)]) rfl (by rfl) T.n_isinstance (x_var (i := 1) rfl (by first | exact .inl rfl | exact .inr (.inl rfl) | exact .inr (.inr rfl))) (pe_bltn (v := .ty "str") (u := .type "str") (by rfl) T.n_str (by decide +kernel) rfl) ⟨(io_b (by decide +kernel)), (oo_cons T.cl_Standing T.in_Standing T.kt_Standing_str_f oo_nil)⟩ (.ty _))))
    (ss_one (s_rs2 (c := "BadText") (g1 := "line") (g2 := "word") rfl rfl (takes_of rfl rfl rfl rfl) T.exc_BadText.T T.xi_BadText T.xt_BadText G_BadText_init hr (by decide) (by rfl) T.g_BadText (a_cons x_int (a_cons x_int a_nil))))
    ss_nil)
    (ss_cons (s_fdO (c := "Words") rfl rfl (.inl rfl) T.cl_Words T.na_Words_told (x_m1 PySem.F.slot_str_split PySem.F.type_str_split mts_split (x_var (i := 1) rfl (by first | exact .inl rfl | exact .inr (.inl rfl) | exact .inr (.inr rfl))) x_str))
    (ss_cons (s_fdO (c := "Words") rfl rfl (.inl rfl) T.cl_Words T.na_Words_line_index (x_var (i := 2) rfl (by first | exact .inl rfl | exact .inr (.inl rfl) | exact .inr (.inr rfl))))
    (ss_one (s_fdO (c := "Words") rfl rfl (.inl rfl) T.cl_Words T.na_Words_next_index x_int)))))
end
def pic_Words_refuse : Sy := (sRs "BadText" ["line", "word"] (aCons (eFd ["Words"] "line_index" (eVar 0)) (aCons (eIf (tVal (eBin dIs (eVar 1) (eC .non))) (eFd ["Words"] "next_index" (eVar 0)) (eVar 1)) aNil)))
def sh_Words_refuse : List D → Store → R D := runD 2 0 pic_Words_refuse
section
variable {w : World} {K : PySem.W.Frag} {mg : Str → Option Value} {base : Heap}
theorem fs_Words_refuse_0 (T : Tx K mg) : Fs PP w K mg base (He.ma K (He.ga K "Words") "refuse") 3 (fun vs H Q E => (spSh K sh_Words_refuse) (vs ++ [V.non]) H Q E) := by
  have G_BadText_init : Fo PP w K mg base (He.ma K (He.ga K "BadText") "__init__") 1 _ _ := fo_BadText T
  refine fs_dfl (n := 1) (j := 0) T.d_Words_refuse (ps := ["self", "index"]) (sp := (spSh K sh_Words_refuse)) (fun fd F => F.ok sc_Words_refuse (fun vs H Q E h => spSh_len h) (fun cdv A outer s H vs Q E hr h => ?_)) (by simp) rfl (fun Tp kV doc pm an cdv ct us its h1 h2 => match us, h1, its, h2 with | [_], _, [_], _ => ⟨_, rfl, rfl⟩)
  refine body_of (f := pic_Words_refuse) (fun _ => trivial) rfl ?_ h
  exact (ss_one (s_rs2 (c := "BadText") (g1 := "line") (g2 := "word") rfl rfl (takes_of rfl rfl rfl rfl) T.exc_BadText.T T.xi_BadText T.xt_BadText G_BadText_init hr (by decide) (by rfl) T.g_BadText (a_cons (x_fld (cs := ["Words"]) rfl (fk_cons T.cl_Words T.na_Words_line_index fk_nil) (x_var (i := 0) rfl (by first | exact .inl rfl | exact .inr (.inl rfl) | exact .inr (.inr rfl)))) (a_cons (x_if (t_cmp (ops_is rfl) (x_var (i := 1) rfl (by first | exact .inl rfl | exact .inr (.inl rfl) | exact .inr (.inr rfl))) x_non (nomark _)) (x_fld (cs := ["Words"]) rfl (fk_cons T.cl_Words T.na_Words_next_index fk_nil) (x_var (i := 0) rfl (by first | exact .inl rfl | exact .inr (.inl rfl) | exact .inr (.inr rfl)))) (x_var (i := 1) rfl (by first | exact .inl rfl | exact .inr (.inl rfl) | exact .inr (.inr rfl)))) a_nil))))
theorem fs_Words_refuse_1 (T : Tx K mg) : Fs PP w K mg base (He.ma K (He.ga K "Words") "refuse") 3 (fun vs H Q E => (spSh K sh_Words_refuse) (vs ++ []) H Q E) := by
  have G_BadText_init : Fo PP w K mg base (He.ma K (He.ga K "BadText") "__init__") 1 _ _ := fo_BadText T
  refine fs_dfl (n := 2) (j := 1) T.d_Words_refuse (ps := ["self", "index"]) (sp := (spSh K sh_Words_refuse)) (fun fd F => F.ok sc_Words_refuse (fun vs H Q E h => spSh_len h) (fun cdv A outer s H vs Q E hr h => ?_)) (by simp) rfl (fun Tp kV doc pm an cdv ct us its h1 h2 => match us, h1, its, h2 with | [_, _], _, [_], _ => ⟨_, rfl, rfl⟩)
  refine body_of (f := pic_Words_refuse) (fun _ => trivial) rfl ?_ h
  exact (ss_one (s_rs2 (c := "BadText") (g1 := "line") (g2 := "word") rfl rfl (takes_of rfl rfl rfl rfl) T.exc_BadText.T T.xi_BadText T.xt_BadText G_BadText_init hr (by decide) (by rfl) T.g_BadText (a_cons (x_fld (cs := ["Words"]) rfl (fk_cons T.cl_Words T.na_Words_line_index fk_nil) (x_var (i := 0) rfl (by first | exact .inl rfl | exact .inr (.inl rfl) | exact .inr (.inr rfl)))) (a_cons (x_if (t_cmp (ops_is rfl) (x_var (i := 1) rfl (by first | exact .inl rfl | exact .inr (.inl rfl) | exact .inr (.inr rfl))) x_non (nomark _)) (x_fld (cs := ["Words"]) rfl (fk_cons T.cl_Words T.na_Words_next_index fk_nil) (x_var (i := 0) rfl (by first | exact .inl rfl | exact .inr (.inl rfl) | exact .inr (.inr rfl)))) (x_var (i := 1) rfl (by first | exact .inl rfl | exact .inr (.inl rfl) | exact .inr (.inr rfl)))) a_nil))))
end
def pic_Words_is_over : Sy := (sRet (eBin dEq (eFd ["Words"] "next_index" (eVar 0)) (eCall dLen (aCons (eFd ["Words"] "told" (eVar 0)) aNil))))
def sh_Words_is_over : List D → Store → R D := runD 1 0 pic_Words_is_over
section
variable {w : World} {K : PySem.W.Frag} {mg : Str → Option Value} {base : Heap}
theorem fo_Words_is_over (T : Tx K mg) : Fo PP w K mg base (He.ma K (He.ga K "Words") "is_over") 1 ["self"] (spSh K sh_Words_is_over) := by
  exact fo_sh (f := pic_Words_is_over) T.d_Words_is_over sc_Words_is_over (fun _ _ _ _ _ _ us hl => match us, hl with | [_], _ => rfl) rfl rfl (fun _ => trivial) (fun cdv A outer s H E hr => (ss_one (s_ret (x_cmp (ops_eqP rfl (room64 hr)) (x_fld (cs := ["Words"]) rfl (fk_cons T.cl_Words T.na_Words_next_index fk_nil) (x_var (i := 0) rfl (by first | exact .inl rfl | exact .inr (.inl rfl) | exact .inr (.inr rfl)))) (x_callB (calls_len rfl) (by rfl) T.n_len (by decide +kernel) (a_cons (x_fld (cs := ["Words"]) rfl (fk_cons T.cl_Words T.na_Words_told fk_nil) (x_var (i := 0) rfl (by first | exact .inl rfl | exact .inr (.inl rfl) | exact .inr (.inr rfl)))) a_nil)) (nomark _)))))
end
def pic_Words_upcoming : Sy := (sRet (eIf (tVal (eMe "Words" "is_over" sh_Words_is_over (eVar 0) aNil)) (eC .non) (eIx (eFd ["Words"] "told" (eVar 0)) (eFd ["Words"] "next_index" (eVar 0)))))
def sh_Words_upcoming : List D → Store → R D := runD 1 0 pic_Words_upcoming
section
variable {w : World} {K : PySem.W.Frag} {mg : Str → Option Value} {base : Heap}
theorem fo_Words_upcoming (T : Tx K mg) : Fo PP w K mg base (He.ma K (He.ga K "Words") "upcoming") 2 ["self"] (spSh K sh_Words_upcoming) := by
  have G_Words_is_over : Fo PP w K mg base (He.ma K (He.ga K "Words") "is_over") 1 _ _ := fo_Words_is_over T
  exact fo_sh (f := pic_Words_upcoming) T.d_Words_upcoming sc_Words_upcoming (fun _ _ _ _ _ _ us hl => match us, hl with | [_], _ => rfl) rfl rfl (fun _ => trivial) (fun cdv A outer s H E hr => (ss_one (s_ret (x_if (t_val (x_me0 (c := "Words") rfl (x_var (i := 0) rfl (by first | exact .inl rfl | exact .inr (.inl rfl) | exact .inr (.inr rfl))) T.cl_Words T.mt_Words_is_over (fs_of G_Words_is_over) shp_sh hr (by decide) (takes_of rfl rfl rfl rfl))) x_non (x_ix rfl (x_fld (cs := ["Words"]) rfl (fk_cons T.cl_Words T.na_Words_told fk_nil) (x_var (i := 0) rfl (by first | exact .inl rfl | exact .inr (.inl rfl) | exact .inr (.inr rfl)))) (x_fld (cs := ["Words"]) rfl (fk_cons T.cl_Words T.na_Words_next_index fk_nil) (x_var (i := 0) rfl (by first | exact .inl rfl | exact .inr (.inl rfl) | exact .inr (.inr rfl)))) (fun _ _ => rfl))))))
end
def pic_Words_skip : Sy := (sSeq (sIf (tVal (eMe "Words" "is_over" sh_Words_is_over (eVar 0) aNil))
    (sDrop (eMe "Words" "refuse" (dflF [.non] sh_Words_refuse) (eVar 0) aNil))
    sNil)
    (sSeq (sFdA ["Words"] "next_index" (· + ·) (eVar 0) (eC (.int 1)))
    (sRet (eIx (eFd ["Words"] "told" (eVar 0)) (eBin dSub (eFd ["Words"] "next_index" (eVar 0)) (eC (.int 1)))))))
def sh_Words_skip : List D → Store → R D := runD 1 0 pic_Words_skip
section
variable {w : World} {K : PySem.W.Frag} {mg : Str → Option Value} {base : Heap}
theorem fo_Words_skip (T : Tx K mg) : Fo PP w K mg base (He.ma K (He.ga K "Words") "skip") 4 ["self"] (spSh K sh_Words_skip) := by
  have G_Words_is_over : Fo PP w K mg base (He.ma K (He.ga K "Words") "is_over") 1 _ _ := fo_Words_is_over T
  have G_Words_refuse_0 : Fs PP w K mg base (He.ma K (He.ga K "Words") "refuse") 3 _ := fs_Words_refuse_0 T
  exact fo_sh (f := pic_Words_skip) T.d_Words_skip sc_Words_skip (fun _ _ _ _ _ _ us hl => match us, hl with | [_], _ => rfl) rfl rfl (fun _ => trivial) (fun cdv A outer s H E hr => (ss_cons (s_if (t_val (x_me0 (c := "Words") rfl (x_var (i := 0) rfl (by first | exact .inl rfl | exact .inr (.inl rfl) | exact .inr (.inr rfl))) T.cl_Words T.mt_Words_is_over (fs_of G_Words_is_over) shp_sh hr (by decide) (takes_of rfl rfl rfl rfl)))
    (ss_one (s_expr (x_me0 (c := "Words") rfl (x_var (i := 0) rfl (by first | exact .inl rfl | exact .inr (.inl rfl) | exact .inr (.inr rfl))) T.cl_Words T.mt_Words_refuse G_Words_refuse_0 (shp_dfl (dv := [.non]) (vv := [V.non]) (fun _ => (reps_cons rep_non reps_nil)) shp_sh) hr (by decide) (takes_of rfl rfl rfl rfl))))
    ss_nil)
    (ss_cons (s_fdA (cs := ["Words"]) in_add rfl (fk_cons T.cl_Words T.na_Words_next_index fk_nil) (x_var (i := 0) rfl (by first | exact .inl rfl | exact .inr (.inl rfl) | exact .inr (.inr rfl))) x_int)
    (ss_one (s_ret (x_ix rfl (x_fld (cs := ["Words"]) rfl (fk_cons T.cl_Words T.na_Words_told fk_nil) (x_var (i := 0) rfl (by first | exact .inl rfl | exact .inr (.inl rfl) | exact .inr (.inr rfl)))) (x_op (ops_sub rfl) (x_fld (cs := ["Words"]) rfl (fk_cons T.cl_Words T.na_Words_next_index fk_nil) (x_var (i := 0) rfl (by first | exact .inl rfl | exact .inr (.inl rfl) | exact .inr (.inr rfl)))) x_int) (fun _ _ => rfl)))))))
end
def pic_Words_take_name : Sy := (sSeq (sIf (tNt (tVal (eDf sh_is_name (aCons (eMe "Words" "upcoming" sh_Words_upcoming (eVar 0) aNil) aNil))))
    (sDrop (eMe "Words" "refuse" (dflF [.non] sh_Words_refuse) (eVar 0) aNil))
    sNil)
    (sRet (eMe "Words" "skip" sh_Words_skip (eVar 0) aNil)))
def sh_Words_take_name : List D → Store → R D := runD 1 0 pic_Words_take_name
section
variable {w : World} {K : PySem.W.Frag} {mg : Str → Option Value} {base : Heap}
theorem fo_Words_take_name (T : Tx K mg) : Fo PP w K mg base (He.ma K (He.ga K "Words") "take_name") 5 ["self"] (spSh K sh_Words_take_name) := by
  have G_Words_skip : Fo PP w K mg base (He.ma K (He.ga K "Words") "skip") 4 _ _ := fo_Words_skip T
  have G_is_name : Df PP w K mg base "is_name" 1 _ _ := df_is_name T
  have G_Words_upcoming : Fo PP w K mg base (He.ma K (He.ga K "Words") "upcoming") 2 _ _ := fo_Words_upcoming T
  have G_Words_refuse_0 : Fs PP w K mg base (He.ma K (He.ga K "Words") "refuse") 3 _ := fs_Words_refuse_0 T
  exact fo_sh (f := pic_Words_take_name) T.d_Words_take_name sc_Words_take_name (fun _ _ _ _ _ _ us hl => match us, hl with | [_], _ => rfl) rfl rfl (fun _ => trivial) (fun cdv A outer s H E hr => (ss_cons (s_if (t_not (t_val (x_df G_is_name shp_sh hr (by decide) (by rfl) (takes_of rfl rfl rfl rfl) (a_cons (x_me0 (c := "Words") rfl (x_var (i := 0) rfl (by first | exact .inl rfl | exact .inr (.inl rfl) | exact .inr (.inr rfl))) T.cl_Words T.mt_Words_upcoming (fs_of G_Words_upcoming) shp_sh hr (by decide) (takes_of rfl rfl rfl rfl)) a_nil))))
    (ss_one (s_expr (x_me0 (c := "Words") rfl (x_var (i := 0) rfl (by first | exact .inl rfl | exact .inr (.inl rfl) | exact .inr (.inr rfl))) T.cl_Words T.mt_Words_refuse G_Words_refuse_0 (shp_dfl (dv := [.non]) (vv := [V.non]) (fun _ => (reps_cons rep_non reps_nil)) shp_sh) hr (by decide) (takes_of rfl rfl rfl rfl))))
    ss_nil)
    (ss_one (s_ret (x_me0 (c := "Words") rfl (x_var (i := 0) rfl (by first | exact .inl rfl | exact .inr (.inl rfl) | exact .inr (.inr rfl))) T.cl_Words T.mt_Words_skip (fs_of G_Words_skip) shp_sh hr (by decide) (takes_of rfl rfl rfl rfl))))))
end
def pic_Words_take_number : Sy := (sSeq (sSet 3 (eMe "Words" "upcoming" sh_Words_upcoming (eVar 0) aNil))
    (sSeq (sSet 4 (eIf (tVal (eBin dIs (eVar 3) (eC .non))) (eC .non) (eDf sh_number_in (aCons (eVar 3) aNil))))
    (sSeq (sIf (tOo (tVal (eBin dIs (eVar 4) (eC .non))) (tOo (tVal (eBin dLt (eVar 4) (eVar 1))) (tAd (tVal (eBin dNot (eVar 2) (eC .non))) (tVal (eBin dGt (eVar 4) (eVar 2))))))
    (sDrop (eMe "Words" "refuse" (dflF [.non] sh_Words_refuse) (eVar 0) aNil))
    sNil)
    (sSeq (sDrop (eMe "Words" "skip" sh_Words_skip (eVar 0) aNil))
    (sRet (eVar 4))))))
def sh_Words_take_number : List D → Store → R D := runD 3 2 pic_Words_take_number
section
variable {w : World} {K : PySem.W.Frag} {mg : Str → Option Value} {base : Heap}
theorem fs_Words_take_number_0 (T : Tx K mg) : Fs PP w K mg base (He.ma K (He.ga K "Words") "take_number") 5 (fun vs H Q E => (spSh K sh_Words_take_number) (vs ++ [V.non]) H Q E) := by
  have G_Words_skip : Fo PP w K mg base (He.ma K (He.ga K "Words") "skip") 4 _ _ := fo_Words_skip T
  have G_Words_refuse_0 : Fs PP w K mg base (He.ma K (He.ga K "Words") "refuse") 3 _ := fs_Words_refuse_0 T
  have G_number_in : Df PP w K mg base "number_in" 1 _ _ := df_number_in T
  have G_Words_upcoming : Fo PP w K mg base (He.ma K (He.ga K "Words") "upcoming") 2 _ _ := fo_Words_upcoming T
  refine fs_dfl (n := 2) (j := 0) T.d_Words_take_number (ps := ["self", "least", "most"]) (sp := (spSh K sh_Words_take_number)) (fun fd F => F.ok sc_Words_take_number (fun vs H Q E h => spSh_len h) (fun cdv A outer s H vs Q E hr h => ?_)) (by simp) rfl (fun Tp kV doc pm an cdv ct us its h1 h2 => match us, h1, its, h2 with | [_, _], _, [_], _ => ⟨_, rfl, rfl⟩)
  refine body_of (f := pic_Words_take_number) (fun _ => trivial) rfl ?_ h
  exact (ss_cons (s_set (i := 3) sc_Words_take_number.nd rfl (by first | exact .inl rfl | exact .inr rfl) (x_me0 (c := "Words") rfl (x_var (i := 0) rfl (by first | exact .inl rfl | exact .inr (.inl rfl) | exact .inr (.inr rfl))) T.cl_Words T.mt_Words_upcoming (fs_of G_Words_upcoming) shp_sh hr (by decide) (takes_of rfl rfl rfl rfl)))
    (ss_cons (s_set (i := 4) sc_Words_take_number.nd rfl (by first | exact .inl rfl | exact .inr rfl) (x_if (t_cmp (ops_is rfl) (x_var (i := 3) rfl (by first | exact .inl rfl | exact .inr (.inl rfl) | exact .inr (.inr rfl))) x_non (nomark _)) x_non (x_df G_number_in shp_sh hr (by decide) (by rfl) (takes_of rfl rfl rfl rfl) (a_cons (x_var (i := 3) rfl (by first | exact .inl rfl | exact .inr (.inl rfl) | exact .inr (.inr rfl))) a_nil))))
    (ss_cons (s_if (w_pt (w_or (t_cmp (ops_is rfl) (x_var (i := 4) rfl (by first | exact .inl rfl | exact .inr (.inl rfl) | exact .inr (.inr rfl))) x_non (nomark _)) (w_or (t_cmp (ops_lt rfl) (x_var (i := 4) rfl (by first | exact .inl rfl | exact .inr (.inl rfl) | exact .inr (.inr rfl))) (x_var (i := 1) rfl (by first | exact .inl rfl | exact .inr (.inl rfl) | exact .inr (.inr rfl))) (nomark _)) (w_or1 (w_pt (w_and (t_cmp (ops_not rfl) (x_var (i := 2) rfl (by first | exact .inl rfl | exact .inr (.inl rfl) | exact .inr (.inr rfl))) x_non (nomark _)) (w_and1 (t_cmp (ops_gt rfl) (x_var (i := 4) rfl (by first | exact .inl rfl | exact .inr (.inl rfl) | exact .inr (.inr rfl))) (x_var (i := 2) rfl (by first | exact .inl rfl | exact .inr (.inl rfl) | exact .inr (.inr rfl))) (nomark _)))))))))
    (ss_one (s_expr (x_me0 (c := "Words") rfl (x_var (i := 0) rfl (by first | exact .inl rfl | exact .inr (.inl rfl) | exact .inr (.inr rfl))) T.cl_Words T.mt_Words_refuse G_Words_refuse_0 (shp_dfl (dv := [.non]) (vv := [V.non]) (fun _ => (reps_cons rep_non reps_nil)) shp_sh) hr (by decide) (takes_of rfl rfl rfl rfl))))
    ss_nil)
    (ss_cons (s_expr (x_me0 (c := "Words") rfl (x_var (i := 0) rfl (by first | exact .inl rfl | exact .inr (.inl rfl) | exact .inr (.inr rfl))) T.cl_Words T.mt_Words_skip (fs_of G_Words_skip) shp_sh hr (by decide) (takes_of rfl rfl rfl rfl)))
    (ss_one (s_ret (x_var (i := 4) rfl (by first | exact .inl rfl | exact .inr (.inl rfl) | exact .inr (.inr rfl)))))))))
end
def pic_Words_is_lone : Sy := (sSeq (sIf (tVal (eBin dNe (eSl (eFd ["Words"] "told" (eVar 0)) (pSo (eFd ["Words"] "next_index" (eVar 0))) pNo) (eLst (aCons (eVar 1) aNil))))
    (sRet (eC (.bl false)))
    sNil)
    (sSeq (sFdC ["Words"] "next_index" (eVar 0) (eCall dLen (aCons (eFd ["Words"] "told" (eVar 0)) aNil)))
    (sRet (eC (.bl true)))))
def sh_Words_is_lone : List D → Store → R D := runD 2 0 pic_Words_is_lone
section
variable {w : World} {K : PySem.W.Frag} {mg : Str → Option Value} {base : Heap}
theorem fo_Words_is_lone (T : Tx K mg) : Fo PP w K mg base (He.ma K (He.ga K "Words") "is_lone") 1 ["self", "word"] (spSh K sh_Words_is_lone) := by
  exact fo_sh (f := pic_Words_is_lone) T.d_Words_is_lone sc_Words_is_lone (fun _ _ _ _ _ _ us hl => match us, hl with | [_, _], _ => rfl) rfl rfl (fun _ => trivial) (fun cdv A outer s H E hr => (ss_cons (s_if (t_cmp (ops_neP rfl (room64 hr)) (x_sl rfl (x_fld (cs := ["Words"]) rfl (fk_cons T.cl_Words T.na_Words_told fk_nil) (x_var (i := 0) rfl (by first | exact .inl rfl | exact .inr (.inl rfl) | exact .inr (.inr rfl)))) (p_so (x_fld (cs := ["Words"]) rfl (fk_cons T.cl_Words T.na_Words_next_index fk_nil) (x_var (i := 0) rfl (by first | exact .inl rfl | exact .inr (.inl rfl) | exact .inr (.inr rfl))))) p_no) (x_lst (a_cons (x_var (i := 1) rfl (by first | exact .inl rfl | exact .inr (.inl rfl) | exact .inr (.inr rfl))) a_nil)) (nomark _))
    (ss_one (s_ret x_bl))
    ss_nil)
    (ss_cons (s_fdC (cs := ["Words"]) rfl (fk_cons T.cl_Words T.na_Words_next_index fk_nil) (x_var (i := 0) rfl (by first | exact .inl rfl | exact .inr (.inl rfl) | exact .inr (.inr rfl))) (x_callB (calls_len rfl) (by rfl) T.n_len (by decide +kernel) (a_cons (x_fld (cs := ["Words"]) rfl (fk_cons T.cl_Words T.na_Words_told fk_nil) (x_var (i := 0) rfl (by first | exact .inl rfl | exact .inr (.inl rfl) | exact .inr (.inr rfl)))) a_nil)))
    (ss_one (s_ret x_bl)))))
end
def pic_Words_close : Sy := (sIf (tNt (tVal (eMe "Words" "is_over" sh_Words_is_over (eVar 0) aNil)))
    (sDrop (eMe "Words" "refuse" (dflF [.non] sh_Words_refuse) (eVar 0) aNil))
    sNil)
def sh_Words_close : List D → Store → R D := runD 1 0 pic_Words_close
section
variable {w : World} {K : PySem.W.Frag} {mg : Str → Option Value} {base : Heap}
theorem fo_Words_close (T : Tx K mg) : Fo PP w K mg base (He.ma K (He.ga K "Words") "close") 4 ["self"] (spSh K sh_Words_close) := by
  have G_Words_is_over : Fo PP w K mg base (He.ma K (He.ga K "Words") "is_over") 1 _ _ := fo_Words_is_over T
  have G_Words_refuse_0 : Fs PP w K mg base (He.ma K (He.ga K "Words") "refuse") 3 _ := fs_Words_refuse_0 T
  exact fo_sh (f := pic_Words_close) T.d_Words_close sc_Words_close (fun _ _ _ _ _ _ us hl => match us, hl with | [_], _ => rfl) rfl rfl (fun _ => trivial) (fun cdv A outer s H E hr => (ss_one (s_if (t_not (t_val (x_me0 (c := "Words") rfl (x_var (i := 0) rfl (by first | exact .inl rfl | exact .inr (.inl rfl) | exact .inr (.inr rfl))) T.cl_Words T.mt_Words_is_over (fs_of G_Words_is_over) shp_sh hr (by decide) (takes_of rfl rfl rfl rfl))))
    (ss_one (s_expr (x_me0 (c := "Words") rfl (x_var (i := 0) rfl (by first | exact .inl rfl | exact .inr (.inl rfl) | exact .inr (.inr rfl))) T.cl_Words T.mt_Words_refuse G_Words_refuse_0 (shp_dfl (dv := [.non]) (vv := [V.non]) (fun _ => (reps_cons rep_non reps_nil)) shp_sh) hr (by decide) (takes_of rfl rfl rfl rfl))))
    ss_nil)))
end
end Nk
namespace Nk
open PySem PySem.Spec PyProof.Rows L2
local macro_rules | `(tactic| walk_at "r1") => `(tactic| with_reducible first
  | refine r_var rfl ?_ | refine r_c ?_ | refine r_seq ?_ | refine r_asgN ?_ | refine r_op ?_ | refine r_cb ?_ | refine r_cons ?_ | refine r_nil ?_
  | refine r_ret ?_ | refine r_ifS ?_ | refine r_I0 ?_ | refine r_test ?_ | refine r_B ?_ | refine r_k ?_ | refine r_not ?_ | refine r_and ?_ | refine r_or ?_
  | refine r_andV ?_ | refine r_orV ?_ | refine r_notV ?_ | refine r_if ?_ | refine r_chain ?_ | refine r_df ?_ | refine r_lst ?_ | refine r_tup ?_ | refine r_asg ?_ | refine r_gsub ?_ | refine r_drop ?_ | refine r_retN ?_ | refine r_next ?_ | refine r_bm ?_ | refine r_un ?_
  | refine r_gN ?_ | refine r_yes ?_ | refine r_lc ?_ | refine r_for ?_ | refine r_iStr ?_ | refine r_iList ?_ | refine r_iTup ?_ | refine r_iRng1 ?_ | refine r_xstr ?_ | refine r_xref ?_ | refine r_xint ?_ | refine r_xints ?_
  | refine r_m1 ?_ | refine r_isS ?_ | refine r_sl ?_ | refine r_nop ?_ | refine r_part ?_ | refine r_int1 ?_ | refine r_intb ?_ | refine r_iteT ?_ | refine r_iteF ?_ | refine r_iteNF ?_ | refine r_iteNT ?_)
local macro_rules | `(tactic| walk_at "r") => `(tactic| repeat (first | walk_at "r1" | walk_at "r2" | (dsimp only; first | walk_at "r1" | walk_at "r2")))
local macro_rules | `(tactic| walk_at "side") => `(tactic| first | assumption | (show (0 : Int) < _; omega) | exact c_mulL ⟨by omega, by omega⟩ | exact c_mulR ⟨by omega, by omega⟩ | exact c_pow ⟨by omega, by omega⟩ ⟨by omega, by omega⟩ | exact c_divW (by omega) (by omega))
local macro_rules | `(tactic| walk_at "r2") => `(tactic| first
  | ((with_reducible refine' r_I ?c1 ?_); (case c1 => walk_at "side"))
  | ((with_reducible refine' r_eq ?c1 ?_); (case c1 => rfl))
  | ((with_reducible refine' r_ne ?c1 ?_); (case c1 => rfl))
  | ((with_reducible refine' r_ixL ?c1 ?c2 ?_); (case c1 => first | exact SqL.of (by assumption) | assumption); (case c2 => rfl))
  | ((with_reducible refine' r_lenL ?c1 ?_); (case c1 => first | exact SqL.of (by assumption) | assumption))
  | ((with_reducible refine' r_slL ?c1 ?_); (case c1 => first | assumption | exact SqL.of (by assumption))))
local macro_rules | `(tactic| tbr_iter ($p:ident, $hp:ident, $H:ident, $s:ident, $e:ident, $o:ident)) => `(tactic| (intro $p:ident $hp:ident; generalize e0 : upd _ $p _ = $H:ident; have ⟨$s, $e, $o⟩ := Nk.new_facts $hp e0; clear e0))
section
variable {w : World} {K : PySem.W.Frag} {mg : Str → Option Value} {base : Heap}
theorem fo_BadTable (T : Tx K mg) : Fo PP w K mg base (He.ma K (He.ga K "BadTable") "__init__") 1 ["self", "value"] (spExc1 (He.ga K "BadTable") "value") := by
  refine T.d_BadTable_init.ok sc_BadTable_init (fun vs H Q E h => ?_) (fun _ _ _ _ _ _ _ us hl => match us, hl with | [_, _], _ => rfl) (sf := "self") rfl rfl (by decide +kernel) (by decide +kernel) T.n_super (by decide +kernel) (by decide +kernel) (by decide +kernel) rfl T.ci_BadTable (fun cc cdv A outer s H vs Q E S hr h => ?_)
  · obtain ⟨a, v, rfl, _⟩ := h
    rfl
  · obtain ⟨a, v, rfl, ha, k⟩ := h
    refine ⟨_, pscs_cons (psc_superX S T.exc_BadTable (pa_cons (pv 1) pa_nil)) (pscs_of (pss_one (ps_ost (pv 0) (pv 1)))), ?_⟩
    refine ⟨a, rfl, ha, ?_⟩
    walk_at "r"
    refine ⟨by simp, ha, ?_⟩
    walk_at "r"
    exact ⟨v, rfl, .ref a, rfl, a, He.ga K "BadTable", rfl, T.exc_BadTable.T, T.nx_BadTable_value, .inl ⟨ha, fun dx h1 h2 => k dx h1 h2⟩⟩
end
end Nk
namespace Nk
open PySem PySem.Spec PyProof.Rows L2
local macro_rules | `(tactic| walk_at "r1") => `(tactic| with_reducible first
  | refine r_var rfl ?_ | refine r_c ?_ | refine r_seq ?_ | refine r_asgN ?_ | refine r_op ?_ | refine r_cb ?_ | refine r_cons ?_ | refine r_nil ?_
  | refine r_ret ?_ | refine r_ifS ?_ | refine r_I0 ?_ | refine r_test ?_ | refine r_B ?_ | refine r_k ?_ | refine r_not ?_ | refine r_and ?_ | refine r_or ?_
  | refine r_andV ?_ | refine r_orV ?_ | refine r_notV ?_ | refine r_if ?_ | refine r_chain ?_ | refine r_df ?_ | refine r_lst ?_ | refine r_tup ?_ | refine r_asg ?_ | refine r_gsub ?_ | refine r_drop ?_ | refine r_retN ?_ | refine r_next ?_ | refine r_bm ?_ | refine r_un ?_
  | refine r_gN ?_ | refine r_yes ?_ | refine r_lc ?_ | refine r_for ?_ | refine r_iStr ?_ | refine r_iList ?_ | refine r_iTup ?_ | refine r_iRng1 ?_ | refine r_xstr ?_ | refine r_xref ?_ | refine r_xint ?_ | refine r_xints ?_
  | refine r_m1 ?_ | refine r_isS ?_ | refine r_sl ?_ | refine r_nop ?_ | refine r_part ?_ | refine r_int1 ?_ | refine r_intb ?_ | refine r_iteT ?_ | refine r_iteF ?_ | refine r_iteNF ?_ | refine r_iteNT ?_)
local macro_rules | `(tactic| walk_at "r") => `(tactic| repeat (first | walk_at "r1" | walk_at "r2" | (dsimp only; first | walk_at "r1" | walk_at "r2")))
local macro_rules | `(tactic| walk_at "side") => `(tactic| first | assumption | (show (0 : Int) < _; omega) | exact c_mulL ⟨by omega, by omega⟩ | exact c_mulR ⟨by omega, by omega⟩ | exact c_pow ⟨by omega, by omega⟩ ⟨by omega, by omega⟩ | exact c_divW (by omega) (by omega))
local macro_rules | `(tactic| walk_at "r2") => `(tactic| first
  | ((with_reducible refine' r_I ?c1 ?_); (case c1 => walk_at "side"))
  | ((with_reducible refine' r_eq ?c1 ?_); (case c1 => rfl))
  | ((with_reducible refine' r_ne ?c1 ?_); (case c1 => rfl))
  | ((with_reducible refine' r_ixL ?c1 ?c2 ?_); (case c1 => first | exact SqL.of (by assumption) | assumption); (case c2 => rfl))
  | ((with_reducible refine' r_lenL ?c1 ?_); (case c1 => first | exact SqL.of (by assumption) | assumption))
  | ((with_reducible refine' r_slL ?c1 ?_); (case c1 => first | assumption | exact SqL.of (by assumption))))
local macro_rules | `(tactic| tbr_iter ($p:ident, $hp:ident, $H:ident, $s:ident, $e:ident, $o:ident)) => `(tactic| (intro $p:ident $hp:ident; generalize e0 : upd _ $p _ = $H:ident; have ⟨$s, $e, $o⟩ := Nk.new_facts $hp e0; clear e0))
section
variable {w : World} {K : PySem.W.Frag} {mg : Str → Option Value} {base : Heap}
theorem fo_BadNumber (T : Tx K mg) : Fo PP w K mg base (He.ma K (He.ga K "BadNumber") "__init__") 1 ["self", "value"] (spExc1 (He.ga K "BadNumber") "value") := by
  refine T.d_BadNumber_init.ok sc_BadNumber_init (fun vs H Q E h => ?_) (fun _ _ _ _ _ _ _ us hl => match us, hl with | [_, _], _ => rfl) (sf := "self") rfl rfl (by decide +kernel) (by decide +kernel) T.n_super (by decide +kernel) (by decide +kernel) (by decide +kernel) rfl T.ci_BadNumber (fun cc cdv A outer s H vs Q E S hr h => ?_)
  · obtain ⟨a, v, rfl, _⟩ := h
    rfl
  · obtain ⟨a, v, rfl, ha, k⟩ := h
    refine ⟨_, pscs_cons (psc_superX S T.exc_BadNumber (pa_cons (pv 1) pa_nil)) (pscs_of (pss_one (ps_ost (pv 0) (pv 1)))), ?_⟩
    refine ⟨a, rfl, ha, ?_⟩
    walk_at "r"
    refine ⟨by simp, ha, ?_⟩
    walk_at "r"
    exact ⟨v, rfl, .ref a, rfl, a, He.ga K "BadNumber", rfl, T.exc_BadNumber.T, T.nx_BadNumber_value, .inl ⟨ha, fun dx h1 h2 => k dx h1 h2⟩⟩
end
end Nk
namespace Nk
open PySem PySem.Spec PyProof.Rows L2 Sh
def pic_ascending_pairs : Sy := (sSeq (sSet 1 (eUn dSortSet (eNew (lComp [2, 3] (iSq (eVar 0)) (gT (gsCons (gN 2) (gsCons (gN 3) gsNil))) tYesD (eCall dStr (aCons (eVar 2) aNil))))))
    (sRet (eNew (lComp2 [2, 3] (iSq (eVar 1)) (gN 2) tYesD (iSq (eUn dSortSet (eNew (lComp [4, 5] (iSq (eVar 0)) (gT (gsCons (gN 4) (gsCons (gN 5) gsNil))) (tVal (eBin dEq (eVar 4) (eVar 2))) (eCall dStr (aCons (eVar 5) aNil)))))) [3] (gN 3) tYesD (eTup (aCons (eVar 2) (aCons (eVar 3) aNil)))))))
def sh_ascending_pairs : List D → Store → R D := runD 1 5 pic_ascending_pairs
section
variable {w : World} {K : PySem.W.Frag} {mg : Str → Option Value} {base : Heap}
theorem df_ascending_pairs (T : Tx K mg) : Df PP w K mg base "ascending_pairs" 1 ["some"] (spSh K sh_ascending_pairs) := by
  obtain ⟨f, F, hm⟩ := T.d_ascending_pairs
  exact df_sh (f := pic_ascending_pairs) F hm sc_ascending_pairs (fun _ _ _ _ _ _ us hl => match us, hl with | [_], _ => rfl) rfl rfl (fun _ => trivial) (fun cdv A outer s H E hr => (ss_cons (s_set (i := 1) sc_ascending_pairs.nd rfl (by first | exact .inl rfl | exact .inr rfl) (x_sortSet rfl rfl (by rfl) T.n_sorted (by rfl) T.n_set (x_new (f_comp (own := [("kind", 2), ("bay", 3)]) rfl sc_ascending_pairs.nd (i_seq rfl (x_var (i := 0) rfl (by first | exact .inl rfl | exact .inr (.inl rfl) | exact .inr (.inr rfl)))) (blkOk_by (N := ["some", "kinds", "kind", "bay", "name", "there"]) (sc := defScope s_ascending_pairs) (by decide +kernel)) (fun _ _ _ _ _ => (g_tup rfl rfl (gs_cons (g_name (i := 2) sc_ascending_pairs.nd rfl (by first | exact .inl rfl | exact .inr rfl)) (gs_cons (g_name (i := 3) sc_ascending_pairs.nd rfl (by first | exact .inl rfl | exact .inr rfl)) gs_nil)) (gl_cons (gl_cons gl_nil)))) (fun _ _ _ _ _ => ts_nil) (fun _ _ _ _ _ => (x_callT calls_str (by rfl) T.n_str (by decide +kernel) (a_cons (x_var (i := 2) rfl (by first | exact .inl rfl | exact .inr (.inl rfl) | exact .inr (.inr rfl))) a_nil)))))))
    (ss_one (s_ret (x_new (f_comp2 (own := [("kind", 2), ("bay", 3)]) (vs1 := [3]) rfl sc_ascending_pairs.nd (i_seq rfl (x_var (i := 1) rfl (by first | exact .inl rfl | exact .inr (.inl rfl) | exact .inr (.inr rfl)))) (blkOk_by (N := ["some", "kinds", "kind", "bay", "name", "there"]) (sc := defScope s_ascending_pairs) (by decide +kernel)) (by decide) (fun _ _ _ _ _ => (g_name (i := 2) sc_ascending_pairs.nd rfl (by first | exact .inl rfl | exact .inr rfl))) (fun _ _ _ _ _ => ts_nil) (fun _ _ _ _ _ => (i_seq rfl (x_sortSet rfl rfl (by rfl) T.n_sorted (by rfl) T.n_set (x_new (f_comp (own := [("name", 4), ("there", 5)]) rfl sc_ascending_pairs.nd (i_seq rfl (x_var (i := 0) rfl (by first | exact .inl rfl | exact .inr (.inl rfl) | exact .inr (.inr rfl)))) (by show L2.BlkOk ["some", "kinds", "kind", "bay", "name", "there"] (L2.relS _ (defScope s_ascending_pairs)) _ _; exact L2.blkOk_by (by decide +kernel)) (fun _ _ _ _ _ => (g_tup rfl rfl (gs_cons (g_name (i := 4) sc_ascending_pairs.nd rfl (by first | exact .inl rfl | exact .inr rfl)) (gs_cons (g_name (i := 5) sc_ascending_pairs.nd rfl (by first | exact .inl rfl | exact .inr rfl)) gs_nil)) (gl_cons (gl_cons gl_nil)))) (fun _ _ _ _ _ => (ts_one (t_cmp (ops_eqP rfl (room64 hr)) (x_var (i := 4) rfl (by first | exact .inl rfl | exact .inr (.inl rfl) | exact .inr (.inr rfl))) (x_var (i := 2) rfl (by first | exact .inl rfl | exact .inr (.inl rfl) | exact .inr (.inr rfl))) (nomark _)))) (fun _ _ _ _ _ => (x_callT calls_str (by rfl) T.n_str (by decide +kernel) (a_cons (x_var (i := 5) rfl (by first | exact .inl rfl | exact .inr (.inl rfl) | exact .inr (.inr rfl))) a_nil)))))))) (fun _ _ _ _ _ => (g_name (i := 3) sc_ascending_pairs.nd rfl (by first | exact .inl rfl | exact .inr rfl))) (fun _ _ _ _ _ => ts_nil) (fun _ _ _ _ _ => (x_tup (a_cons (x_var (i := 2) rfl (by first | exact .inl rfl | exact .inr (.inl rfl) | exact .inr (.inr rfl))) (a_cons (x_var (i := 3) rfl (by first | exact .inl rfl | exact .inr (.inl rfl) | exact .inr (.inr rfl))) a_nil))))))))))
end
def pic_things_of : Sy := (sSeq (sIf (tNt (tVal (eIsiY ["dict"] [] (eVar 0))))
    (sRs "BadTable" ["value"] (aCons (eVar 0) aNil))
    sNil)
    (sSeq (sFor (iDt (eVar 0)) (gN 1)
    (sIf (tNt (tVal (eDf sh_is_name_pair (aCons (eVar 1) aNil))))
    (sRs "BadName" ["value"] (aCons (eVar 1) aNil))
    sNil))
    (sSeq (sSet 2 (eDf sh_ascending_pairs (aCons (eNew (lComp [1] (iDt (eVar 0)) (gN 1) tYesD (eVar 1))) aNil)))
    (sSeq (sFor (iSq (eVar 2)) (gN 3)
    (sIf (tNt (tVal (eDf sh_is_number (aCons (eDixT (eVar 0) (eVar 3)) aNil))))
    (sRs "BadNumber" ["value"] (aCons (eDixT (eVar 0) (eVar 3)) aNil))
    sNil))
    (sRet (eNewT (kCompT [3] (iSq (eVar 2)) (gN 3) (tVal (eBin dNe (eDixT (eVar 0) (eVar 3)) (eC (.int 0)))) (eVar 3) (eDixT (eVar 0) (eVar 3)))))))))
def sh_things_of : List D → Store → R D := runD 1 3 pic_things_of
section
variable {w : World} {K : PySem.W.Frag} {mg : Str → Option Value} {base : Heap}
theorem df_things_of (T : Tx K mg) : Df PP w K mg base "things_of" 4 ["table"] (spSh K sh_things_of) := by
  have G_is_number : Df PP w K mg base "is_number" 3 _ _ := df_is_number T
  have G_BadNumber_init : Fo PP w K mg base (He.ma K (He.ga K "BadNumber") "__init__") 1 _ _ := fo_BadNumber T
  have G_ascending_pairs : Df PP w K mg base "ascending_pairs" 1 _ _ := df_ascending_pairs T
  have G_is_name_pair : Df PP w K mg base "is_name_pair" 2 _ _ := df_is_name_pair T
  have G_BadName_init : Fo PP w K mg base (He.ma K (He.ga K "BadName") "__init__") 1 _ _ := fo_BadName T
  have G_BadTable_init : Fo PP w K mg base (He.ma K (He.ga K "BadTable") "__init__") 1 _ _ := fo_BadTable T
  obtain ⟨f, F, hm⟩ := T.d_things_of
  exact df_sh (f := pic_things_of) F hm sc_things_of (fun _ _ _ _ _ _ us hl => match us, hl with | [_], _ => rfl) rfl rfl (fun _ => trivial) (fun cdv A outer s H E hr => (ss_cons (s_if (t_not (t_val (x_isiY (bi := ["dict"]) (own := []) rfl (by rfl) T.n_isinstance (x_var (i := 0) rfl (by first | exact .inl rfl | exact .inr (.inl rfl) | exact .inr (.inr rfl))) (pe_bltn (v := .ty "dict") (u := .type "dict") (by rfl) T.n_dict (by decide +kernel) rfl) ⟨(io_b (by decide +kernel)), oo_nil⟩ (.ty _))))
    (ss_one (s_rs1 (c := "BadTable") (g1 := "value") rfl rfl (takes_of rfl rfl rfl rfl) T.exc_BadTable.T T.xi_BadTable T.xt_BadTable G_BadTable_init hr (by decide) (by rfl) T.g_BadTable (a_cons (x_var (i := 0) rfl (by first | exact .inl rfl | exact .inr (.inl rfl) | exact .inr (.inr rfl))) a_nil)))
    ss_nil)
    (ss_cons (s_for (us := [1]) (passes_of rfl) rfl (i_dt rfl (x_var (i := 0) rfl (by first | exact .inl rfl | exact .inr (.inl rfl) | exact .inr (.inr rfl)))) (g_name (i := 1) sc_things_of.nd rfl (by first | exact .inl rfl | exact .inr rfl))
    (ss_one (s_if (t_not (t_val (x_df G_is_name_pair shp_sh hr (by decide) (by rfl) (takes_of rfl rfl rfl rfl) (a_cons (x_var (i := 1) rfl (by first | exact .inl rfl | exact .inr (.inl rfl) | exact .inr (.inr rfl))) a_nil))))
    (ss_one (s_rs1 (c := "BadName") (g1 := "value") rfl rfl (takes_of rfl rfl rfl rfl) T.exc_BadName.T T.xi_BadName T.xt_BadName G_BadName_init hr (by decide) (by rfl) T.g_BadName (a_cons (x_var (i := 1) rfl (by first | exact .inl rfl | exact .inr (.inl rfl) | exact .inr (.inr rfl))) a_nil)))
    ss_nil)))
    (ss_cons (s_set (i := 2) sc_things_of.nd rfl (by first | exact .inl rfl | exact .inr rfl) (x_df G_ascending_pairs shp_sh hr (by decide) (by rfl) (takes_of rfl rfl rfl rfl) (a_cons (x_new (f_comp (own := [("key", 1)]) rfl sc_things_of.nd (i_dt rfl (x_var (i := 0) rfl (by first | exact .inl rfl | exact .inr (.inl rfl) | exact .inr (.inr rfl)))) (blkOk_by (N := ["table", "key", "pairs", "pair"]) (sc := defScope s_things_of) (by decide +kernel)) (fun _ _ _ _ _ => (g_name (i := 1) sc_things_of.nd rfl (by first | exact .inl rfl | exact .inr rfl))) (fun _ _ _ _ _ => ts_nil) (fun _ _ _ _ _ => (x_var (i := 1) rfl (by first | exact .inl rfl | exact .inr (.inl rfl) | exact .inr (.inr rfl)))))) a_nil)))
    (ss_cons (s_for (us := [3]) (passes_of rfl) rfl (i_seq rfl (x_var (i := 2) rfl (by first | exact .inl rfl | exact .inr (.inl rfl) | exact .inr (.inr rfl)))) (g_name (i := 3) sc_things_of.nd rfl (by first | exact .inl rfl | exact .inr rfl))
    (ss_one (s_if (t_not (t_val (x_df G_is_number shp_sh hr (by decide) (by rfl) (takes_of rfl rfl rfl rfl) (a_cons (x_dixT rfl (room65 hr) (x_var (i := 0) rfl (by first | exact .inl rfl | exact .inr (.inl rfl) | exact .inr (.inr rfl))) (x_var (i := 3) rfl (by first | exact .inl rfl | exact .inr (.inl rfl) | exact .inr (.inr rfl))) (fun _ _ => rfl)) a_nil))))
    (ss_one (s_rs1 (c := "BadNumber") (g1 := "value") rfl rfl (takes_of rfl rfl rfl rfl) T.exc_BadNumber.T T.xi_BadNumber T.xt_BadNumber G_BadNumber_init hr (by decide) (by rfl) T.g_BadNumber (a_cons (x_dixT rfl (room65 hr) (x_var (i := 0) rfl (by first | exact .inl rfl | exact .inr (.inl rfl) | exact .inr (.inr rfl))) (x_var (i := 3) rfl (by first | exact .inl rfl | exact .inr (.inl rfl) | exact .inr (.inr rfl))) (fun _ _ => rfl)) a_nil)))
    ss_nil)))
    (ss_one (s_ret (x_newT (ft_comp (own := [("pair", 3)]) (room1 hr) rfl sc_things_of.nd (i_seq rfl (x_var (i := 2) rfl (by first | exact .inl rfl | exact .inr (.inl rfl) | exact .inr (.inr rfl)))) (blkOk_by (N := ["table", "key", "pairs", "pair"]) (sc := defScope s_things_of) (by decide +kernel)) (fun _ _ _ _ _ => (g_name (i := 3) sc_things_of.nd rfl (by first | exact .inl rfl | exact .inr rfl))) (fun _ _ _ _ _ => (ts_one (t_cmp (ops_neP rfl (room64 hr)) (x_dixT rfl (room65 hr) (x_var (i := 0) rfl (by first | exact .inl rfl | exact .inr (.inl rfl) | exact .inr (.inr rfl))) (x_var (i := 3) rfl (by first | exact .inl rfl | exact .inr (.inl rfl) | exact .inr (.inr rfl))) (fun _ _ => rfl)) x_int (nomark _)))) (fun _ _ _ _ _ => (x_var (i := 3) rfl (by first | exact .inl rfl | exact .inr (.inl rfl) | exact .inr (.inr rfl)))) (fun _ _ _ _ _ => (x_dixT rfl (room65 hr) (x_var (i := 0) rfl (by first | exact .inl rfl | exact .inr (.inl rfl) | exact .inr (.inr rfl))) (x_var (i := 3) rfl (by first | exact .inl rfl | exact .inr (.inl rfl) | exact .inr (.inr rfl))) (fun _ _ => rfl))))))))))))
end
def pic_take_things_b : Sy := (sSeq (sSet 3 (eMe "Words" "take_name" sh_Words_take_name (eVar 0) aNil))
    (sSeq (sSet 4 (eMe "Words" "take_name" sh_Words_take_name (eVar 0) aNil))
    (sSeq (sIf (tAd (tVal (eBin dNot (eVar 2) (eC .non))) (tOo (tVal (eBin dLt (eVar 3) (eIx (eVar 2) (eC (.int 0))))) (tAd (tVal (eBin dEq (eVar 3) (eIx (eVar 2) (eC (.int 0))))) (tVal (eBin dLe (eVar 4) (eIx (eVar 2) (eC (.int 1))))))))
    (sDrop (eMe "Words" "refuse" (dflF [] sh_Words_refuse) (eVar 0) (aCons (eBin dSub (eFd ["Words"] "next_index" (eVar 0)) (eC (.int 1))) aNil)))
    sNil)
    (sSeq (sDsOT 1 (eTup (aCons (eVar 3) (aCons (eVar 4) aNil))) (eMe "Words" "take_number" (dflF [.non] sh_Words_take_number) (eVar 0) (aCons (eC (.int 1)) aNil)))
    (sSet 2 (eTup (aCons (eVar 3) (aCons (eVar 4) aNil))))))))
def pic_take_things : Sy := (sSeq (sOwnT 1 kNilT)
    (sSeq (sIf (tVal (eMe "Words" "is_lone" sh_Words_is_lone (eVar 0) (aCons (eC (.str "none")) aNil)))
    (sFrzT 1 (sRet (eVar 1)))
    sNil)
    (sSeq (sSet 2 (eC .non))
    (sSeq (sWhile FUEL (tOo (tVal (eBin dIs (eVar 2) (eC .non))) (tNt (tVal (eMe "Words" "is_over" sh_Words_is_over (eVar 0) aNil))))
    pic_take_things_b)
    (sFrzT 1 (sRet (eVar 1)))))))
def sh_take_things : List D → Store → R D := runD 1 4 pic_take_things
section
variable {w : World} {K : PySem.W.Frag} {mg : Str → Option Value} {base : Heap}
theorem df_take_things (T : Tx K mg) : Df PP w K mg base "take_things" 6 ["words"] (spSh K sh_take_things) := by
  have G_Words_is_over : Fo PP w K mg base (He.ma K (He.ga K "Words") "is_over") 1 _ _ := fo_Words_is_over T
  have G_Words_take_number_0 : Fs PP w K mg base (He.ma K (He.ga K "Words") "take_number") 5 _ := fs_Words_take_number_0 T
  have G_Words_refuse_1 : Fs PP w K mg base (He.ma K (He.ga K "Words") "refuse") 3 _ := fs_Words_refuse_1 T
  have G_Words_take_name : Fo PP w K mg base (He.ma K (He.ga K "Words") "take_name") 5 _ _ := fo_Words_take_name T
  have G_Words_is_lone : Fo PP w K mg base (He.ma K (He.ga K "Words") "is_lone") 1 _ _ := fo_Words_is_lone T
  obtain ⟨f, F, hm⟩ := T.d_take_things
  exact df_sh (f := pic_take_things) F hm sc_take_things (fun _ _ _ _ _ _ us hl => match us, hl with | [_], _ => rfl) rfl rfl (fun _ => trivial) (fun cdv A outer s H E hr => (ss_cons (s_ownT (i := 1) sc_take_things.nd rfl (by first | exact .inl rfl | exact .inr rfl) ft_nil)
    (ss_cons (s_if (t_val (x_me (c := "Words") rfl (x_var (i := 0) rfl (by first | exact .inl rfl | exact .inr (.inl rfl) | exact .inr (.inr rfl))) T.cl_Words T.mt_Words_is_lone (fs_of G_Words_is_lone) shp_sh hr (by decide) (takes_of rfl rfl rfl rfl) (a_cons x_str a_nil)))
    (ss_one (s_frzT (i := 1) (s_ret (x_var (i := 1) rfl (by first | exact .inl rfl | exact .inr (.inl rfl) | exact .inr (.inr rfl))))))
    ss_nil)
    (ss_cons (s_set (i := 2) sc_take_things.nd rfl (by first | exact .inl rfl | exact .inr rfl) x_non)
    (ss_cons (s_while FUEL (passes_of rfl) (w_pt (w_or (t_cmp (ops_is rfl) (x_var (i := 2) rfl (by first | exact .inl rfl | exact .inr (.inl rfl) | exact .inr (.inr rfl))) x_non (nomark _)) (w_or1 (t_not (t_val (x_me0 (c := "Words") rfl (x_var (i := 0) rfl (by first | exact .inl rfl | exact .inr (.inl rfl) | exact .inr (.inr rfl))) T.cl_Words T.mt_Words_is_over (fs_of G_Words_is_over) shp_sh hr (by decide) (takes_of rfl rfl rfl rfl)))))))
    (ss_cons (s_set (i := 3) sc_take_things.nd rfl (by first | exact .inl rfl | exact .inr rfl) (x_me0 (c := "Words") rfl (x_var (i := 0) rfl (by first | exact .inl rfl | exact .inr (.inl rfl) | exact .inr (.inr rfl))) T.cl_Words T.mt_Words_take_name (fs_of G_Words_take_name) shp_sh hr (by decide) (takes_of rfl rfl rfl rfl)))
    (ss_cons (s_set (i := 4) sc_take_things.nd rfl (by first | exact .inl rfl | exact .inr rfl) (x_me0 (c := "Words") rfl (x_var (i := 0) rfl (by first | exact .inl rfl | exact .inr (.inl rfl) | exact .inr (.inr rfl))) T.cl_Words T.mt_Words_take_name (fs_of G_Words_take_name) shp_sh hr (by decide) (takes_of rfl rfl rfl rfl)))
    (ss_cons (s_if (w_pt (w_and (t_cmp (ops_not rfl) (x_var (i := 2) rfl (by first | exact .inl rfl | exact .inr (.inl rfl) | exact .inr (.inr rfl))) x_non (nomark _)) (w_and1 (w_pt (w_or (t_cmp (ops_lt rfl) (x_var (i := 3) rfl (by first | exact .inl rfl | exact .inr (.inl rfl) | exact .inr (.inr rfl))) (x_ix rfl (x_var (i := 2) rfl (by first | exact .inl rfl | exact .inr (.inl rfl) | exact .inr (.inr rfl))) x_int (fun _ _ => rfl)) (nomark _)) (w_or1 (w_pt (w_and (t_cmp (ops_eqP rfl (room64 hr)) (x_var (i := 3) rfl (by first | exact .inl rfl | exact .inr (.inl rfl) | exact .inr (.inr rfl))) (x_ix rfl (x_var (i := 2) rfl (by first | exact .inl rfl | exact .inr (.inl rfl) | exact .inr (.inr rfl))) x_int (fun _ _ => rfl)) (nomark _)) (w_and1 (t_cmp (ops_le rfl) (x_var (i := 4) rfl (by first | exact .inl rfl | exact .inr (.inl rfl) | exact .inr (.inr rfl))) (x_ix rfl (x_var (i := 2) rfl (by first | exact .inl rfl | exact .inr (.inl rfl) | exact .inr (.inr rfl))) x_int (fun _ _ => rfl)) (nomark _)))))))))))
    (ss_one (s_expr (x_me (c := "Words") rfl (x_var (i := 0) rfl (by first | exact .inl rfl | exact .inr (.inl rfl) | exact .inr (.inr rfl))) T.cl_Words T.mt_Words_refuse G_Words_refuse_1 (shp_dfl (dv := []) (vv := []) (fun _ => reps_nil) shp_sh) hr (by decide) (takes_of rfl rfl rfl rfl) (a_cons (x_op (ops_sub rfl) (x_fld (cs := ["Words"]) rfl (fk_cons T.cl_Words T.na_Words_next_index fk_nil) (x_var (i := 0) rfl (by first | exact .inl rfl | exact .inr (.inl rfl) | exact .inr (.inr rfl)))) x_int) a_nil))))
    ss_nil)
    (ss_cons (s_dsOT (i := 1) rfl (room65 hr) rfl (by first | exact .inl rfl | exact .inr (.inl rfl) | exact .inr (.inr rfl)) (x_tup (a_cons (x_var (i := 3) rfl (by first | exact .inl rfl | exact .inr (.inl rfl) | exact .inr (.inr rfl))) (a_cons (x_var (i := 4) rfl (by first | exact .inl rfl | exact .inr (.inl rfl) | exact .inr (.inr rfl))) a_nil))) (x_me (c := "Words") rfl (x_var (i := 0) rfl (by first | exact .inl rfl | exact .inr (.inl rfl) | exact .inr (.inr rfl))) T.cl_Words T.mt_Words_take_number G_Words_take_number_0 (shp_dfl (dv := [.non]) (vv := [V.non]) (fun _ => (reps_cons rep_non reps_nil)) shp_sh) hr (by decide) (takes_of rfl rfl rfl rfl) (a_cons x_int a_nil)))
    (ss_one (s_set (i := 2) sc_take_things.nd rfl (by first | exact .inl rfl | exact .inr rfl) (x_tup (a_cons (x_var (i := 3) rfl (by first | exact .inl rfl | exact .inr (.inl rfl) | exact .inr (.inr rfl))) (a_cons (x_var (i := 4) rfl (by first | exact .inl rfl | exact .inr (.inl rfl) | exact .inr (.inr rfl))) a_nil))))))))))
    (ss_one (s_frzT (i := 1) (s_ret (x_var (i := 1) rfl (by first | exact .inl rfl | exact .inr (.inl rfl) | exact .inr (.inr rfl)))))))))))
end
def pic_Standing_init : Sy := (sFdO "Standing" "own_things" (eDf sh_things_of (aCons (eVar 1) aNil)))
def sh_Standing_init : Cell → List D → Store → R Cell := runI 2 0 pic_Standing_init
section
variable {w : World} {K : PySem.W.Frag} {mg : Str → Option Value} {base : Heap}
theorem fo_Standing_init (T : Tx K mg) : Fo PP w K mg base (He.ma K (He.ga K "Standing") "__init__") 5 ["self", "table"] (spIn K sh_Standing_init) := by
  have G_things_of : Df PP w K mg base "things_of" 4 _ _ := df_things_of T
  exact fo_in (f := pic_Standing_init) T.d_Standing_init sc_Standing_init (fun _ _ _ _ _ _ us hl => match us, hl with | [_, _], _ => rfl) rfl rfl (fun _ => trivial) (fun cdv A outer s H E hr => (ss_one (s_fdO (c := "Standing") rfl rfl (.inl rfl) T.cl_Standing T.na_Standing_own_things (x_df G_things_of shp_sh hr (by decide) (by rfl) (takes_of rfl rfl rfl rfl) (a_cons (x_var (i := 1) rfl (by first | exact .inl rfl | exact .inr (.inl rfl) | exact .inr (.inr rfl))) a_nil)))))
end
def pic_Standing_none : Sy := (sRet (eMk "Standing" sh_Standing_init (eC (.cls "Standing")) (aCons (eNewT kNilT) aNil)))
def sh_Standing_none : List D → Store → R D := runD 0 0 pic_Standing_none
section
variable {w : World} {K : PySem.W.Frag} {mg : Str → Option Value} {base : Heap}
theorem fo_Standing_none (T : Tx K mg) : Fo PP w K mg base (smOf K (He.ga K "Standing") "none") 7 [] (spSh K sh_Standing_none) := by
  have G_Standing_init : Fo PP w K mg base (He.ma K (He.ga K "Standing") "__init__") 5 _ _ := fo_Standing_init T
  exact fo_sh (f := pic_Standing_none) T.d_Standing_none sc_Standing_none (fun _ _ _ _ _ _ us hl => match us, hl with | [], _ => rfl) rfl rfl (fun _ => trivial) (fun cdv A outer s H E hr => (ss_one (s_ret (x_mk (c := "Standing") rfl (x_cls rfl (by rfl) T.g_Standing) T.mk_Standing (fs_of G_Standing_init) shi_in hr (by decide) (takes_of rfl rfl rfl rfl) (a_cons (x_newT ft_nil) a_nil)))))
end
def pic_Standing_read : Sy := (sSeq (sSet 2 (eMkC "Words" (dflI [.int 0] sh_Words_init) (eC (.cls "Words")) (aCons (eVar 1) aNil)))
    (sSeq (sSet 3 (eDf sh_take_things (aCons (eVar 2) aNil)))
    (sSeq (sDrop (eMe "Words" "close" sh_Words_close (eVar 2) aNil))
    (sRet (eMk "Standing" sh_Standing_init (eVar 0) (aCons (eVar 3) aNil))))))
def sh_Standing_read : List D → Store → R D := runD 2 2 pic_Standing_read
section
variable {w : World} {K : PySem.W.Frag} {mg : Str → Option Value} {base : Heap}
theorem fo_Standing_read (T : Tx K mg) : Fo PP w K mg base (cmOf K (He.ga K "Standing") "read") 7 ["cls", "text"] (spSh K sh_Standing_read) := by
  have G_Standing_init : Fo PP w K mg base (He.ma K (He.ga K "Standing") "__init__") 5 _ _ := fo_Standing_init T
  have G_Words_close : Fo PP w K mg base (He.ma K (He.ga K "Words") "close") 4 _ _ := fo_Words_close T
  have G_take_things : Df PP w K mg base "take_things" 6 _ _ := df_take_things T
  have G_Words_init_0 : Fs PP w K mg base (He.ma K (He.ga K "Words") "__init__") 3 _ := fs_Words_init_0 T
  exact fo_sh (f := pic_Standing_read) T.d_Standing_read sc_Standing_read (fun _ _ _ _ _ _ us hl => match us, hl with | [_, _], _ => rfl) rfl rfl (fun _ => trivial) (fun cdv A outer s H E hr => (ss_cons (s_set (i := 2) sc_Standing_read.nd rfl (by first | exact .inl rfl | exact .inr rfl) (x_mkC (c := "Words") rfl (x_cls rfl (by rfl) T.g_Words) T.mk_Words G_Words_init_0 (shi_dfl (dv := [.int 0]) (vv := [V.int 0]) (fun _ => (reps_cons rep_int reps_nil)) shi_in) hr (by decide) (takes_of rfl rfl rfl rfl) (a_cons (x_var (i := 1) rfl (by first | exact .inl rfl | exact .inr (.inl rfl) | exact .inr (.inr rfl))) a_nil)))
    (ss_cons (s_set (i := 3) sc_Standing_read.nd rfl (by first | exact .inl rfl | exact .inr rfl) (x_df G_take_things shp_sh hr (by decide) (by rfl) (takes_of rfl rfl rfl rfl) (a_cons (x_var (i := 2) rfl (by first | exact .inl rfl | exact .inr (.inl rfl) | exact .inr (.inr rfl))) a_nil)))
    (ss_cons (s_expr (x_me0 (c := "Words") rfl (x_var (i := 2) rfl (by first | exact .inl rfl | exact .inr (.inl rfl) | exact .inr (.inr rfl))) T.cl_Words T.mt_Words_close (fs_of G_Words_close) shp_sh hr (by decide) (takes_of rfl rfl rfl rfl)))
    (ss_one (s_ret (x_mk (c := "Standing") rfl (x_var (i := 0) rfl (by first | exact .inl rfl | exact .inr (.inl rfl) | exact .inr (.inr rfl))) T.mk_Standing (fs_of G_Standing_init) shi_in hr (by decide) (takes_of rfl rfl rfl rfl) (a_cons (x_var (i := 3) rfl (by first | exact .inl rfl | exact .inr (.inl rfl) | exact .inr (.inr rfl))) a_nil))))))))
end
def pic_Standing_parts : Sy := (sRet (eCall dTuple (aCons (eNew (lComp [1, 2] (iDt (eFd ["Standing"] "own_things" (eVar 0))) (gT (gsCons (gN 1) (gsCons (gN 2) gsNil))) tYesD (eTup (aCons (eVar 1) (aCons (eVar 2) (aCons (eDixT (eFd ["Standing"] "own_things" (eVar 0)) (eTup (aCons (eVar 1) (aCons (eVar 2) aNil)))) aNil)))))) aNil)))
def sh_Standing_parts : List D → Store → R D := runD 1 2 pic_Standing_parts
section
variable {w : World} {K : PySem.W.Frag} {mg : Str → Option Value} {base : Heap}
theorem fo_Standing_parts (T : Tx K mg) : Fo PP w K mg base (getOf K (He.ga K "Standing") "parts") 1 ["self"] (spSh K sh_Standing_parts) := by
  exact fo_sh (f := pic_Standing_parts) T.d_Standing_parts sc_Standing_parts (fun _ _ _ _ _ _ us hl => match us, hl with | [_], _ => rfl) rfl rfl (fun _ => trivial) (fun cdv A outer s H E hr => (ss_one (s_ret (x_callT (calls_tuple rfl) (by rfl) T.n_tuple (by decide +kernel) (a_cons (x_new (f_comp (own := [("kind", 1), ("bay", 2)]) rfl sc_Standing_parts.nd (i_dt rfl (x_fld (cs := ["Standing"]) rfl (fk_cons T.cl_Standing T.na_Standing_own_things fk_nil) (x_var (i := 0) rfl (by first | exact .inl rfl | exact .inr (.inl rfl) | exact .inr (.inr rfl))))) (blkOk_by (N := ["self", "kind", "bay"]) (sc := defScope s_Standing_parts) (by decide +kernel)) (fun _ _ _ _ _ => (g_tup rfl rfl (gs_cons (g_name (i := 1) sc_Standing_parts.nd rfl (by first | exact .inl rfl | exact .inr rfl)) (gs_cons (g_name (i := 2) sc_Standing_parts.nd rfl (by first | exact .inl rfl | exact .inr rfl)) gs_nil)) (gl_cons (gl_cons gl_nil)))) (fun _ _ _ _ _ => ts_nil) (fun _ _ _ _ _ => (x_tup (a_cons (x_var (i := 1) rfl (by first | exact .inl rfl | exact .inr (.inl rfl) | exact .inr (.inr rfl))) (a_cons (x_var (i := 2) rfl (by first | exact .inl rfl | exact .inr (.inl rfl) | exact .inr (.inr rfl))) (a_cons (x_dixT rfl (room65 hr) (x_fld (cs := ["Standing"]) rfl (fk_cons T.cl_Standing T.na_Standing_own_things fk_nil) (x_var (i := 0) rfl (by first | exact .inl rfl | exact .inr (.inl rfl) | exact .inr (.inr rfl)))) (x_tup (a_cons (x_var (i := 1) rfl (by first | exact .inl rfl | exact .inr (.inl rfl) | exact .inr (.inr rfl))) (a_cons (x_var (i := 2) rfl (by first | exact .inl rfl | exact .inr (.inl rfl) | exact .inr (.inr rfl))) a_nil))) (fun _ _ => rfl)) a_nil))))))) a_nil)))))
end
def pic_Standing_eq : Sy := (sRet (eAd (eIsi [] [("Standing", true)] (eVar 1)) (eBinE (oEqT false) (eFd ["Standing"] "own_things" (eVar 0)) (eFd ["Standing"] "own_things" (eVar 1)))))
def sh_Standing_eq : List D → Store → R D := runD 2 0 pic_Standing_eq
section
variable {w : World} {K : PySem.W.Frag} {mg : Str → Option Value} {base : Heap}
theorem fo_Standing_eq (T : Tx K mg) : Fo PP w K mg base (He.ma K (He.ga K "Standing") "__eq__") 1 ["self", "other"] (spSh K sh_Standing_eq) := by
  exact fo_sh (f := pic_Standing_eq) T.d_Standing_eq sc_Standing_eq (fun _ _ _ _ _ _ us hl => match us, hl with | [_, _], _ => rfl) rfl rfl (fun _ => trivial) (fun cdv A outer s H E hr => (ss_one (s_ret (x_and (x_isi (bi := []) (own := [("Standing", true)]) rfl (by rfl) T.n_isinstance (x_var (i := 1) rfl (by first | exact .inl rfl | exact .inr (.inl rfl) | exact .inr (.inr rfl))) (pe_glob (v := .ref _) (by rfl) T.g_Standing rfl) ⟨(io_own T.kts_Standing), (oo_cons T.cl_Standing T.in_Standing T.kt_Standing_Standing_t oo_nil)⟩ (.own _)) (x_one (x_cmpE (oe_eqT false rfl (room65 hr)) (x_fld (cs := ["Standing"]) rfl (fk_cons T.cl_Standing T.na_Standing_own_things fk_nil) (x_var (i := 0) rfl (by first | exact .inl rfl | exact .inr (.inl rfl) | exact .inr (.inr rfl)))) (x_fld (cs := ["Standing"]) rfl (fk_cons T.cl_Standing T.na_Standing_own_things fk_nil) (x_var (i := 1) rfl (by first | exact .inl rfl | exact .inr (.inl rfl) | exact .inr (.inr rfl)))) (nomark _)))))))
end
def pic_Standing_str : Sy := (sSeq (sIf (tVal (eBin dEq (eLenT (eFd ["Standing"] "own_things" (eVar 0))) (eC (.int 0))))
    (sRet (eC (.str "none")))
    sNil)
    (sRet (eM1 dJoin (eC (.str " ")) (eNew (lComp [1, 2, 3] (iSq (ePr "Standing" sh_Standing_parts (eVar 0))) (gT (gsCons (gN 1) (gsCons (gN 2) (gsCons (gN 3) gsNil)))) tYesD (eJs [(eFmt (eVar 1)), (eC (.str " ")), (eFmt (eVar 2)), (eC (.str " ")), (eFmt (eVar 3))] Str.empty))))))
def sh_Standing_str : List D → Store → R D := runD 1 3 pic_Standing_str
section
variable {w : World} {K : PySem.W.Frag} {mg : Str → Option Value} {base : Heap}
theorem fo_Standing_str (T : Tx K mg) : Fo PP w K mg base (He.ma K (He.ga K "Standing") "__str__") 3 ["self"] (spSh K sh_Standing_str) := by
  have G_Standing_parts : Fo PP w K mg base (getOf K (He.ga K "Standing") "parts") 1 _ _ := fo_Standing_parts T
  exact fo_sh (f := pic_Standing_str) T.d_Standing_str sc_Standing_str (fun _ _ _ _ _ _ us hl => match us, hl with | [_], _ => rfl) rfl rfl (fun _ => trivial) (fun cdv A outer s H E hr => (ss_cons (s_if (t_cmp (ops_eqP rfl (room64 hr)) (x_lenT (by rfl) T.n_len (x_fld (cs := ["Standing"]) rfl (fk_cons T.cl_Standing T.na_Standing_own_things fk_nil) (x_var (i := 0) rfl (by first | exact .inl rfl | exact .inr (.inl rfl) | exact .inr (.inr rfl))))) x_int (nomark _))
    (ss_one (s_ret x_str))
    ss_nil)
    (ss_one (s_ret (x_m1 PySem.F.slot_str_join PySem.F.type_str_join (mts_join rfl) x_str (x_new (f_comp (own := [("kind", 1), ("bay", 2), ("number", 3)]) rfl sc_Standing_str.nd (i_seq rfl (x_pr (c := "Standing") rfl (x_var (i := 0) rfl (by first | exact .inl rfl | exact .inr (.inl rfl) | exact .inr (.inr rfl))) T.cl_Standing T.pr_Standing_parts G_Standing_parts shp_sh hr (by decide))) (blkOk_by (N := ["self", "kind", "bay", "number"]) (sc := defScope s_Standing_str) (by decide +kernel)) (fun _ _ _ _ _ => (g_tup rfl rfl (gs_cons (g_name (i := 1) sc_Standing_str.nd rfl (by first | exact .inl rfl | exact .inr rfl)) (gs_cons (g_name (i := 2) sc_Standing_str.nd rfl (by first | exact .inl rfl | exact .inr rfl)) (gs_cons (g_name (i := 3) sc_Standing_str.nd rfl (by first | exact .inl rfl | exact .inr rfl)) gs_nil))) (gl_cons (gl_cons (gl_cons gl_nil))))) (fun _ _ _ _ _ => ts_nil) (fun _ _ _ _ _ => (x_js (.cons (x_fmt (x_var (i := 1) rfl (by first | exact .inl rfl | exact .inr (.inl rfl) | exact .inr (.inr rfl)))) (.cons x_str (.cons (x_fmt (x_var (i := 2) rfl (by first | exact .inl rfl | exact .inr (.inl rfl) | exact .inr (.inr rfl)))) (.cons x_str (.cons (x_fmt (x_var (i := 3) rfl (by first | exact .inl rfl | exact .inr (.inl rfl) | exact .inr (.inr rfl)))) .nil))))))))))))))
end
section
variable {w : World} {K : PySem.W.Frag} {mg : Str → Option Value} {base : Heap}
theorem fk_Standing_read (T : Tx K mg) : FsK PP w K mg base (cmOf K (He.ga K "Standing") "read") 7 ["text"] (fun vs H Q E => ∃ x zs, vs = x :: zs ∧ spSh K sh_Standing_read (x :: zs) H Q E) := by
  have G_Standing_init : Fo PP w K mg base (He.ma K (He.ga K "Standing") "__init__") 5 _ _ := fo_Standing_init T
  have G_Words_close : Fo PP w K mg base (He.ma K (He.ga K "Words") "close") 4 _ _ := fo_Words_close T
  have G_take_things : Df PP w K mg base "take_things" 6 _ _ := df_take_things T
  have G_Words_init_0 : Fs PP w K mg base (He.ma K (He.ga K "Words") "__init__") 3 _ := fs_Words_init_0 T
  exact fsK_mk (fok_mk (ks := ["text"]) (ps := ["cls", "text"]) (n := 1) (sp := spSh K sh_Standing_read) (g := fun vs zs => vs ++ zs) T.d_Standing_read (fun r1 r2 => r1.append r2) (fun _ _ _ _ _ _ us ws h1 h2 => match us, h1, ws, h2 with | [_], _, [_], _ => rfl) (fun fd F => F.ok sc_Standing_read (fun vs H Q E h => spSh_len h) (fun cdv A outer s H vs Q E hr h => body_of (f := pic_Standing_read) (fun _ => trivial) rfl ((ss_cons (s_set (i := 2) sc_Standing_read.nd rfl (by first | exact .inl rfl | exact .inr rfl) (x_mkC (c := "Words") rfl (x_cls rfl (by rfl) T.g_Words) T.mk_Words G_Words_init_0 (shi_dfl (dv := [.int 0]) (vv := [V.int 0]) (fun _ => (reps_cons rep_int reps_nil)) shi_in) hr (by decide) (takes_of rfl rfl rfl rfl) (a_cons (x_var (i := 1) rfl (by first | exact .inl rfl | exact .inr (.inl rfl) | exact .inr (.inr rfl))) a_nil)))
    (ss_cons (s_set (i := 3) sc_Standing_read.nd rfl (by first | exact .inl rfl | exact .inr rfl) (x_df G_take_things shp_sh hr (by decide) (by rfl) (takes_of rfl rfl rfl rfl) (a_cons (x_var (i := 2) rfl (by first | exact .inl rfl | exact .inr (.inl rfl) | exact .inr (.inr rfl))) a_nil)))
    (ss_cons (s_expr (x_me0 (c := "Words") rfl (x_var (i := 2) rfl (by first | exact .inl rfl | exact .inr (.inl rfl) | exact .inr (.inr rfl))) T.cl_Words T.mt_Words_close (fs_of G_Words_close) shp_sh hr (by decide) (takes_of rfl rfl rfl rfl)))
    (ss_one (s_ret (x_mk (c := "Standing") rfl (x_var (i := 0) rfl (by first | exact .inl rfl | exact .inr (.inl rfl) | exact .inr (.inr rfl))) T.mk_Standing (fs_of G_Standing_init) shi_in hr (by decide) (takes_of rfl rfl rfl rfl) (a_cons (x_var (i := 3) rfl (by first | exact .inl rfl | exact .inr (.inl rfl) | exact .inr (.inr rfl))) a_nil)))))))) h)))
end
end Nk
namespace Nk
open PySem PySem.Spec PyProof.Rows L2 Sh
def pic__law_pen : Sy := (sRet (eLstC (aCons (eCall dList (aCons (eSl (eVar 0) pNo (pSo (eC (.int 63)))) aNil)) (aCons (eC (.int 0)) (aCons (eC (.int 0)) aNil)))))
def sh__law_pen : List D → Store → R D := runD 1 0 pic__law_pen
section
variable {w : World} {K : PySem.W.Frag} {mg : Str → Option Value} {base : Heap}
theorem df__law_pen (T : Tx K mg) : Df PP w K mg base "_law_pen" 1 ["_law_script"] (spSh K sh__law_pen) := by
  obtain ⟨f, F, hm⟩ := T.d__law_pen
  exact df_sh (f := pic__law_pen) F hm sc__law_pen (fun _ _ _ _ _ _ us hl => match us, hl with | [_], _ => rfl) rfl rfl (fun _ => trivial) (fun cdv A outer s H E hr => (ss_one (s_ret (x_lstC (a_cons (x_callT (calls_list rfl) (by rfl) T.n_list (by decide +kernel) (a_cons (x_sl rfl (x_var (i := 0) rfl (by first | exact .inl rfl | exact .inr (.inl rfl) | exact .inr (.inr rfl))) p_no (p_so x_int)) a_nil)) (a_cons x_int (a_cons x_int a_nil)))))))
end
def pic__law_draw_mix : Sy := (sSeq (sSet 6 (eBin dMod (eCall dInt (aCons (eBin dPow (eBin dAdd (eBin dAdd (eBin dMod (eCall dInt (aCons (eVar 4) aNil)) (eC (.int 2147483563))) (eBin dMul (eC (.int 2777)) (eVar 3))) (eC (.int 2437))) (eC (.int 5))) aNil)) (eC (.int 2147483629))))
    (sSeq (sSet 6 (eBin dMod (eCall dInt (aCons (eBin dPow (eBin dAdd (eBin dAdd (eBin dMul (eVar 6) (eBin dAdd (eBin dMul (eC (.int 2)) (eVar 3)) (eC (.int 131)))) (eBin dMul (eBin dMul (eC (.int 13997)) (eVar 3)) (eVar 3))) (eC (.int 69389))) (eC (.int 3))) aNil)) (eC (.int 2147483587))))
    (sRet (eBin dMod (eCall dInt (aCons (eBin dFdiv (eVar 6) (eC (.int 32))) aNil)) (eVar 1)))))
def pic__law_draw_tail : Sy := (sSeq (sIf (tAd (tVal (eBin dLt (eVar 3) (eCall dLen (aCons (eIx (eVar 0) (eC (.int 0))) aNil)))) (tVal (eBin dGe (eCall dAbs (aCons (eVar 4) aNil)) (eBin dPow (eC (.int 10)) (eC (.int 18))))))
    (sSeq (sSet 5 (eBin dAdd (eBin dMul (eC (.int 2)) (eBin dSub (eCall dAbs (aCons (eVar 4) aNil)) (eBin dPow (eC (.int 10)) (eC (.int 18))))) (eCall dInt (aCons (eBin dLt (eVar 4) (eC (.int 0))) aNil))))
    (sSeq (sIxC (eVar 0) (eC (.int 2)) (eBin dFdiv (eCall dInt (aCons (eVar 5) aNil)) (eVar 1)))
    (sRet (eBin dMod (eCall dInt (aCons (eVar 5) aNil)) (eVar 1)))))
    sNil)
    pic__law_draw_mix)
def pic__law_draw : Sy := (sSeq (sIf (tVal (eBin dGt (eIx (eVar 0) (eC (.int 2))) (eC (.int 0))))
    (sSeq (sSet 2 (eBin dMod (eCall dInt (aCons (eIx (eVar 0) (eC (.int 2))) aNil)) (eVar 1)))
    (sSeq (sIxC (eVar 0) (eC (.int 2)) (eBin dFdiv (eCall dInt (aCons (eIx (eVar 0) (eC (.int 2))) aNil)) (eVar 1)))
    (sRet (eVar 2))))
    sNil)
    (sSeq (sSet 3 (eIx (eVar 0) (eC (.int 1))))
    (sSeq (sIxC (eVar 0) (eC (.int 1)) (eBin dAdd (eVar 3) (eC (.int 1))))
    (sSeq (sSet 4 (eBin dAdd (eBin dMul (eC (.int 69389)) (eVar 3)) (eC (.int 2437))))
    (sSeq (sIf (tVal (eBin dNe (eIx (eVar 0) (eC (.int 0))) (eLst aNil)))
    (sSet 4 (eIx (eIx (eVar 0) (eC (.int 0))) (eBin dMod (eCall dInt (aCons (eVar 3) aNil)) (eCall dLen (aCons (eIx (eVar 0) (eC (.int 0))) aNil)))))
    sNil)
    pic__law_draw_tail)))))
def sh__law_draw : List D → Store → R D := runD 2 5 pic__law_draw
section
variable {w : World} {K : PySem.W.Frag} {mg : Str → Option Value} {base : Heap}
theorem df__law_draw (T : Tx K mg) : Df PP w K mg base "_law_draw" 1 ["_law_pen_here", "_law_many"] (spSh K sh__law_draw) := by
  obtain ⟨f, F, hm⟩ := T.d__law_draw
  exact df_sh (f := pic__law_draw) F hm sc__law_draw (fun _ _ _ _ _ _ us hl => match us, hl with | [_, _], _ => rfl) rfl rfl (fun _ => trivial) (fun cdv A outer s H E hr => (ss_cons (s_if (t_cmp (ops_gt rfl) (x_ix rfl (x_var (i := 0) rfl (by first | exact .inl rfl | exact .inr (.inl rfl) | exact .inr (.inr rfl))) x_int (fun _ _ => rfl)) x_int (nomark _))
    (ss_cons (s_set (i := 2) sc__law_draw.nd rfl (by first | exact .inl rfl | exact .inr rfl) (x_op (ops_mod rfl) (x_callT calls_int (by rfl) T.n_int (by decide +kernel) (a_cons (x_ix rfl (x_var (i := 0) rfl (by first | exact .inl rfl | exact .inr (.inl rfl) | exact .inr (.inr rfl))) x_int (fun _ _ => rfl)) a_nil)) (x_var (i := 1) rfl (by first | exact .inl rfl | exact .inr (.inl rfl) | exact .inr (.inr rfl)))))
    (ss_cons (s_ixC (x_var (i := 0) rfl (by first | exact .inl rfl | exact .inr (.inl rfl) | exact .inr (.inr rfl))) x_int (x_op (ops_fdiv rfl) (x_callT calls_int (by rfl) T.n_int (by decide +kernel) (a_cons (x_ix rfl (x_var (i := 0) rfl (by first | exact .inl rfl | exact .inr (.inl rfl) | exact .inr (.inr rfl))) x_int (fun _ _ => rfl)) a_nil)) (x_var (i := 1) rfl (by first | exact .inl rfl | exact .inr (.inl rfl) | exact .inr (.inr rfl)))))
    (ss_one (s_ret (x_var (i := 2) rfl (by first | exact .inl rfl | exact .inr (.inl rfl) | exact .inr (.inr rfl)))))))
    ss_nil)
    (ss_cons (s_set (i := 3) sc__law_draw.nd rfl (by first | exact .inl rfl | exact .inr rfl) (x_ix rfl (x_var (i := 0) rfl (by first | exact .inl rfl | exact .inr (.inl rfl) | exact .inr (.inr rfl))) x_int (fun _ _ => rfl)))
    (ss_cons (s_ixC (x_var (i := 0) rfl (by first | exact .inl rfl | exact .inr (.inl rfl) | exact .inr (.inr rfl))) x_int (x_op (ops_add rfl) (x_var (i := 3) rfl (by first | exact .inl rfl | exact .inr (.inl rfl) | exact .inr (.inr rfl))) x_int))
    (ss_cons (s_set (i := 4) sc__law_draw.nd rfl (by first | exact .inl rfl | exact .inr rfl) (x_op (ops_add rfl) (x_op (ops_mul rfl) x_int (x_var (i := 3) rfl (by first | exact .inl rfl | exact .inr (.inl rfl) | exact .inr (.inr rfl)))) x_int))
    (ss_cons (s_if (t_cmp (ops_neP rfl (room64 hr)) (x_ix rfl (x_var (i := 0) rfl (by first | exact .inl rfl | exact .inr (.inl rfl) | exact .inr (.inr rfl))) x_int (fun _ _ => rfl)) (x_lst a_nil) (nomark _))
    (ss_one (s_set (i := 4) sc__law_draw.nd rfl (by first | exact .inl rfl | exact .inr rfl) (x_ix rfl (x_ix rfl (x_var (i := 0) rfl (by first | exact .inl rfl | exact .inr (.inl rfl) | exact .inr (.inr rfl))) x_int (fun _ _ => rfl)) (x_op (ops_mod rfl) (x_callT calls_int (by rfl) T.n_int (by decide +kernel) (a_cons (x_var (i := 3) rfl (by first | exact .inl rfl | exact .inr (.inl rfl) | exact .inr (.inr rfl))) a_nil)) (x_callB (calls_len rfl) (by rfl) T.n_len (by decide +kernel) (a_cons (x_ix rfl (x_var (i := 0) rfl (by first | exact .inl rfl | exact .inr (.inl rfl) | exact .inr (.inr rfl))) x_int (fun _ _ => rfl)) a_nil))) (fun _ _ => rfl))))
    ss_nil)
    (ss_cons (s_if (w_pt (w_and (t_cmp (ops_lt rfl) (x_var (i := 3) rfl (by first | exact .inl rfl | exact .inr (.inl rfl) | exact .inr (.inr rfl))) (x_callB (calls_len rfl) (by rfl) T.n_len (by decide +kernel) (a_cons (x_ix rfl (x_var (i := 0) rfl (by first | exact .inl rfl | exact .inr (.inl rfl) | exact .inr (.inr rfl))) x_int (fun _ _ => rfl)) a_nil)) (nomark _)) (w_and1 (t_cmp (ops_ge rfl) (x_callB calls_abs (by rfl) T.n_abs (by decide +kernel) (a_cons (x_var (i := 4) rfl (by first | exact .inl rfl | exact .inr (.inl rfl) | exact .inr (.inr rfl))) a_nil)) (x_op (ops_pow rfl) x_int x_int) (nomark _)))))
    (ss_cons (s_set (i := 5) sc__law_draw.nd rfl (by first | exact .inl rfl | exact .inr rfl) (x_op (ops_add rfl) (x_op (ops_mul rfl) x_int (x_op (ops_sub rfl) (x_callB calls_abs (by rfl) T.n_abs (by decide +kernel) (a_cons (x_var (i := 4) rfl (by first | exact .inl rfl | exact .inr (.inl rfl) | exact .inr (.inr rfl))) a_nil)) (x_op (ops_pow rfl) x_int x_int))) (x_callT calls_int (by rfl) T.n_int (by decide +kernel) (a_cons (x_cmp (ops_lt rfl) (x_var (i := 4) rfl (by first | exact .inl rfl | exact .inr (.inl rfl) | exact .inr (.inr rfl))) x_int (nomark _)) a_nil))))
    (ss_cons (s_ixC (x_var (i := 0) rfl (by first | exact .inl rfl | exact .inr (.inl rfl) | exact .inr (.inr rfl))) x_int (x_op (ops_fdiv rfl) (x_callT calls_int (by rfl) T.n_int (by decide +kernel) (a_cons (x_var (i := 5) rfl (by first | exact .inl rfl | exact .inr (.inl rfl) | exact .inr (.inr rfl))) a_nil)) (x_var (i := 1) rfl (by first | exact .inl rfl | exact .inr (.inl rfl) | exact .inr (.inr rfl)))))
    (ss_one (s_ret (x_op (ops_mod rfl) (x_callT calls_int (by rfl) T.n_int (by decide +kernel) (a_cons (x_var (i := 5) rfl (by first | exact .inl rfl | exact .inr (.inl rfl) | exact .inr (.inr rfl))) a_nil)) (x_var (i := 1) rfl (by first | exact .inl rfl | exact .inr (.inl rfl) | exact .inr (.inr rfl))))))))
    ss_nil)
    (ss_cons (s_set (i := 6) sc__law_draw.nd rfl (by first | exact .inl rfl | exact .inr rfl) (x_op (ops_mod rfl) (x_callT calls_int (by rfl) T.n_int (by decide +kernel) (a_cons (x_op (ops_pow rfl) (x_op (ops_add rfl) (x_op (ops_add rfl) (x_op (ops_mod rfl) (x_callT calls_int (by rfl) T.n_int (by decide +kernel) (a_cons (x_var (i := 4) rfl (by first | exact .inl rfl | exact .inr (.inl rfl) | exact .inr (.inr rfl))) a_nil)) x_int) (x_op (ops_mul rfl) x_int (x_var (i := 3) rfl (by first | exact .inl rfl | exact .inr (.inl rfl) | exact .inr (.inr rfl))))) x_int) x_int) a_nil)) x_int))
    (ss_cons (s_set (i := 6) sc__law_draw.nd rfl (by first | exact .inl rfl | exact .inr rfl) (x_op (ops_mod rfl) (x_callT calls_int (by rfl) T.n_int (by decide +kernel) (a_cons (x_op (ops_pow rfl) (x_op (ops_add rfl) (x_op (ops_add rfl) (x_op (ops_mul rfl) (x_var (i := 6) rfl (by first | exact .inl rfl | exact .inr (.inl rfl) | exact .inr (.inr rfl))) (x_op (ops_add rfl) (x_op (ops_mul rfl) x_int (x_var (i := 3) rfl (by first | exact .inl rfl | exact .inr (.inl rfl) | exact .inr (.inr rfl)))) x_int)) (x_op (ops_mul rfl) (x_op (ops_mul rfl) x_int (x_var (i := 3) rfl (by first | exact .inl rfl | exact .inr (.inl rfl) | exact .inr (.inr rfl)))) (x_var (i := 3) rfl (by first | exact .inl rfl | exact .inr (.inl rfl) | exact .inr (.inr rfl))))) x_int) x_int) a_nil)) x_int))
    (ss_one (s_ret (x_op (ops_mod rfl) (x_callT calls_int (by rfl) T.n_int (by decide +kernel) (a_cons (x_op (ops_fdiv rfl) (x_var (i := 6) rfl (by first | exact .inl rfl | exact .inr (.inl rfl) | exact .inr (.inr rfl))) x_int) a_nil)) (x_var (i := 1) rfl (by first | exact .inl rfl | exact .inr (.inl rfl) | exact .inr (.inr rfl)))))))))))))))
end
def pic__law_pick : Sy := (sRet (eIx (eVar 1) (eDf sh__law_draw (aCons (eVar 0) (aCons (eCall dLen (aCons (eVar 1) aNil)) aNil)))))
def sh__law_pick : List D → Store → R D := runD 2 0 pic__law_pick
section
variable {w : World} {K : PySem.W.Frag} {mg : Str → Option Value} {base : Heap}
theorem df__law_pick (T : Tx K mg) : Df PP w K mg base "_law_pick" 2 ["_law_pen_here", "_law_some"] (spSh K sh__law_pick) := by
  have G__law_draw : Df PP w K mg base "_law_draw" 1 _ _ := df__law_draw T
  obtain ⟨f, F, hm⟩ := T.d__law_pick
  exact df_sh (f := pic__law_pick) F hm sc__law_pick (fun _ _ _ _ _ _ us hl => match us, hl with | [_, _], _ => rfl) rfl rfl (fun _ => trivial) (fun cdv A outer s H E hr => (ss_one (s_ret (x_ix rfl (x_var (i := 1) rfl (by first | exact .inl rfl | exact .inr (.inl rfl) | exact .inr (.inr rfl))) (x_df G__law_draw shp_sh hr (by decide) (by rfl) (takes_of rfl rfl rfl rfl) (a_cons (x_var (i := 0) rfl (by first | exact .inl rfl | exact .inr (.inl rfl) | exact .inr (.inr rfl))) (a_cons (x_callB (calls_len rfl) (by rfl) T.n_len (by decide +kernel) (a_cons (x_var (i := 1) rfl (by first | exact .inl rfl | exact .inr (.inl rfl) | exact .inr (.inr rfl))) a_nil)) a_nil))) (fun _ _ => rfl)))))
end
def pic__law_word : Sy := (sSeq (sSet 1 (eDf sh__law_pick (aCons (eVar 0) (aCons (eLst (aCons (eC (.str "abcdefghijklmnopqrstuvwxyz")) (aCons (eC (.str "aby")) aNil))) aNil))))
    (sSeq (sSet 2 (eC (.str "")))
    (sSeq (sFor (iRng1 (aCons (eBin dAdd (eC (.int 1)) (eDf sh__law_draw (aCons (eVar 0) (aCons (eC (.int 8)) aNil)))) aNil)) (gN 3)
    (sSet 2 (eBin dAdd (eVar 2) (eDf sh__law_pick (aCons (eVar 0) (aCons (eVar 1) aNil))))))
    (sRet (eVar 2)))))
def sh__law_word : List D → Store → R D := runD 1 3 pic__law_word
section
variable {w : World} {K : PySem.W.Frag} {mg : Str → Option Value} {base : Heap}
theorem df__law_word (T : Tx K mg) : Df PP w K mg base "_law_word" 3 ["_law_pen_here"] (spSh K sh__law_word) := by
  have G__law_draw : Df PP w K mg base "_law_draw" 1 _ _ := df__law_draw T
  have G__law_pick : Df PP w K mg base "_law_pick" 2 _ _ := df__law_pick T
  obtain ⟨f, F, hm⟩ := T.d__law_word
  exact df_sh (f := pic__law_word) F hm sc__law_word (fun _ _ _ _ _ _ us hl => match us, hl with | [_], _ => rfl) rfl rfl (fun _ => trivial) (fun cdv A outer s H E hr => (ss_cons (s_set (i := 1) sc__law_word.nd rfl (by first | exact .inl rfl | exact .inr rfl) (x_df G__law_pick shp_sh hr (by decide) (by rfl) (takes_of rfl rfl rfl rfl) (a_cons (x_var (i := 0) rfl (by first | exact .inl rfl | exact .inr (.inl rfl) | exact .inr (.inr rfl))) (a_cons (x_lst (a_cons x_str (a_cons x_str a_nil))) a_nil))))
    (ss_cons (s_set (i := 2) sc__law_word.nd rfl (by first | exact .inl rfl | exact .inr rfl) x_str)
    (ss_cons (s_for (us := [3]) (passes_of rfl) rfl (i_rng1 (by rfl) T.n_range (a_cons (x_op (ops_add rfl) x_int (x_df G__law_draw shp_sh hr (by decide) (by rfl) (takes_of rfl rfl rfl rfl) (a_cons (x_var (i := 0) rfl (by first | exact .inl rfl | exact .inr (.inl rfl) | exact .inr (.inr rfl))) (a_cons x_int a_nil)))) a_nil)) (g_name (i := 3) sc__law_word.nd rfl (by first | exact .inl rfl | exact .inr rfl))
    (ss_one (s_set (i := 2) sc__law_word.nd rfl (by first | exact .inl rfl | exact .inr rfl) (x_op (ops_add rfl) (x_var (i := 2) rfl (by first | exact .inl rfl | exact .inr (.inl rfl) | exact .inr (.inr rfl))) (x_df G__law_pick shp_sh hr (by decide) (by rfl) (takes_of rfl rfl rfl rfl) (a_cons (x_var (i := 0) rfl (by first | exact .inl rfl | exact .inr (.inl rfl) | exact .inr (.inr rfl))) (a_cons (x_var (i := 1) rfl (by first | exact .inl rfl | exact .inr (.inl rfl) | exact .inr (.inr rfl))) a_nil)))))))
    (ss_one (s_ret (x_var (i := 2) rfl (by first | exact .inl rfl | exact .inr (.inl rfl) | exact .inr (.inr rfl)))))))))
end
def pic__law_table_b : Sy := (sSeq (sPar 3 4 (aCons (eDf sh__law_word (aCons (eVar 0) aNil)) (aCons (eDf sh__law_word (aCons (eVar 0) aNil)) aNil)))
    (sSeq (sSet 5 (eTup (aCons (eDf sh__law_pick (aCons (eVar 0) (aCons (eLst (aCons (eC (.str "none")) (aCons (eC (.str "a")) (aCons (eVar 3) aNil)))) aNil))) (aCons (eDf sh__law_pick (aCons (eVar 0) (aCons (eLst (aCons (eC (.str "none")) (aCons (eC (.str "b")) (aCons (eVar 4) aNil)))) aNil))) aNil))))
    (sDsOT 1 (eVar 5) (eDf sh__law_pick (aCons (eVar 0) (aCons (eLst (aCons (eC (.int 0)) (aCons (eBin dAdd (eC (.int 1)) (eDf sh__law_draw (aCons (eVar 0) (aCons (eC (.int 120)) aNil)))) (aCons (eBin dSub (eBin dPow (eC (.int 10)) (eC (.int 60))) (eC (.int 1))) (aCons (eBin dAdd (eC (.int 1)) (eDf sh__law_draw (aCons (eVar 0) (aCons (eBin dPow (eC (.int 10)) (eC (.int 59))) aNil)))) aNil))))) aNil))))))
def pic__law_table : Sy := (sSeq (sOwnT 1 kNilT)
    (sSeq (sFor (iRng1 (aCons (eDf sh__law_draw (aCons (eVar 0) (aCons (eC (.int 5)) aNil))) aNil)) (gN 2)
    pic__law_table_b)
    (sFrzT 1 (sRet (eVar 1)))))
def sh__law_table : List D → Store → R D := runD 1 5 pic__law_table
section
variable {w : World} {K : PySem.W.Frag} {mg : Str → Option Value} {base : Heap}
theorem df__law_table (T : Tx K mg) : Df PP w K mg base "_law_table" 4 ["_law_pen_here"] (spSh K sh__law_table) := by
  have G__law_draw : Df PP w K mg base "_law_draw" 1 _ _ := df__law_draw T
  have G__law_pick : Df PP w K mg base "_law_pick" 2 _ _ := df__law_pick T
  have G__law_word : Df PP w K mg base "_law_word" 3 _ _ := df__law_word T
  obtain ⟨f, F, hm⟩ := T.d__law_table
  exact df_sh (f := pic__law_table) F hm sc__law_table (fun _ _ _ _ _ _ us hl => match us, hl with | [_], _ => rfl) rfl rfl (fun _ => trivial) (fun cdv A outer s H E hr => (ss_cons (s_ownT (i := 1) sc__law_table.nd rfl (by first | exact .inl rfl | exact .inr rfl) ft_nil)
    (ss_cons (s_for (us := [2]) (passes_of rfl) rfl (i_rng1 (by rfl) T.n_range (a_cons (x_df G__law_draw shp_sh hr (by decide) (by rfl) (takes_of rfl rfl rfl rfl) (a_cons (x_var (i := 0) rfl (by first | exact .inl rfl | exact .inr (.inl rfl) | exact .inr (.inr rfl))) (a_cons x_int a_nil))) a_nil)) (g_name (i := 2) sc__law_table.nd rfl (by first | exact .inl rfl | exact .inr rfl))
    (ss_cons (s_par (i := 3) (j := 4) rfl sc__law_table.nd rfl rfl (by decide) rfl rfl (a_cons (x_df G__law_word shp_sh hr (by decide) (by rfl) (takes_of rfl rfl rfl rfl) (a_cons (x_var (i := 0) rfl (by first | exact .inl rfl | exact .inr (.inl rfl) | exact .inr (.inr rfl))) a_nil)) (a_cons (x_df G__law_word shp_sh hr (by decide) (by rfl) (takes_of rfl rfl rfl rfl) (a_cons (x_var (i := 0) rfl (by first | exact .inl rfl | exact .inr (.inl rfl) | exact .inr (.inr rfl))) a_nil)) a_nil)) (by rfl))
    (ss_cons (s_set (i := 5) sc__law_table.nd rfl (by first | exact .inl rfl | exact .inr rfl) (x_tup (a_cons (x_df G__law_pick shp_sh hr (by decide) (by rfl) (takes_of rfl rfl rfl rfl) (a_cons (x_var (i := 0) rfl (by first | exact .inl rfl | exact .inr (.inl rfl) | exact .inr (.inr rfl))) (a_cons (x_lst (a_cons x_str (a_cons x_str (a_cons (x_var (i := 3) rfl (by first | exact .inl rfl | exact .inr (.inl rfl) | exact .inr (.inr rfl))) a_nil)))) a_nil))) (a_cons (x_df G__law_pick shp_sh hr (by decide) (by rfl) (takes_of rfl rfl rfl rfl) (a_cons (x_var (i := 0) rfl (by first | exact .inl rfl | exact .inr (.inl rfl) | exact .inr (.inr rfl))) (a_cons (x_lst (a_cons x_str (a_cons x_str (a_cons (x_var (i := 4) rfl (by first | exact .inl rfl | exact .inr (.inl rfl) | exact .inr (.inr rfl))) a_nil)))) a_nil))) a_nil))))
    (ss_one (s_dsOT (i := 1) rfl (room65 hr) rfl (by first | exact .inl rfl | exact .inr (.inl rfl) | exact .inr (.inr rfl)) (x_var (i := 5) rfl (by first | exact .inl rfl | exact .inr (.inl rfl) | exact .inr (.inr rfl))) (x_df G__law_pick shp_sh hr (by decide) (by rfl) (takes_of rfl rfl rfl rfl) (a_cons (x_var (i := 0) rfl (by first | exact .inl rfl | exact .inr (.inl rfl) | exact .inr (.inr rfl))) (a_cons (x_lst (a_cons x_int (a_cons (x_op (ops_add rfl) x_int (x_df G__law_draw shp_sh hr (by decide) (by rfl) (takes_of rfl rfl rfl rfl) (a_cons (x_var (i := 0) rfl (by first | exact .inl rfl | exact .inr (.inl rfl) | exact .inr (.inr rfl))) (a_cons x_int a_nil)))) (a_cons (x_op (ops_sub rfl) (x_op (ops_pow rfl) x_int x_int) x_int) (a_cons (x_op (ops_add rfl) x_int (x_df G__law_draw shp_sh hr (by decide) (by rfl) (takes_of rfl rfl rfl rfl) (a_cons (x_var (i := 0) rfl (by first | exact .inl rfl | exact .inr (.inl rfl) | exact .inr (.inr rfl))) (a_cons (x_op (ops_pow rfl) x_int x_int) a_nil)))) a_nil))))) a_nil))))))))
    (ss_one (s_frzT (i := 1) (s_ret (x_var (i := 1) rfl (by first | exact .inl rfl | exact .inr (.inl rfl) | exact .inr (.inr rfl)))))))))
end
def pic__law_text : Sy := (sSeq (sSet 1 (eLst aNil))
    (sSeq (sFor (iSq (eUn dSortSet (eNew (lComp [4] (iDt (eVar 0)) (gN 4) tYesD (eCall dStr (aCons (eIx (eVar 4) (eC (.int 0))) aNil)))))) (gN 2)
    (sFor (iSq (eUn dSortSet (eNew (lComp [4] (iDt (eVar 0)) (gN 4) (tAd (tVal (eBin dEq (eIx (eVar 4) (eC (.int 0))) (eVar 2))) (tVal (eBin dGt (eDixT (eVar 0) (eVar 4)) (eC (.int 0))))) (eCall dStr (aCons (eIx (eVar 4) (eC (.int 1))) aNil)))))) (gN 3)
    (sSet 1 (eBin dAdd (eVar 1) (eLst (aCons (eVar 2) (aCons (eVar 3) (aCons (eCall dStr (aCons (eDixT (eVar 0) (eTup (aCons (eVar 2) (aCons (eVar 3) aNil)))) aNil)) aNil))))))))
    (sRet (eIf (tVal (eBin dNe (eVar 1) (eLst aNil))) (eM1 dJoin (eC (.str " ")) (eVar 1)) (eC (.str "none"))))))
def sh__law_text : List D → Store → R D := runD 1 4 pic__law_text
section
variable {w : World} {K : PySem.W.Frag} {mg : Str → Option Value} {base : Heap}
theorem df__law_text (T : Tx K mg) : Df PP w K mg base "_law_text" 1 ["_law_told"] (spSh K sh__law_text) := by
  obtain ⟨f, F, hm⟩ := T.d__law_text
  exact df_sh (f := pic__law_text) F hm sc__law_text (fun _ _ _ _ _ _ us hl => match us, hl with | [_], _ => rfl) rfl rfl (fun _ => trivial) (fun cdv A outer s H E hr => (ss_cons (s_set (i := 1) sc__law_text.nd rfl (by first | exact .inl rfl | exact .inr rfl) (x_lst a_nil))
    (ss_cons (s_for (us := [2]) (passes_of rfl) rfl (i_seq rfl (x_sortSet rfl rfl (by rfl) T.n_sorted (by rfl) T.n_set (x_new (f_comp (own := [("_law_key", 4)]) rfl sc__law_text.nd (i_dt rfl (x_var (i := 0) rfl (by first | exact .inl rfl | exact .inr (.inl rfl) | exact .inr (.inr rfl)))) (blkOk_by (N := ["_law_told", "_law_words", "_law_kind", "_law_bay", "_law_key"]) (sc := defScope s__law_text) (by decide +kernel)) (fun _ _ _ _ _ => (g_name (i := 4) sc__law_text.nd rfl (by first | exact .inl rfl | exact .inr rfl))) (fun _ _ _ _ _ => ts_nil) (fun _ _ _ _ _ => (x_callT calls_str (by rfl) T.n_str (by decide +kernel) (a_cons (x_ix rfl (x_var (i := 4) rfl (by first | exact .inl rfl | exact .inr (.inl rfl) | exact .inr (.inr rfl))) x_int (fun _ _ => rfl)) a_nil))))))) (g_name (i := 2) sc__law_text.nd rfl (by first | exact .inl rfl | exact .inr rfl))
    (ss_one (s_for (us := [3]) (passes_of rfl) rfl (i_seq rfl (x_sortSet rfl rfl (by rfl) T.n_sorted (by rfl) T.n_set (x_new (f_comp (own := [("_law_key", 4)]) rfl sc__law_text.nd (i_dt rfl (x_var (i := 0) rfl (by first | exact .inl rfl | exact .inr (.inl rfl) | exact .inr (.inr rfl)))) (blkOk_by (N := ["_law_told", "_law_words", "_law_kind", "_law_bay", "_law_key"]) (sc := defScope s__law_text) (by decide +kernel)) (fun _ _ _ _ _ => (g_name (i := 4) sc__law_text.nd rfl (by first | exact .inl rfl | exact .inr rfl))) (fun _ _ _ _ _ => (ts_one (w_pt (w_and (t_cmp (ops_eqP rfl (room64 hr)) (x_ix rfl (x_var (i := 4) rfl (by first | exact .inl rfl | exact .inr (.inl rfl) | exact .inr (.inr rfl))) x_int (fun _ _ => rfl)) (x_var (i := 2) rfl (by first | exact .inl rfl | exact .inr (.inl rfl) | exact .inr (.inr rfl))) (nomark _)) (w_and1 (t_cmp (ops_gt rfl) (x_dixT rfl (room65 hr) (x_var (i := 0) rfl (by first | exact .inl rfl | exact .inr (.inl rfl) | exact .inr (.inr rfl))) (x_var (i := 4) rfl (by first | exact .inl rfl | exact .inr (.inl rfl) | exact .inr (.inr rfl))) (fun _ _ => rfl)) x_int (nomark _))))))) (fun _ _ _ _ _ => (x_callT calls_str (by rfl) T.n_str (by decide +kernel) (a_cons (x_ix rfl (x_var (i := 4) rfl (by first | exact .inl rfl | exact .inr (.inl rfl) | exact .inr (.inr rfl))) x_int (fun _ _ => rfl)) a_nil))))))) (g_name (i := 3) sc__law_text.nd rfl (by first | exact .inl rfl | exact .inr rfl))
    (ss_one (s_set (i := 1) sc__law_text.nd rfl (by first | exact .inl rfl | exact .inr rfl) (x_op (ops_add rfl) (x_var (i := 1) rfl (by first | exact .inl rfl | exact .inr (.inl rfl) | exact .inr (.inr rfl))) (x_lst (a_cons (x_var (i := 2) rfl (by first | exact .inl rfl | exact .inr (.inl rfl) | exact .inr (.inr rfl))) (a_cons (x_var (i := 3) rfl (by first | exact .inl rfl | exact .inr (.inl rfl) | exact .inr (.inr rfl))) (a_cons (x_callT calls_str (by rfl) T.n_str (by decide +kernel) (a_cons (x_dixT rfl (room65 hr) (x_var (i := 0) rfl (by first | exact .inl rfl | exact .inr (.inl rfl) | exact .inr (.inr rfl))) (x_tup (a_cons (x_var (i := 2) rfl (by first | exact .inl rfl | exact .inr (.inl rfl) | exact .inr (.inr rfl))) (a_cons (x_var (i := 3) rfl (by first | exact .inl rfl | exact .inr (.inl rfl) | exact .inr (.inr rfl))) a_nil))) (fun _ _ => rfl)) a_nil)) a_nil))))))))))
    (ss_one (s_ret (x_if (t_cmp (ops_neP rfl (room64 hr)) (x_var (i := 1) rfl (by first | exact .inl rfl | exact .inr (.inl rfl) | exact .inr (.inr rfl))) (x_lst a_nil) (nomark _)) (x_m1 PySem.F.slot_str_join PySem.F.type_str_join (mts_join rfl) x_str (x_var (i := 1) rfl (by first | exact .inl rfl | exact .inr (.inl rfl) | exact .inr (.inr rfl)))) x_str))))))
end
def pic__law_bent_w : Sy := (sSeq (sIf (tVal (eBin dEq (eVar 2) (eC (.int 0))))
    (sRet (eBin dAdd (eBin dAdd (eSl (eVar 1) pNo (pSo (eVar 3))) (eLst (aCons (eVar 5) aNil))) (eSl (eVar 1) (pSo (eVar 3)) pNo)))
    sNil)
    (sSeq (sIf (tVal (eBin dEq (eVar 2) (eC (.int 1))))
    (sRet (eBin dAdd (eSl (eVar 1) pNo (pSo (eVar 3))) (eSl (eVar 1) (pSo (eBin dAdd (eVar 3) (eC (.int 1)))) pNo)))
    sNil)
    (sSeq (sIf (tOo (tVal (eBin dEq (eVar 2) (eC (.int 2)))) (tVal (eBin dEq (eVar 3) (eCall dLen (aCons (eVar 1) aNil)))))
    (sRet (eBin dAdd (eBin dAdd (eSl (eVar 1) pNo (pSo (eVar 3))) (eLst (aCons (eVar 5) aNil))) (eSl (eVar 1) (pSo (eBin dAdd (eVar 3) (eC (.int 1)))) pNo)))
    sNil)
    (sSeq (sIf (tVal (eBin dEq (eVar 2) (eC (.int 3))))
    (sRet (eBin dAdd (eSl (eVar 1) (pSo (eVar 3)) pNo) (eSl (eVar 1) pNo (pSo (eVar 3)))))
    sNil)
    (sRet (eBin dAdd (eBin dAdd (eSl (eVar 1) pNo (pSo (eVar 3))) (eLst (aCons (eBin dAdd (eIx (eVar 1) (eVar 3)) (eDf sh__law_pick (aCons (eVar 0) (aCons (eLst (aCons (eC (.str " ")) (aCons (eC (.str "0")) (aCons (eC (.str "z")) aNil)))) aNil)))) aNil))) (eSl (eVar 1) (pSo (eBin dAdd (eVar 3) (eC (.int 1)))) pNo)))))))
def pic__law_bent : Sy := (sSeq (sPar 2 3 (aCons (eDf sh__law_draw (aCons (eVar 0) (aCons (eC (.int 5)) aNil))) (aCons (eDf sh__law_draw (aCons (eVar 0) (aCons (eBin dAdd (eCall dLen (aCons (eVar 1) aNil)) (eC (.int 1))) aNil))) aNil)))
    (sSeq (sSet 4 (eLst (aCons (eC (.str "")) (aCons (eC (.str "none")) (aCons (eC (.str "0")) (aCons (eC (.str "7")) (aCons (eC (.str "07")) (aCons (eC (.str "+3")) (aCons (eC (.str "-1")) (aCons (eC (.str "B")) (aCons (eC (.str "abcdefghi")) (aCons (eBin dMulS (eC (.str "9")) (eC (.int 60))) (aCons (eBin dAdd (eC (.str "1")) (eBin dMulS (eC (.str "0")) (eC (.int 60)))) (aCons (eC (.str "1_0")) (aCons (eC (.str "a
")) (aCons (eC (.str "a")) (aCons (eC (.str "b")) aNil)))))))))))))))))
    (sSeq (sSet 5 (eDf sh__law_pick (aCons (eVar 0) (aCons (eBin dAdd (eVar 4) (eLst (aCons (eDf sh__law_word (aCons (eVar 0) aNil)) (aCons (eCall dStr (aCons (eBin dAdd (eC (.int 1)) (eDf sh__law_draw (aCons (eVar 0) (aCons (eC (.int 99)) aNil)))) aNil)) aNil)))) aNil))))
    pic__law_bent_w)))
def sh__law_bent : List D → Store → R D := runD 2 4 pic__law_bent
section
variable {w : World} {K : PySem.W.Frag} {mg : Str → Option Value} {base : Heap}
theorem df__law_bent (T : Tx K mg) : Df PP w K mg base "_law_bent" 4 ["_law_pen_here", "_law_words"] (spSh K sh__law_bent) := by
  have G__law_pick : Df PP w K mg base "_law_pick" 2 _ _ := df__law_pick T
  have G__law_draw : Df PP w K mg base "_law_draw" 1 _ _ := df__law_draw T
  have G__law_word : Df PP w K mg base "_law_word" 3 _ _ := df__law_word T
  obtain ⟨f, F, hm⟩ := T.d__law_bent
  exact df_sh (f := pic__law_bent) F hm sc__law_bent (fun _ _ _ _ _ _ us hl => match us, hl with | [_, _], _ => rfl) rfl rfl (fun _ => trivial) (fun cdv A outer s H E hr => (ss_cons (s_par (i := 2) (j := 3) rfl sc__law_bent.nd rfl rfl (by decide) rfl rfl (a_cons (x_df G__law_draw shp_sh hr (by decide) (by rfl) (takes_of rfl rfl rfl rfl) (a_cons (x_var (i := 0) rfl (by first | exact .inl rfl | exact .inr (.inl rfl) | exact .inr (.inr rfl))) (a_cons x_int a_nil))) (a_cons (x_df G__law_draw shp_sh hr (by decide) (by rfl) (takes_of rfl rfl rfl rfl) (a_cons (x_var (i := 0) rfl (by first | exact .inl rfl | exact .inr (.inl rfl) | exact .inr (.inr rfl))) (a_cons (x_op (ops_add rfl) (x_callB (calls_len rfl) (by rfl) T.n_len (by decide +kernel) (a_cons (x_var (i := 1) rfl (by first | exact .inl rfl | exact .inr (.inl rfl) | exact .inr (.inr rfl))) a_nil)) x_int) a_nil))) a_nil)) (by rfl))
    (ss_cons (s_set (i := 4) sc__law_bent.nd rfl (by first | exact .inl rfl | exact .inr rfl) (x_lst (a_cons x_str (a_cons x_str (a_cons x_str (a_cons x_str (a_cons x_str (a_cons x_str (a_cons x_str (a_cons x_str (a_cons x_str (a_cons (x_op ops_mulS x_str x_int) (a_cons (x_op (ops_add rfl) x_str (x_op ops_mulS x_str x_int)) (a_cons x_str (a_cons x_str (a_cons x_str (a_cons x_str a_nil)))))))))))))))))
    (ss_cons (s_set (i := 5) sc__law_bent.nd rfl (by first | exact .inl rfl | exact .inr rfl) (x_df G__law_pick shp_sh hr (by decide) (by rfl) (takes_of rfl rfl rfl rfl) (a_cons (x_var (i := 0) rfl (by first | exact .inl rfl | exact .inr (.inl rfl) | exact .inr (.inr rfl))) (a_cons (x_op (ops_add rfl) (x_var (i := 4) rfl (by first | exact .inl rfl | exact .inr (.inl rfl) | exact .inr (.inr rfl))) (x_lst (a_cons (x_df G__law_word shp_sh hr (by decide) (by rfl) (takes_of rfl rfl rfl rfl) (a_cons (x_var (i := 0) rfl (by first | exact .inl rfl | exact .inr (.inl rfl) | exact .inr (.inr rfl))) a_nil)) (a_cons (x_callT calls_str (by rfl) T.n_str (by decide +kernel) (a_cons (x_op (ops_add rfl) x_int (x_df G__law_draw shp_sh hr (by decide) (by rfl) (takes_of rfl rfl rfl rfl) (a_cons (x_var (i := 0) rfl (by first | exact .inl rfl | exact .inr (.inl rfl) | exact .inr (.inr rfl))) (a_cons x_int a_nil)))) a_nil)) a_nil)))) a_nil))))
    (ss_cons (s_if (t_cmp (ops_eqP rfl (room64 hr)) (x_var (i := 2) rfl (by first | exact .inl rfl | exact .inr (.inl rfl) | exact .inr (.inr rfl))) x_int (nomark _))
    (ss_one (s_ret (x_op (ops_add rfl) (x_op (ops_add rfl) (x_sl rfl (x_var (i := 1) rfl (by first | exact .inl rfl | exact .inr (.inl rfl) | exact .inr (.inr rfl))) p_no (p_so (x_var (i := 3) rfl (by first | exact .inl rfl | exact .inr (.inl rfl) | exact .inr (.inr rfl))))) (x_lst (a_cons (x_var (i := 5) rfl (by first | exact .inl rfl | exact .inr (.inl rfl) | exact .inr (.inr rfl))) a_nil))) (x_sl rfl (x_var (i := 1) rfl (by first | exact .inl rfl | exact .inr (.inl rfl) | exact .inr (.inr rfl))) (p_so (x_var (i := 3) rfl (by first | exact .inl rfl | exact .inr (.inl rfl) | exact .inr (.inr rfl)))) p_no))))
    ss_nil)
    (ss_cons (s_if (t_cmp (ops_eqP rfl (room64 hr)) (x_var (i := 2) rfl (by first | exact .inl rfl | exact .inr (.inl rfl) | exact .inr (.inr rfl))) x_int (nomark _))
    (ss_one (s_ret (x_op (ops_add rfl) (x_sl rfl (x_var (i := 1) rfl (by first | exact .inl rfl | exact .inr (.inl rfl) | exact .inr (.inr rfl))) p_no (p_so (x_var (i := 3) rfl (by first | exact .inl rfl | exact .inr (.inl rfl) | exact .inr (.inr rfl))))) (x_sl rfl (x_var (i := 1) rfl (by first | exact .inl rfl | exact .inr (.inl rfl) | exact .inr (.inr rfl))) (p_so (x_op (ops_add rfl) (x_var (i := 3) rfl (by first | exact .inl rfl | exact .inr (.inl rfl) | exact .inr (.inr rfl))) x_int)) p_no))))
    ss_nil)
    (ss_cons (s_if (w_pt (w_or (t_cmp (ops_eqP rfl (room64 hr)) (x_var (i := 2) rfl (by first | exact .inl rfl | exact .inr (.inl rfl) | exact .inr (.inr rfl))) x_int (nomark _)) (w_or1 (t_cmp (ops_eqP rfl (room64 hr)) (x_var (i := 3) rfl (by first | exact .inl rfl | exact .inr (.inl rfl) | exact .inr (.inr rfl))) (x_callB (calls_len rfl) (by rfl) T.n_len (by decide +kernel) (a_cons (x_var (i := 1) rfl (by first | exact .inl rfl | exact .inr (.inl rfl) | exact .inr (.inr rfl))) a_nil)) (nomark _)))))
    (ss_one (s_ret (x_op (ops_add rfl) (x_op (ops_add rfl) (x_sl rfl (x_var (i := 1) rfl (by first | exact .inl rfl | exact .inr (.inl rfl) | exact .inr (.inr rfl))) p_no (p_so (x_var (i := 3) rfl (by first | exact .inl rfl | exact .inr (.inl rfl) | exact .inr (.inr rfl))))) (x_lst (a_cons (x_var (i := 5) rfl (by first | exact .inl rfl | exact .inr (.inl rfl) | exact .inr (.inr rfl))) a_nil))) (x_sl rfl (x_var (i := 1) rfl (by first | exact .inl rfl | exact .inr (.inl rfl) | exact .inr (.inr rfl))) (p_so (x_op (ops_add rfl) (x_var (i := 3) rfl (by first | exact .inl rfl | exact .inr (.inl rfl) | exact .inr (.inr rfl))) x_int)) p_no))))
    ss_nil)
    (ss_cons (s_if (t_cmp (ops_eqP rfl (room64 hr)) (x_var (i := 2) rfl (by first | exact .inl rfl | exact .inr (.inl rfl) | exact .inr (.inr rfl))) x_int (nomark _))
    (ss_one (s_ret (x_op (ops_add rfl) (x_sl rfl (x_var (i := 1) rfl (by first | exact .inl rfl | exact .inr (.inl rfl) | exact .inr (.inr rfl))) (p_so (x_var (i := 3) rfl (by first | exact .inl rfl | exact .inr (.inl rfl) | exact .inr (.inr rfl)))) p_no) (x_sl rfl (x_var (i := 1) rfl (by first | exact .inl rfl | exact .inr (.inl rfl) | exact .inr (.inr rfl))) p_no (p_so (x_var (i := 3) rfl (by first | exact .inl rfl | exact .inr (.inl rfl) | exact .inr (.inr rfl))))))))
    ss_nil)
    (ss_one (s_ret (x_op (ops_add rfl) (x_op (ops_add rfl) (x_sl rfl (x_var (i := 1) rfl (by first | exact .inl rfl | exact .inr (.inl rfl) | exact .inr (.inr rfl))) p_no (p_so (x_var (i := 3) rfl (by first | exact .inl rfl | exact .inr (.inl rfl) | exact .inr (.inr rfl))))) (x_lst (a_cons (x_op (ops_add rfl) (x_ix rfl (x_var (i := 1) rfl (by first | exact .inl rfl | exact .inr (.inl rfl) | exact .inr (.inr rfl))) (x_var (i := 3) rfl (by first | exact .inl rfl | exact .inr (.inl rfl) | exact .inr (.inr rfl))) (fun _ _ => rfl)) (x_df G__law_pick shp_sh hr (by decide) (by rfl) (takes_of rfl rfl rfl rfl) (a_cons (x_var (i := 0) rfl (by first | exact .inl rfl | exact .inr (.inl rfl) | exact .inr (.inr rfl))) (a_cons (x_lst (a_cons x_str (a_cons x_str (a_cons x_str a_nil)))) a_nil)))) a_nil))) (x_sl rfl (x_var (i := 1) rfl (by first | exact .inl rfl | exact .inr (.inl rfl) | exact .inr (.inr rfl))) (p_so (x_op (ops_add rfl) (x_var (i := 3) rfl (by first | exact .inl rfl | exact .inr (.inl rfl) | exact .inr (.inr rfl))) x_int)) p_no))))))))))))
end
def pic__law_is_name : Sy := (sRet (eAd (eChain dLe dLe (eC (.int 1)) (eCall dLen (aCons (eVar 0) aNil)) (eC (.int 8))) (eBin dEq (eNew (lComp [1] (iSq (eVar 0)) (gN 1) (tVal (eBin dNin (eVar 1) (eC (.str "abcdefghijklmnopqrstuvwxyz")))) (eVar 1))) (eLst aNil))))
def sh__law_is_name : List D → Store → R D := runD 1 1 pic__law_is_name
section
variable {w : World} {K : PySem.W.Frag} {mg : Str → Option Value} {base : Heap}
theorem df__law_is_name (T : Tx K mg) : Df PP w K mg base "_law_is_name" 1 ["_law_word_here"] (spSh K sh__law_is_name) := by
  obtain ⟨f, F, hm⟩ := T.d__law_is_name
  exact df_sh (f := pic__law_is_name) F hm sc__law_is_name (fun _ _ _ _ _ _ us hl => match us, hl with | [_], _ => rfl) rfl rfl (fun _ => trivial) (fun cdv A outer s H E hr => (ss_one (s_ret (x_and (x_chain (ops_le rfl) (ops_le rfl) x_int (x_callB (calls_len rfl) (by rfl) T.n_len (by decide +kernel) (a_cons (x_var (i := 0) rfl (by first | exact .inl rfl | exact .inr (.inl rfl) | exact .inr (.inr rfl))) a_nil)) x_int) (x_one (x_cmp (ops_eqP rfl (room64 hr)) (x_new (f_comp (own := [("_law_sign", 1)]) rfl sc__law_is_name.nd (i_seq rfl (x_var (i := 0) rfl (by first | exact .inl rfl | exact .inr (.inl rfl) | exact .inr (.inr rfl)))) (blkOk_by (N := ["_law_word_here", "_law_sign"]) (sc := defScope s__law_is_name) (by decide +kernel)) (fun _ _ _ _ _ => (g_name (i := 1) sc__law_is_name.nd rfl (by first | exact .inl rfl | exact .inr rfl))) (fun _ _ _ _ _ => (ts_one (t_cmp (ops_nin rfl (room65 hr)) (x_var (i := 1) rfl (by first | exact .inl rfl | exact .inr (.inl rfl) | exact .inr (.inr rfl))) x_str rfl))) (fun _ _ _ _ _ => (x_var (i := 1) rfl (by first | exact .inl rfl | exact .inr (.inl rfl) | exact .inr (.inr rfl)))))) (x_lst a_nil) (nomark _)))))))
end
def pic__law_is_number : Sy := (sSeq (sIf (tVal (eBin dNe (eNew (lComp [1] (iSq (eVar 0)) (gN 1) (tVal (eBin dNin (eVar 1) (eC (.str "0123456789")))) (eVar 1))) (eLst aNil)))
    (sRet (eC (.bl false)))
    sNil)
    (sRet (eAd (eChain dLe dLe (eC (.int 1)) (eCall dLen (aCons (eVar 0) aNil)) (eC (.int 60))) (eBin dNe (eIx (eVar 0) (eC (.int 0))) (eC (.str "0"))))))
def sh__law_is_number : List D → Store → R D := runD 1 1 pic__law_is_number
section
variable {w : World} {K : PySem.W.Frag} {mg : Str → Option Value} {base : Heap}
theorem df__law_is_number (T : Tx K mg) : Df PP w K mg base "_law_is_number" 1 ["_law_word_here"] (spSh K sh__law_is_number) := by
  obtain ⟨f, F, hm⟩ := T.d__law_is_number
  exact df_sh (f := pic__law_is_number) F hm sc__law_is_number (fun _ _ _ _ _ _ us hl => match us, hl with | [_], _ => rfl) rfl rfl (fun _ => trivial) (fun cdv A outer s H E hr => (ss_cons (s_if (t_cmp (ops_neP rfl (room64 hr)) (x_new (f_comp (own := [("_law_sign", 1)]) rfl sc__law_is_number.nd (i_seq rfl (x_var (i := 0) rfl (by first | exact .inl rfl | exact .inr (.inl rfl) | exact .inr (.inr rfl)))) (blkOk_by (N := ["_law_word_here", "_law_sign"]) (sc := defScope s__law_is_number) (by decide +kernel)) (fun _ _ _ _ _ => (g_name (i := 1) sc__law_is_number.nd rfl (by first | exact .inl rfl | exact .inr rfl))) (fun _ _ _ _ _ => (ts_one (t_cmp (ops_nin rfl (room65 hr)) (x_var (i := 1) rfl (by first | exact .inl rfl | exact .inr (.inl rfl) | exact .inr (.inr rfl))) x_str rfl))) (fun _ _ _ _ _ => (x_var (i := 1) rfl (by first | exact .inl rfl | exact .inr (.inl rfl) | exact .inr (.inr rfl)))))) (x_lst a_nil) (nomark _))
    (ss_one (s_ret x_bl))
    ss_nil)
    (ss_one (s_ret (x_and (x_chain (ops_le rfl) (ops_le rfl) x_int (x_callB (calls_len rfl) (by rfl) T.n_len (by decide +kernel) (a_cons (x_var (i := 0) rfl (by first | exact .inl rfl | exact .inr (.inl rfl) | exact .inr (.inr rfl))) a_nil)) x_int) (x_one (x_cmp (ops_neP rfl (room64 hr)) (x_ix rfl (x_var (i := 0) rfl (by first | exact .inl rfl | exact .inr (.inl rfl) | exact .inr (.inr rfl))) x_int (fun _ _ => rfl)) x_str (nomark _))))))))
end
def pic__law_due_b2 : Sy := (sSeq (sSet 3 (eTup (aCons (eIx (eVar 1) (eVar 4)) (aCons (eIx (eVar 1) (eBin dAdd (eVar 4) (eC (.int 1)))) aNil))))
    (sDsOT 2 (eVar 3) (eCall dIntS (aCons (eIx (eVar 1) (eBin dAdd (eVar 4) (eC (.int 2)))) aNil))))
def pic__law_due_b1 : Sy := (sSeq (sIf (tOo (tVal (eBin dEq (eBin dAdd (eVar 4) (eC (.int 1))) (eCall dLen (aCons (eVar 1) aNil)))) (tNt (tVal (eDf sh__law_is_name (aCons (eIx (eVar 1) (eBin dAdd (eVar 4) (eC (.int 1)))) aNil)))))
    (sRet (eBin dAdd (eVar 4) (eC (.int 1))))
    sNil)
    (sSeq (sIf (tOo (tVal (eBin dLt (eIx (eVar 1) (eVar 4)) (eIx (eVar 3) (eC (.int 0))))) (tAd (tVal (eBin dEq (eIx (eVar 1) (eVar 4)) (eIx (eVar 3) (eC (.int 0))))) (tVal (eBin dLe (eIx (eVar 1) (eBin dAdd (eVar 4) (eC (.int 1)))) (eIx (eVar 3) (eC (.int 1)))))))
    (sRet (eBin dAdd (eVar 4) (eC (.int 1))))
    sNil)
    (sSeq (sIf (tOo (tVal (eBin dEq (eBin dAdd (eVar 4) (eC (.int 2))) (eCall dLen (aCons (eVar 1) aNil)))) (tNt (tVal (eDf sh__law_is_number (aCons (eIx (eVar 1) (eBin dAdd (eVar 4) (eC (.int 2)))) aNil)))))
    (sRet (eBin dAdd (eVar 4) (eC (.int 2))))
    sNil)
    pic__law_due_b2)))
def pic__law_due_b : Sy := (sSeq (sIf (tNt (tVal (eDf sh__law_is_name (aCons (eIx (eVar 1) (eVar 4)) aNil))))
    (sRet (eVar 4))
    sNil)
    pic__law_due_b1)
def pic__law_due : Sy := (sSeq (sPar3T 1 2 3 (eM1 dSplit (eVar 0) (eC (.str " "))) kNilT (eTup (aCons (eC (.str "")) (aCons (eC (.str "")) aNil))))
    (sSeq (sIf (tVal (eBin dEq (eVar 1) (eLst (aCons (eC (.str "none")) aNil))))
    (sFrzT 2 (sRet (eVar 2)))
    sNil)
    (sSeq (sFor (iRng3 (aCons (eC (.int 0)) (aCons (eCall dLen (aCons (eVar 1) aNil)) (aCons (eC (.int 3)) aNil)))) (gN 4)
    pic__law_due_b)
    (sFrzT 2 (sRet (eVar 2))))))
def sh__law_due : List D → Store → R D := runD 1 4 pic__law_due
section
variable {w : World} {K : PySem.W.Frag} {mg : Str → Option Value} {base : Heap}
theorem df__law_due (T : Tx K mg) : Df PP w K mg base "_law_due" 2 ["_law_line"] (spSh K sh__law_due) := by
  have G__law_is_number : Df PP w K mg base "_law_is_number" 1 _ _ := df__law_is_number T
  have G__law_is_name : Df PP w K mg base "_law_is_name" 1 _ _ := df__law_is_name T
  obtain ⟨f, F, hm⟩ := T.d__law_due
  exact df_sh (f := pic__law_due) F hm sc__law_due (fun _ _ _ _ _ _ us hl => match us, hl with | [_], _ => rfl) rfl rfl (fun _ => trivial) (fun cdv A outer s H E hr => (ss_cons (s_par3T (i := 1) (j := 2) (l := 3) rfl sc__law_due.nd rfl rfl rfl (by decide) (by decide) (by decide) rfl rfl rfl (x_m1 PySem.F.slot_str_split PySem.F.type_str_split mts_split (x_var (i := 0) rfl (by first | exact .inl rfl | exact .inr (.inl rfl) | exact .inr (.inr rfl))) x_str) ft_nil (x_tup (a_cons x_str (a_cons x_str a_nil))) (by rfl))
    (ss_cons (s_if (t_cmp (ops_eqP rfl (room64 hr)) (x_var (i := 1) rfl (by first | exact .inl rfl | exact .inr (.inl rfl) | exact .inr (.inr rfl))) (x_lst (a_cons x_str a_nil)) (nomark _))
    (ss_one (s_frzT (i := 2) (s_ret (x_var (i := 2) rfl (by first | exact .inl rfl | exact .inr (.inl rfl) | exact .inr (.inr rfl))))))
    ss_nil)
    (ss_cons (s_for (us := [4]) (passes_of rfl) rfl (i_rng3 (by rfl) T.n_range (a_cons x_int (a_cons (x_callB (calls_len rfl) (by rfl) T.n_len (by decide +kernel) (a_cons (x_var (i := 1) rfl (by first | exact .inl rfl | exact .inr (.inl rfl) | exact .inr (.inr rfl))) a_nil)) (a_cons x_int a_nil)))) (g_name (i := 4) sc__law_due.nd rfl (by first | exact .inl rfl | exact .inr rfl))
    (ss_cons (s_if (t_not (t_val (x_df G__law_is_name shp_sh hr (by decide) (by rfl) (takes_of rfl rfl rfl rfl) (a_cons (x_ix rfl (x_var (i := 1) rfl (by first | exact .inl rfl | exact .inr (.inl rfl) | exact .inr (.inr rfl))) (x_var (i := 4) rfl (by first | exact .inl rfl | exact .inr (.inl rfl) | exact .inr (.inr rfl))) (fun _ _ => rfl)) a_nil))))
    (ss_one (s_ret (x_var (i := 4) rfl (by first | exact .inl rfl | exact .inr (.inl rfl) | exact .inr (.inr rfl)))))
    ss_nil)
    (ss_cons (s_if (w_pt (w_or (t_cmp (ops_eqP rfl (room64 hr)) (x_op (ops_add rfl) (x_var (i := 4) rfl (by first | exact .inl rfl | exact .inr (.inl rfl) | exact .inr (.inr rfl))) x_int) (x_callB (calls_len rfl) (by rfl) T.n_len (by decide +kernel) (a_cons (x_var (i := 1) rfl (by first | exact .inl rfl | exact .inr (.inl rfl) | exact .inr (.inr rfl))) a_nil)) (nomark _)) (w_or1 (t_not (t_val (x_df G__law_is_name shp_sh hr (by decide) (by rfl) (takes_of rfl rfl rfl rfl) (a_cons (x_ix rfl (x_var (i := 1) rfl (by first | exact .inl rfl | exact .inr (.inl rfl) | exact .inr (.inr rfl))) (x_op (ops_add rfl) (x_var (i := 4) rfl (by first | exact .inl rfl | exact .inr (.inl rfl) | exact .inr (.inr rfl))) x_int) (fun _ _ => rfl)) a_nil)))))))
    (ss_one (s_ret (x_op (ops_add rfl) (x_var (i := 4) rfl (by first | exact .inl rfl | exact .inr (.inl rfl) | exact .inr (.inr rfl))) x_int)))
    ss_nil)
    (ss_cons (s_if (w_pt (w_or (t_cmp (ops_lt rfl) (x_ix rfl (x_var (i := 1) rfl (by first | exact .inl rfl | exact .inr (.inl rfl) | exact .inr (.inr rfl))) (x_var (i := 4) rfl (by first | exact .inl rfl | exact .inr (.inl rfl) | exact .inr (.inr rfl))) (fun _ _ => rfl)) (x_ix rfl (x_var (i := 3) rfl (by first | exact .inl rfl | exact .inr (.inl rfl) | exact .inr (.inr rfl))) x_int (fun _ _ => rfl)) (nomark _)) (w_or1 (w_pt (w_and (t_cmp (ops_eqP rfl (room64 hr)) (x_ix rfl (x_var (i := 1) rfl (by first | exact .inl rfl | exact .inr (.inl rfl) | exact .inr (.inr rfl))) (x_var (i := 4) rfl (by first | exact .inl rfl | exact .inr (.inl rfl) | exact .inr (.inr rfl))) (fun _ _ => rfl)) (x_ix rfl (x_var (i := 3) rfl (by first | exact .inl rfl | exact .inr (.inl rfl) | exact .inr (.inr rfl))) x_int (fun _ _ => rfl)) (nomark _)) (w_and1 (t_cmp (ops_le rfl) (x_ix rfl (x_var (i := 1) rfl (by first | exact .inl rfl | exact .inr (.inl rfl) | exact .inr (.inr rfl))) (x_op (ops_add rfl) (x_var (i := 4) rfl (by first | exact .inl rfl | exact .inr (.inl rfl) | exact .inr (.inr rfl))) x_int) (fun _ _ => rfl)) (x_ix rfl (x_var (i := 3) rfl (by first | exact .inl rfl | exact .inr (.inl rfl) | exact .inr (.inr rfl))) x_int (fun _ _ => rfl)) (nomark _))))))))
    (ss_one (s_ret (x_op (ops_add rfl) (x_var (i := 4) rfl (by first | exact .inl rfl | exact .inr (.inl rfl) | exact .inr (.inr rfl))) x_int)))
    ss_nil)
    (ss_cons (s_if (w_pt (w_or (t_cmp (ops_eqP rfl (room64 hr)) (x_op (ops_add rfl) (x_var (i := 4) rfl (by first | exact .inl rfl | exact .inr (.inl rfl) | exact .inr (.inr rfl))) x_int) (x_callB (calls_len rfl) (by rfl) T.n_len (by decide +kernel) (a_cons (x_var (i := 1) rfl (by first | exact .inl rfl | exact .inr (.inl rfl) | exact .inr (.inr rfl))) a_nil)) (nomark _)) (w_or1 (t_not (t_val (x_df G__law_is_number shp_sh hr (by decide) (by rfl) (takes_of rfl rfl rfl rfl) (a_cons (x_ix rfl (x_var (i := 1) rfl (by first | exact .inl rfl | exact .inr (.inl rfl) | exact .inr (.inr rfl))) (x_op (ops_add rfl) (x_var (i := 4) rfl (by first | exact .inl rfl | exact .inr (.inl rfl) | exact .inr (.inr rfl))) x_int) (fun _ _ => rfl)) a_nil)))))))
    (ss_one (s_ret (x_op (ops_add rfl) (x_var (i := 4) rfl (by first | exact .inl rfl | exact .inr (.inl rfl) | exact .inr (.inr rfl))) x_int)))
    ss_nil)
    (ss_cons (s_set (i := 3) sc__law_due.nd rfl (by first | exact .inl rfl | exact .inr rfl) (x_tup (a_cons (x_ix rfl (x_var (i := 1) rfl (by first | exact .inl rfl | exact .inr (.inl rfl) | exact .inr (.inr rfl))) (x_var (i := 4) rfl (by first | exact .inl rfl | exact .inr (.inl rfl) | exact .inr (.inr rfl))) (fun _ _ => rfl)) (a_cons (x_ix rfl (x_var (i := 1) rfl (by first | exact .inl rfl | exact .inr (.inl rfl) | exact .inr (.inr rfl))) (x_op (ops_add rfl) (x_var (i := 4) rfl (by first | exact .inl rfl | exact .inr (.inl rfl) | exact .inr (.inr rfl))) x_int) (fun _ _ => rfl)) a_nil))))
    (ss_one (s_dsOT (i := 2) rfl (room65 hr) rfl (by first | exact .inl rfl | exact .inr (.inl rfl) | exact .inr (.inr rfl)) (x_var (i := 3) rfl (by first | exact .inl rfl | exact .inr (.inl rfl) | exact .inr (.inr rfl))) (x_callT calls_intS (by rfl) T.n_int (by decide +kernel) (a_cons (x_ix rfl (x_var (i := 1) rfl (by first | exact .inl rfl | exact .inr (.inl rfl) | exact .inr (.inr rfl))) (x_op (ops_add rfl) (x_var (i := 4) rfl (by first | exact .inl rfl | exact .inr (.inl rfl) | exact .inr (.inr rfl))) x_int) (fun _ _ => rfl)) a_nil))))))))))
    (ss_one (s_frzT (i := 2) (s_ret (x_var (i := 2) rfl (by first | exact .inl rfl | exact .inr (.inl rfl) | exact .inr (.inr rfl))))))))))
end
end Nk
namespace Nk
open PySem PySem.Spec PyProof.Rows L2 Sh
def pic__law_heard (f : Addr) (th : Store → R D) : Sy := (sTryM [([("BadName", false), ("BadNumber", false), ("BadTable", false), ("BadText", true)], some 1, (sRet (eTup (aCons (eC (.str "text")) (aCons (eXf ["BadText"] "line" (eVar 1)) (aCons (eXf ["BadText"] "word" (eVar 1)) aNil)))))),
    ([("BadName", true), ("BadNumber", true), ("BadTable", true), ("BadText", true)], none, (sRet (eTup (aCons (eC (.str "other")) (aCons (eC (.int 0)) (aCons (eC (.int 0)) aNil))))))]
    (sRet (eLst (aCons (eAct f th) aNil))))
def sh__law_heard : Addr → (Store → R D) → Store → R D := runL 1 pic__law_heard
section
variable {w : World} {K : PySem.W.Frag} {mg : Str → Option Value} {base : Heap}
theorem gv__law_heard {X : Cx} (T : Tx X.K X.mg) (hP : X.prog = PP) (hr : Room 1 X.A) {g : Addr} {cdg : Value} {q : Str} : GivesW X ["_law_ask", "error"] "_law_heard" (defScope s__law_heard) g cdg (defBody s__law_heard) "_law_ask" q (TTsh X.K sh__law_heard) := by
  exact gives_sh (k := 1) (fb := pic__law_heard) rfl (fun [BasePred] f th s H act => by
    have hr := hr.deeper (envOfC "_law_heard" (defScope s__law_heard) s.heap.objs.size g cdg)
    exact (ss_one (s_tryM rfl rfl rfl rfl sc__law_heard.nd L2.takes0 (fun W' pn xe tk' po => (ss_one (s_ret (x_lst (a_cons (act _ _ _ _ _ tk') a_nil)))))
    (.named (i := 1) (isa := [("BadName", false), ("BadNumber", false), ("BadTable", false), ("BadText", true)]) (c := .ref (He.ga X.K "BadText")) rfl rfl ⟨rfl, by decide, .inl T.g_BadText⟩ (eo_cons T.exm_BadName_BadText_f (eo_cons T.exm_BadNumber_BadText_f (eo_cons T.exm_BadTable_BadText_f (eo_cons T.exm_BadText_BadText_t eo_nil)))) (fun a pn => (ss_one (s_ret (x_tup (a_cons x_str (a_cons (x_xf (cs := ["BadText"]) rfl (xk_cons T.xf_BadText T.nx_BadText_line xk_nil) (x_var (i := 1) rfl (by first | exact .inl rfl | exact .inr (.inl rfl) | exact .inr (.inr rfl)))) (a_cons (x_xf (cs := ["BadText"]) rfl (xk_cons T.xf_BadText T.nx_BadText_word xk_nil) (x_var (i := 1) rfl (by first | exact .inl rfl | exact .inr (.inl rfl) | exact .inr (.inr rfl)))) a_nil)))))))
    (.bare (isa := [("BadName", true), ("BadNumber", true), ("BadTable", true), ("BadText", true)]) (c := .ref (He.ga X.K "NextError")) ⟨rfl, by decide, .inl T.g_NextError⟩ (eo_cons T.exm_BadName_NextError_t (eo_cons T.exm_BadNumber_NextError_t (eo_cons T.exm_BadTable_NextError_t (eo_cons T.exm_BadText_NextError_t eo_nil)))) (fun a pn => (ss_one (s_ret (x_tup (a_cons x_str (a_cons x_int (a_cons x_int a_nil)))))))
    .nil)))))
end
end Nk
namespace Nk
open PySem PySem.Spec PyProof.Rows L2 Sh
theorem par__law_heard (f : Addr) (th : Store → R D) (S : Store) : sh__law_heard f th S = sh__law_heard 0 th S := by
  unfold sh__law_heard pic__law_heard
  cases h : th S with
  | no => simp_all_arith [h]
  | ok d S1 => simp_all_arith [h]
  | er x S1 =>
    obtain ⟨c, fs⟩ := x
    cases b4 : (c == "BadText") with
    | true =>
      obtain rfl : c = "BadText" := by simpa using b4
      cases o1 : List.lookup (PySem.Str.ofString "line") fs <;> cases o2 : List.lookup (PySem.Str.ofString "word") fs <;> simp_all_arith [h, o1, o2]
    | false =>
      cases b1 : (c == "BadName") <;> cases b2 : (c == "BadNumber") <;> cases b3 : (c == "BadTable") <;> simp_all_arith [h, b1, b2, b3, b4]
end Nk
namespace Nk
open PySem PySem.Spec PyProof.Rows L2 Sh
def pic__law_read_right : Sy := (sSeq (sPar 1 2 (aCons (eDf sh__law_due (aCons (eVar 0) aNil)) (aCons (eLam sh__law_heard (eCm "Standing" sh_Standing_read (eC (.cls "Standing")) (aCons (eVar 0) aNil))) aNil)))
    (sSeq (sIf (tVal (eIsiY ["bool", "int"] [] (eVar 1)))
    (sRet (eBin dEq (eVar 2) (eTup (aCons (eC (.str "text")) (aCons (eC (.int 0)) (aCons (eVar 1) aNil))))))
    sNil)
    (sRet (eAd (eIsi ["list"] [] (eVar 2)) (eAd (eBinE (oOwn false "Standing" [] ["Standing"] sh_Standing_eq) (eIx (eVar 2) (eC (.int 0))) (eMk "Standing" sh_Standing_init (eC (.cls "Standing")) (aCons (eVar 1) aNil))) (eBin dEq (eCallE (cStr "Standing" sh_Standing_str) (aCons (eIx (eVar 2) (eC (.int 0))) aNil)) (eVar 0)))))))
def sh__law_read_right : List D → Store → R D := runD 1 2 pic__law_read_right
section
variable {w : World} {K : PySem.W.Frag} {mg : Str → Option Value} {base : Heap}
theorem dg__law_read_right (T : Tx K mg) (TBS : TBs K base mg) : Dg PP w K mg base "_law_read_right" 10 ["_law_line"] (spSh K sh__law_read_right) := by
  have G_Standing_str : Fo PP w K mg base (He.ma K (He.ga K "Standing") "__str__") 3 _ _ := fo_Standing_str T
  have G_Standing_eq : Fo PP w K mg base (He.ma K (He.ga K "Standing") "__eq__") 1 _ _ := fo_Standing_eq T
  have G_Standing_init : Fo PP w K mg base (He.ma K (He.ga K "Standing") "__init__") 5 _ _ := fo_Standing_init T
  have G_Standing_read : Fo PP w K mg base (cmOf K (He.ga K "Standing") "read") 7 _ _ := fo_Standing_read T
  have G__law_due : Df PP w K mg base "_law_due" 2 _ _ := df__law_due T
  obtain ⟨f0, ⟨fd, F⟩, hm0⟩ := T.d__law_read_right
  have ef := hm0.symm.trans T.g__law_read_right
  cases ef
  refine ⟨_, fd, ?_, hm0, F.kp, F.bindsN (fun _ _ _ _ _ _ us hl => match us, hl with | [_], _ => rfl)⟩
  obtain ⟨g__law_heard, ⟨fd__law_heard, F__law_heard⟩, hm__law_heard⟩ := T.d__law_heard
  have hb__law_heard := FunD.bindsN (ps := ["_law_ask"]) F__law_heard (fun _ _ _ _ _ _ us hl => match us, hl with | [_], _ => rfl)
  have hk__law_heard := F__law_heard.kp
  obtain ⟨oc__law_heard, od__law_heard, dV__law_heard, kV__law_heard, doc__law_heard, pm__law_heard, an__law_heard, cdv__law_heard, ct__law_heard, osl__law_heard, rfl, lk__law_heard, hc__law_heard, _, _⟩ := F__law_heard.ex
  refine fngC_of (p := ("_law_read_right", none)) F sc__law_read_right (fun vs H Q E h => spSh_len h) (fun cdv hcd A outer s H vs Q E hgd hr h => ?_)
  have TB := TBS.tb__law_read_right
  have hcode : (cxOf (L2.CX PP w) PP w K mg base ["_law_line", "_law_due_here", "_law_heard_here"] "_law_read_right" (defScope s__law_read_right) (He.fAd K ("_law_read_right", none)) cdv A outer s H E).env.code = .ref (He.codeOf K ("_law_read_right", none)) := hcd
  have gv__law_heard := gv__law_heard (X := (cxOf (L2.CX PP w) PP w K mg base ["_law_line", "_law_due_here", "_law_heard_here"] "_law_read_right" (defScope s__law_read_right) (He.fAd K ("_law_read_right", none)) cdv A outer s H E)) T rfl (hr.mono (by decide))  (g := g__law_heard) (cdg := cdv__law_heard) (q := "_law_read_right.<locals>.<lambda>")
  have hmT := T.tm__law_read_right
  have hu := T.tu__law_read_right
  refine body_of (f := pic__law_read_right) (fun _ => trivial) rfl ?_ h
  exact (ss_cons (s_par (i := 1) (j := 2) rfl sc__law_read_right.nd rfl rfl (by decide) rfl rfl (a_cons (x_df G__law_due shp_sh hr (by decide) (by rfl) (takes_of rfl rfl rfl rfl) (a_cons (x_var (i := 0) rfl (by first | exact .inl rfl | exact .inr (.inl rfl) | exact .inr (.inr rfl))) a_nil)) (a_cons (x_lam (k := 7) rfl (fun _ => trivial) par__law_heard (by rfl) hm__law_heard hk__law_heard lk__law_heard hc__law_heard hb__law_heard sc__law_heard rfl (.inl rfl) gv__law_heard TB hcode hmT hu (hr.mono (by decide)) (LamX.lamS_by (sc := defScope s__law_read_right) (by decide +kernel)) rfl (fun _ _ _ _ _ => rfl) (fun A outer s H E f c2 hr2 => (x_cm (c := "Standing") rfl (x_cls rfl (by rfl) T.g_Standing) T.cr_Standing T.cm_Standing_read (fs_of G_Standing_read) shp_sh hr2 (by decide) (takes_of rfl rfl rfl rfl) (a_cons (x_var (i := 0) rfl (by first | exact .inl rfl | exact .inr (.inl rfl) | exact .inr (.inr rfl))) a_nil)))) a_nil)) (by rfl))
    (ss_cons (s_if (t_val (x_isiY (bi := ["bool", "int"]) (own := []) rfl (by rfl) T.n_isinstance (x_var (i := 1) rfl (by first | exact .inl rfl | exact .inr (.inl rfl) | exact .inr (.inr rfl))) (pe_bltn (v := .ty "int") (u := .type "int") (by rfl) T.n_int (by decide +kernel) rfl) ⟨(io_b (by decide +kernel)), oo_nil⟩ (.ty _)))
    (ss_one (s_ret (x_cmp (ops_eqP rfl (room64 hr)) (x_var (i := 2) rfl (by first | exact .inl rfl | exact .inr (.inl rfl) | exact .inr (.inr rfl))) (x_tup (a_cons x_str (a_cons x_int (a_cons (x_var (i := 1) rfl (by first | exact .inl rfl | exact .inr (.inl rfl) | exact .inr (.inr rfl))) a_nil)))) (nomark _))))
    ss_nil)
    (ss_one (s_ret (x_and (x_isi (bi := ["list"]) (own := []) rfl (by rfl) T.n_isinstance (x_var (i := 2) rfl (by first | exact .inl rfl | exact .inr (.inl rfl) | exact .inr (.inr rfl))) (pe_bltn (v := .ty "list") (u := .type "list") (by rfl) T.n_list (by decide +kernel) rfl) ⟨(io_b (by decide +kernel)), oo_nil⟩ (.ty _)) (x_and (x_cmpE (oe_eq (c := "Standing") (bi := []) (cs := ["Standing"]) rfl T.eq_Standing G_Standing_eq shp_sh ⟨(fun _ h => nomatch h), (to_cons (P := fun t => PySem.W.notFirst K (He.ga K "Standing") t = true) T.cl_Standing T.in_Standing T.nf_Standing_Standing (to_nil (K := K) (P := fun t => PySem.W.notFirst K (He.ga K "Standing") t = true)))⟩ hr (by decide)) (x_ix rfl (x_var (i := 2) rfl (by first | exact .inl rfl | exact .inr (.inl rfl) | exact .inr (.inr rfl))) x_int (fun _ _ => rfl)) (x_mk (c := "Standing") rfl (x_cls rfl (by rfl) T.g_Standing) T.mk_Standing (fs_of G_Standing_init) shi_in hr (by decide) (takes_of rfl rfl rfl rfl) (a_cons (x_var (i := 1) rfl (by first | exact .inl rfl | exact .inr (.inl rfl) | exact .inr (.inr rfl))) a_nil)) (nomark _)) (x_one (x_cmp (ops_eqP rfl (room64 hr)) (x_callTE (ce_str (c := "Standing") rfl T.own_Standing_str.at_ T.own_Standing_str.fn G_Standing_str shp_sh hr (by decide)) (by rfl) T.n_str (by decide +kernel) (a_cons (x_ix rfl (x_var (i := 2) rfl (by first | exact .inl rfl | exact .inr (.inl rfl) | exact .inr (.inr rfl))) x_int (fun _ _ => rfl)) a_nil)) (x_var (i := 0) rfl (by first | exact .inl rfl | exact .inr (.inl rfl) | exact .inr (.inr rfl))) (nomark _)))))))))
end
end Nk
namespace Nk
open PySem PySem.Spec PyProof.Rows L2 Sh
def pic_law_z2 : Sy := (sSeq (sSet 8 (eLst (aCons (eC (.str "")) (aCons (eC (.str " ")) (aCons (eC (.str "a")) (aCons (eC (.str "a b")) (aCons (eC (.str "a b 1 ")) (aCons (eC (.str "none none")) (aCons (eC (.str "none none 2")) (aCons (eC (.str "a c 1 a b 2")) (aCons (eC (.str "b a 1 a b 2")) aNil)))))))))))
    (sSeq (sSet 8 (eBin dAdd (eVar 8) (eLst (aCons (eC (.str "a b 1 a b 1")) (aCons (eC (.str "a b 0")) (aCons (eC (.str "a b  1")) aNil))))))
    (sRet (eAd (eBin dEq (eNew (lComp [5] (iSq (eVar 8)) (gN 5) (tNt (tVal (eDf sh__law_read_right (aCons (eVar 5) aNil)))) (eVar 5))) (eLst aNil)) (eBin dEq (eCallE (cStr "Standing" sh_Standing_str) (aCons (eCf "Standing" sh_Standing_none (eC (.cls "Standing")) aNil) aNil)) (eC (.str "none")))))))
def pic_law_z1 : Sy := (sSeq (sIf (tVal (eBin dNe (eLam sh__law_heard (eCm "Standing" sh_Standing_read (eC (.cls "Standing")) (aCons (eVar 9) aNil))) (eTup (aCons (eC (.str "text")) (aCons (eC (.int 0)) (aCons (eC (.int 0)) aNil))))))
    (sRet (eC (.bl false)))
    sNil)
    pic_law_z2)
def pic_law_z : Sy := (sSeq (sSet 9 (eDf sh__law_pick (aCons (eVar 1) (aCons (eLst (aCons (eC .non) (aCons (eC (.int 3)) (aCons (eC (.bl true)) (aCons (eTup (aCons (eC (.str "a")) (aCons (eC (.str "b")) (aCons (eC (.int 1)) aNil)))) (aCons (eLst (aCons (eC (.str "a b 1")) aNil)) (aCons (eNewD kNil) (aCons (eCf "Standing" sh_Standing_none (eC (.cls "Standing")) aNil) aNil)))))))) aNil))))
    pic_law_z1)
def pic_law_c : Sy := (sSeq (sSet 6 (eIf (tVal (eBin dNe (eVar 6) (eLst aNil))) (eDf sh__law_bent (aCons (eVar 1) (aCons (eVar 6) aNil))) (eLst (aCons (eC (.str "")) aNil))))
    (sIf (tNt (tVal (eDf sh__law_read_right (aCons (eM1 dJoin (eC (.str " ")) (eVar 6)) aNil))))
    (sRet (eC (.bl false)))
    sNil))
def pic_law_again : Sy := (sFor (iRng1 (aCons (eC (.int 3)) aNil)) (gN 7)
    pic_law_c)
def pic_law_b2 : Sy := (sSeq (sSet 6 (eM1 dSplit (eVar 5) (eC (.str " "))))
    pic_law_again)
def pic_law_b1 : Sy := (sSeq (sIf (tOo (tVal (eBin dNe (eCallE (cStr "Standing" sh_Standing_str) (aCons (eVar 4) aNil)) (eVar 5))) (tOo (tVal (eBinE (oOwn true "Standing" [] ["Standing"] sh_Standing_eq) (eCm "Standing" sh_Standing_read (eC (.cls "Standing")) (aCons (eVar 5) aNil)) (eVar 4))) (tVal (eBinE (oOwn true "Standing" [] ["Standing"] sh_Standing_eq) (eCm "Standing" (kwF (fun z => z) sh_Standing_read) (eC (.cls "Standing")) (aCons (eVar 5) aNil)) (eVar 4)))))
    (sRet (eC (.bl false)))
    sNil)
    pic_law_b2)
def pic_law_b0 : Sy := (sSeq (sPar 4 5 (aCons (eMk "Standing" sh_Standing_init (eC (.cls "Standing")) (aCons (eVar 3) aNil)) (aCons (eDf sh__law_text (aCons (eVar 3) aNil)) aNil)))
    pic_law_b1)
def pic_law_loop : Sy := (sSeq (sFor (iRng1 (aCons (eC (.int 6)) aNil)) (gN 2)
    (sSeq (sSet 3 (eDf sh__law_table (aCons (eVar 1) aNil)))
    pic_law_b0))
    pic_law_z)
def pic_law : Sy := (sSeq (sSet 1 (eDf sh__law_pen (aCons (eVar 0) aNil)))
    pic_law_loop)
def sh_law : List D → Store → R D := runD 1 9 pic_law
section
variable {w : World} {K : PySem.W.Frag} {mg : Str → Option Value} {base : Heap}
theorem fg_law (T : Tx K mg) (TBS : TBs K base mg) {fd : FuncData} (F : FunD K "law" "law" (defArgs s_law) (defBody s_law) (defScope s_law) [] [] (He.fAd K ("law", none)) fd) : FnG PP w K mg base (L2.CX PP w) 11 (He.fAd K ("law", none)) fd ["_law_script"] (spSh K sh_law) := by
  have G_Standing_str : Fo PP w K mg base (He.ma K (He.ga K "Standing") "__str__") 3 _ _ := fo_Standing_str T
  have G_Standing_none : Fo PP w K mg base (smOf K (He.ga K "Standing") "none") 7 _ _ := fo_Standing_none T
  have G__law_read_right : Dg PP w K mg base "_law_read_right" 10 _ _ := dg__law_read_right T TBS
  have G_Standing_read : Fo PP w K mg base (cmOf K (He.ga K "Standing") "read") 7 _ _ := fo_Standing_read T
  have G__law_pick : Df PP w K mg base "_law_pick" 2 _ _ := df__law_pick T
  have G__law_bent : Df PP w K mg base "_law_bent" 4 _ _ := df__law_bent T
  have G_Standing_eq : Fo PP w K mg base (He.ma K (He.ga K "Standing") "__eq__") 1 _ _ := fo_Standing_eq T
  have G_Standing_read_k : FsK PP w K mg base (cmOf K (He.ga K "Standing") "read") 7 _ _ := fk_Standing_read T
  have G__law_text : Df PP w K mg base "_law_text" 1 _ _ := df__law_text T
  have G_Standing_init : Fo PP w K mg base (He.ma K (He.ga K "Standing") "__init__") 5 _ _ := fo_Standing_init T
  have G__law_table : Df PP w K mg base "_law_table" 4 _ _ := df__law_table T
  have G__law_pen : Df PP w K mg base "_law_pen" 1 _ _ := df__law_pen T
  obtain ⟨g__law_heard, ⟨fd__law_heard, F__law_heard⟩, hm__law_heard⟩ := T.d__law_heard
  have hb__law_heard := FunD.bindsN (ps := ["_law_ask"]) F__law_heard (fun _ _ _ _ _ _ us hl => match us, hl with | [_], _ => rfl)
  have hk__law_heard := F__law_heard.kp
  obtain ⟨oc__law_heard, od__law_heard, dV__law_heard, kV__law_heard, doc__law_heard, pm__law_heard, an__law_heard, cdv__law_heard, ct__law_heard, osl__law_heard, rfl, lk__law_heard, hc__law_heard, _, _⟩ := F__law_heard.ex
  refine fngC_of (p := ("law", none)) F sc_law (fun vs H Q E h => spSh_len h) (fun cdv hcd A outer s H vs Q E hgd hr h => ?_)
  have TB := TBS.tb_law
  have hcode : (cxOf (L2.CX PP w) PP w K mg base ["_law_script", "_law_pen_here", "_law_turn", "_law_told", "_law_standing", "_law_line", "_law_words", "_law_again", "_law_rows", "_law_odd"] "law" (defScope s_law) (He.fAd K ("law", none)) cdv A outer s H E).env.code = .ref (He.codeOf K ("law", none)) := hcd
  have gv__law_heard := gv__law_heard (X := (cxOf (L2.CX PP w) PP w K mg base ["_law_script", "_law_pen_here", "_law_turn", "_law_told", "_law_standing", "_law_line", "_law_words", "_law_again", "_law_rows", "_law_odd"] "law" (defScope s_law) (He.fAd K ("law", none)) cdv A outer s H E)) T rfl (hr.mono (by decide))  (g := g__law_heard) (cdg := cdv__law_heard) (q := "law.<locals>.<lambda>")
  have hmT := T.tm_law
  have hu := T.tu_law
  refine body_of (f := pic_law) (fun _ => trivial) rfl ?_ h
  exact (ss_cons (s_set (i := 1) sc_law.nd rfl (by first | exact .inl rfl | exact .inr rfl) (x_df G__law_pen shp_sh hr (by decide) (by rfl) (takes_of rfl rfl rfl rfl) (a_cons (x_var (i := 0) rfl (by first | exact .inl rfl | exact .inr (.inl rfl) | exact .inr (.inr rfl))) a_nil)))
    (ss_cons (s_for (us := [2]) (passes_of rfl) rfl (i_rng1 (by rfl) T.n_range (a_cons x_int a_nil)) (g_name (i := 2) sc_law.nd rfl (by first | exact .inl rfl | exact .inr rfl))
    (ss_cons (s_set (i := 3) sc_law.nd rfl (by first | exact .inl rfl | exact .inr rfl) (x_df G__law_table shp_sh hr (by decide) (by rfl) (takes_of rfl rfl rfl rfl) (a_cons (x_var (i := 1) rfl (by first | exact .inl rfl | exact .inr (.inl rfl) | exact .inr (.inr rfl))) a_nil)))
    (ss_cons (s_par (i := 4) (j := 5) rfl sc_law.nd rfl rfl (by decide) rfl rfl (a_cons (x_mk (c := "Standing") rfl (x_cls rfl (by rfl) T.g_Standing) T.mk_Standing (fs_of G_Standing_init) shi_in hr (by decide) (takes_of rfl rfl rfl rfl) (a_cons (x_var (i := 3) rfl (by first | exact .inl rfl | exact .inr (.inl rfl) | exact .inr (.inr rfl))) a_nil)) (a_cons (x_df G__law_text shp_sh hr (by decide) (by rfl) (takes_of rfl rfl rfl rfl) (a_cons (x_var (i := 3) rfl (by first | exact .inl rfl | exact .inr (.inl rfl) | exact .inr (.inr rfl))) a_nil)) a_nil)) (by rfl))
    (ss_cons (s_if (w_pt (w_or (t_cmp (ops_neP rfl (room64 hr)) (x_callTE (ce_str (c := "Standing") rfl T.own_Standing_str.at_ T.own_Standing_str.fn G_Standing_str shp_sh hr (by decide)) (by rfl) T.n_str (by decide +kernel) (a_cons (x_var (i := 4) rfl (by first | exact .inl rfl | exact .inr (.inl rfl) | exact .inr (.inr rfl))) a_nil)) (x_var (i := 5) rfl (by first | exact .inl rfl | exact .inr (.inl rfl) | exact .inr (.inr rfl))) (nomark _)) (w_or (t_cmpE (oe_ne (c := "Standing") (bi := []) (cs := ["Standing"]) rfl T.eq_Standing G_Standing_eq shp_sh ⟨(fun _ h => nomatch h), (to_cons (P := fun t => PySem.W.notFirst K (He.ga K "Standing") t = true) T.cl_Standing T.in_Standing T.nf_Standing_Standing (to_nil (K := K) (P := fun t => PySem.W.notFirst K (He.ga K "Standing") t = true)))⟩ hr (by decide)) (x_cm (c := "Standing") rfl (x_cls rfl (by rfl) T.g_Standing) T.cr_Standing T.cm_Standing_read (fs_of G_Standing_read) shp_sh hr (by decide) (takes_of rfl rfl rfl rfl) (a_cons (x_var (i := 5) rfl (by first | exact .inl rfl | exact .inr (.inl rfl) | exact .inr (.inr rfl))) a_nil)) (x_var (i := 4) rfl (by first | exact .inl rfl | exact .inr (.inl rfl) | exact .inr (.inr rfl))) (nomark _)) (w_or1 (t_cmpE (oe_ne (c := "Standing") (bi := []) (cs := ["Standing"]) rfl T.eq_Standing G_Standing_eq shp_sh ⟨(fun _ h => nomatch h), (to_cons (P := fun t => PySem.W.notFirst K (He.ga K "Standing") t = true) T.cl_Standing T.in_Standing T.nf_Standing_Standing (to_nil (K := K) (P := fun t => PySem.W.notFirst K (He.ga K "Standing") t = true)))⟩ hr (by decide)) (x_cmK (c := "Standing") rfl (x_cls rfl (by rfl) T.g_Standing) T.cr_Standing T.cm_Standing_read G_Standing_read_k (shp_kw shp_sh (fun _ _ _ h => h)) hr (by decide) (takes_of rfl rfl rfl rfl) (ak_cons (x_var (i := 5) rfl (by first | exact .inl rfl | exact .inr (.inl rfl) | exact .inr (.inr rfl))) ak_nil) (kn_cons kn_nil)) (x_var (i := 4) rfl (by first | exact .inl rfl | exact .inr (.inl rfl) | exact .inr (.inr rfl))) (nomark _))))))
    (ss_one (s_ret x_bl))
    ss_nil)
    (ss_cons (s_set (i := 6) sc_law.nd rfl (by first | exact .inl rfl | exact .inr rfl) (x_m1 PySem.F.slot_str_split PySem.F.type_str_split mts_split (x_var (i := 5) rfl (by first | exact .inl rfl | exact .inr (.inl rfl) | exact .inr (.inr rfl))) x_str))
    (ss_one (s_for (us := [7]) (passes_of rfl) rfl (i_rng1 (by rfl) T.n_range (a_cons x_int a_nil)) (g_name (i := 7) sc_law.nd rfl (by first | exact .inl rfl | exact .inr rfl))
    (ss_cons (s_set (i := 6) sc_law.nd rfl (by first | exact .inl rfl | exact .inr rfl) (x_if (t_cmp (ops_neP rfl (room64 hr)) (x_var (i := 6) rfl (by first | exact .inl rfl | exact .inr (.inl rfl) | exact .inr (.inr rfl))) (x_lst a_nil) (nomark _)) (x_df G__law_bent shp_sh hr (by decide) (by rfl) (takes_of rfl rfl rfl rfl) (a_cons (x_var (i := 1) rfl (by first | exact .inl rfl | exact .inr (.inl rfl) | exact .inr (.inr rfl))) (a_cons (x_var (i := 6) rfl (by first | exact .inl rfl | exact .inr (.inl rfl) | exact .inr (.inr rfl))) a_nil))) (x_lst (a_cons x_str a_nil))))
    (ss_one (s_if (t_not (t_val (x_dg hgd G__law_read_right shp_sh hr (by decide) (by rfl) (takes_of rfl rfl rfl rfl) (a_cons (x_m1 PySem.F.slot_str_join PySem.F.type_str_join (mts_join rfl) x_str (x_var (i := 6) rfl (by first | exact .inl rfl | exact .inr (.inl rfl) | exact .inr (.inr rfl)))) a_nil))))
    (ss_one (s_ret x_bl))
    ss_nil))))))))))
    (ss_cons (s_set (i := 9) sc_law.nd rfl (by first | exact .inl rfl | exact .inr rfl) (x_df G__law_pick shp_sh hr (by decide) (by rfl) (takes_of rfl rfl rfl rfl) (a_cons (x_var (i := 1) rfl (by first | exact .inl rfl | exact .inr (.inl rfl) | exact .inr (.inr rfl))) (a_cons (x_lst (a_cons x_non (a_cons x_int (a_cons x_bl (a_cons (x_tup (a_cons x_str (a_cons x_str (a_cons x_int a_nil)))) (a_cons (x_lst (a_cons x_str a_nil)) (a_cons (x_newD fd_nil) (a_cons (x_cf0 (c := "Standing") rfl (x_cls rfl (by rfl) T.g_Standing) T.cr_Standing T.cf_Standing_none (fs_of G_Standing_none) shp_sh hr (by decide) (takes_of rfl rfl rfl rfl)) a_nil)))))))) a_nil))))
    (ss_cons (s_if (t_cmp (ops_neP rfl (room64 hr)) (x_lam (k := 7) rfl (fun _ => trivial) par__law_heard (by rfl) hm__law_heard hk__law_heard lk__law_heard hc__law_heard hb__law_heard sc__law_heard rfl (.inl rfl) gv__law_heard TB hcode hmT hu (hr.mono (by decide)) (LamX.lamS_by (sc := defScope s_law) (by decide +kernel)) rfl (fun _ _ _ _ _ => rfl) (fun A outer s H E f c2 hr2 => (x_cm (c := "Standing") rfl (x_cls rfl (by rfl) T.g_Standing) T.cr_Standing T.cm_Standing_read (fs_of G_Standing_read) shp_sh hr2 (by decide) (takes_of rfl rfl rfl rfl) (a_cons (x_var (i := 9) rfl (by first | exact .inl rfl | exact .inr (.inl rfl) | exact .inr (.inr rfl))) a_nil)))) (x_tup (a_cons x_str (a_cons x_int (a_cons x_int a_nil)))) (nomark _))
    (ss_one (s_ret x_bl))
    ss_nil)
    (ss_cons (s_set (i := 8) sc_law.nd rfl (by first | exact .inl rfl | exact .inr rfl) (x_lst (a_cons x_str (a_cons x_str (a_cons x_str (a_cons x_str (a_cons x_str (a_cons x_str (a_cons x_str (a_cons x_str (a_cons x_str a_nil)))))))))))
    (ss_cons (s_set (i := 8) sc_law.nd rfl (by first | exact .inl rfl | exact .inr rfl) (x_op (ops_add rfl) (x_var (i := 8) rfl (by first | exact .inl rfl | exact .inr (.inl rfl) | exact .inr (.inr rfl))) (x_lst (a_cons x_str (a_cons x_str (a_cons x_str a_nil))))))
    (ss_one (s_ret (x_and (x_cmp (ops_eqP rfl (room64 hr)) (x_new (f_comp (own := [("_law_line", 5)]) rfl sc_law.nd (i_seq rfl (x_var (i := 8) rfl (by first | exact .inl rfl | exact .inr (.inl rfl) | exact .inr (.inr rfl)))) (blkOk_by (N := ["_law_script", "_law_pen_here", "_law_turn", "_law_told", "_law_standing", "_law_line", "_law_words", "_law_again", "_law_rows", "_law_odd"]) (sc := defScope s_law) (by decide +kernel)) (fun _ _ _ _ _ => (g_name (i := 5) sc_law.nd rfl (by first | exact .inl rfl | exact .inr rfl))) (fun _ _ _ _ _ => (ts_one (t_not (t_val (x_dg hgd G__law_read_right shp_sh hr (by decide) (by rfl) L2.takes0 (a_cons (x_var (i := 5) rfl (by first | exact .inl rfl | exact .inr (.inl rfl) | exact .inr (.inr rfl))) a_nil)))))) (fun _ _ _ _ _ => (x_var (i := 5) rfl (by first | exact .inl rfl | exact .inr (.inl rfl) | exact .inr (.inr rfl)))))) (x_lst a_nil) (nomark _)) (x_one (x_cmp (ops_eqP rfl (room64 hr)) (x_callTE (ce_str (c := "Standing") rfl T.own_Standing_str.at_ T.own_Standing_str.fn G_Standing_str shp_sh hr (by decide)) (by rfl) T.n_str (by decide +kernel) (a_cons (x_cf0 (c := "Standing") rfl (x_cls rfl (by rfl) T.g_Standing) T.cr_Standing T.cf_Standing_none (fs_of G_Standing_none) shp_sh hr (by decide) (takes_of rfl rfl rfl rfl)) a_nil)) x_str (nomark _))))))))))))
end
end Nk
namespace Nk
open PySem PyProof.Rows L2 Sh
def isLet (c : Nat) : Bool := decide (97 ≤ c ∧ c ≤ 122)
def isNm (x : Str) : Bool := decide (1 ≤ x.length ∧ x.length ≤ 8) && x.cps.toList.all isLet
theorem letters_at (c : Nat) : decide (c ∈ (Str.ofString "abcdefghijklmnopqrstuvwxyz").cps.toList) = isLet c := by
  have e : (Str.ofString "abcdefghijklmnopqrstuvwxyz").cps.toList = (List.range 26).map (97 + ·) := by decide +kernel
  rw [e]
  unfold isLet
  apply Bool.eq_iff_iff.mpr
  simp only [decide_eq_true_eq, List.mem_map, List.mem_range]
  exact ⟨fun ⟨a, h, e⟩ => by omega, fun h => ⟨c - 97, by omega, by omega⟩⟩
theorem dIn_sign (c : Nat) (z : Str) : dIn (.str ⟨#[c]⟩) (.str z) = some (.bl (decide (c ∈ z.cps.toList))) := rfl
theorem bs_bl (bs : List Bool) : D.bs (bs.map D.bl) = some bs := by
  induction bs with
  | nil => rfl
  | cons b r ih => simp only [List.map_cons, D.bs, D.b, ih]
theorem is_name_str (x : Str) (S : Store) : sh_is_name [.str x] S = .ok (.bl (isNm x)) S := by
  unfold sh_is_name pic_is_name
  simp_all_arith [isiF, show dLen [.str x] = some (.int x.length) from rfl, show ["str"].contains "str" = true from rfl]
  by_cases h1 : (1 : Int) ≤ x.length
  · by_cases h2 : (x.length : Int) ≤ 8
    · have hl : (x.cps.toList.map fun c => D.str ⟨#[c]⟩).length ≤ sizeLine := by
        rw [List.length_map]
        have : x.length = x.cps.toList.length := by simp [Str.length]
        show _ ≤ 16777216
        rw [← this]; omega
      have hm : mapA (gN 1) tYesD (eBin dIn (eVar 1) (eC (.str "abcdefghijklmnopqrstuvwxyz"))) [] (x.cps.toList.map fun c => D.str ⟨#[c]⟩) [.val (.str x), .no] S = .ok ((x.cps.toList.map isLet).map D.bl) S := by
        have := mapA_map (g := gN 1) (f := eBin dIn (eVar 1) (eC (.str "abcdefghijklmnopqrstuvwxyz"))) (e := [.val (.str x), .no]) (S := S) (fun d => match d with | .str z => .bl (isLet (z.cps.toList.headD 0)) | _ => .non) (x.cps.toList.map fun c => D.str ⟨#[c]⟩) [] (fun d hd => by
          obtain ⟨c, hc, rfl⟩ := List.mem_map.mp hd
          refine ⟨[.val (.str x), .val (.str ⟨#[c]⟩)], rfl, ?_⟩
          simp_all_arith [dIn_sign, letters_at]
          rfl)
        rw [List.nil_append, List.map_map] at this
        rw [this, List.map_map]
        rfl
      rw [List.length_map] at hl
      simp_all_arith [h1, h2, hl, hm, bs_bl, dAll_b]
      simp [isNm, h1, h2, List.all_map]
      omega
    · simp_all_arith [h1, h2]
      unfold isNm
      rw [decide_eq_false (by omega)]
      rfl
  · simp_all_arith [h1]
    unfold isNm
    rw [decide_eq_false (by omega)]
    rfl
abbrev Ws (ws : List Str) (l i : Nat) : Cell := .ins "Words" [("told", .lst (ws.map .str)), ("line_index", .int l), ("next_index", .int i)]
theorem atI_str {ws : List Str} {i : Nat} {w : Str} (h : ws[i]? = some w) : atI (ws.map D.str) i = some (.str w) := by
  have h2 := (List.getElem?_eq_some_iff.mp h).1
  unfold atI ixN
  rw [List.length_map, if_pos (by omega), if_pos (by omega)]
  show (ws.map D.str)[(i : Int).toNat]? = _
  simp [h]
theorem ws_told {ws : List Str} {l i : Nat} {S : Store} : D.fld ["Words"] "told" (S ++ [Ws ws l i]) (.ref S.length) = some (.lst (ws.map .str)) := by
  simp only [D.fld, app_get]
  rfl
theorem ws_next {ws : List Str} {l i : Nat} {S : Store} : D.fld ["Words"] "next_index" (S ++ [Ws ws l i]) (.ref S.length) = some (.int i) := by
  simp only [D.fld, app_get]
  rfl
theorem ws_line {ws : List Str} {l i : Nat} {S : Store} : D.fld ["Words"] "line_index" (S ++ [Ws ws l i]) (.ref S.length) = some (.int l) := by
  simp only [D.fld, app_get]
  rfl
theorem ws_isC {ws : List Str} {l i : Nat} {S : Store} {m : Str} : D.isC "Words" m (S ++ [Ws ws l i]) (.ref S.length) = (!(m == ("told" : Str)) && !(m == ("line_index" : Str)) && !(m == ("next_index" : Str))) := by
  simp only [D.isC, app_get, List.lookup, beq_self_eq_true, Bool.true_and]
  cases h1 : (m == ("told" : Str)) <;> cases h2 : (m == ("line_index" : Str)) <;> cases h3 : (m == ("next_index" : Str)) <;> rfl
theorem dEq_ii {a b : Int} : dEq (.int a) (.int b) = some (.bl (a == b)) := by
  unfold dEq dEqP D.py
  dsimp only
  rw [if_pos (by simp only [PyData.depth]; decide)]
  rfl
theorem dEq_ss {a b : Str} : dEq (.str a) (.str b) = some (.bl (a == b)) := by
  unfold dEq dEqP D.py
  dsimp only
  rw [if_pos (by simp only [PyData.depth]; decide)]
  rfl
theorem ws_init {t : Str} {ws : List Str} (h : dSplit t (.str " ") = some (.lst (ws.map .str))) (l : Nat) (S : Store) : sh_Words_init (.ins "Words" []) [.str t, .int l] S = .ok (Ws ws l 0) S := by
  unfold sh_Words_init pic_Words_init
  simp_all_arith [isiF, show ["str"].contains "str" = true from rfl, h, putD]
  rfl
theorem ws_over (ws : List Str) (l i : Nat) (S : Store) : sh_Words_is_over [.ref S.length] (S ++ [Ws ws l i]) = .ok (.bl (decide (i = ws.length))) (S ++ [Ws ws l i]) := by
  unfold sh_Words_is_over pic_Words_is_over
  simp_all_arith [ws_told, ws_next, dEq_ii, List.length_map]
  congr 2
  by_cases h : i = ws.length
  · simp [h]
  · simp [h]; omega
theorem ws_up (ws : List Str) (l i : Nat) (S : Store) (h : i ≤ ws.length) : sh_Words_upcoming [.ref S.length] (S ++ [Ws ws l i]) = .ok (match ws[i]? with | some w => .str w | none => .non) (S ++ [Ws ws l i]) := by
  unfold sh_Words_upcoming pic_Words_upcoming
  by_cases h2 : i = ws.length
  · subst h2
    simp_all_arith [ws_isC, ws_over]
    simp
  · obtain ⟨w, hw⟩ : ∃ w, ws[i]? = some w := ⟨ws[i], List.getElem?_eq_getElem (by omega)⟩
    simp_all_arith [ws_isC, ws_over, h2, ws_told, ws_next, atI_str hw, hw]
theorem ws_skip (ws : List Str) (l i : Nat) (w : Str) (S : Store) (h : ws[i]? = some w) : sh_Words_skip [.ref S.length] (S ++ [Ws ws l i]) = .ok (.str w) (S ++ [Ws ws l (i + 1)]) := by
  have h2 := (List.getElem?_eq_some_iff.mp h).1
  unfold sh_Words_skip pic_Words_skip
  have e : ((i : Int) + 1 - 1) = i := by omega
  have e2 : ((i : Int) + 1) = ((i + 1 : Nat) : Int) := by omega
  have h3 : i ≠ ws.length := by omega
  have e3 : ((i + 1 : Nat) : Int) - 1 = i := by omega
  simp_all_arith [ws_isC, ws_over, h3, app_get, app_set, putD, e2, ws_told, ws_next]
  simp_all_arith [e3, atI_str h]
theorem is_name_no {d : D} (h : isiF ["str"] [] d = some false) (S : Store) : sh_is_name [d] S = .ok (.bl false) S := by
  unfold sh_is_name pic_is_name
  simp_all_arith [h]
abbrev badX (l i : Nat) : Exn := ⟨"BadText", [("word", .int i), ("line", .int l)]⟩
theorem ws_refuse (ws : List Str) (l i : Nat) (S : Store) : sh_Words_refuse [.ref S.length, .non] (S ++ [Ws ws l i]) = .er (badX l i) (S ++ [Ws ws l i]) := by
  unfold sh_Words_refuse pic_Words_refuse
  simp_all_arith [ws_line, ws_next, ap_sRs]
  rfl
def wsD : Option Str → D
  | some w => .str w
  | none => .non
theorem ws_upG (ws : List Str) (l i : Nat) (S : Store) (h : i ≤ ws.length) : sh_Words_upcoming [.ref S.length] (S ++ [Ws ws l i]) = .ok (wsD ws[i]?) (S ++ [Ws ws l i]) := by
  rw [ws_up ws l i S h]
  cases ws[i]? <;> rfl
theorem ws_nameG (ws : List Str) (l i : Nat) (S : Store) (h : i ≤ ws.length) : sh_Words_take_name [.ref S.length] (S ++ [Ws ws l i]) = if (ws[i]?).any isNm then .ok (wsD ws[i]?) (S ++ [Ws ws l (i + 1)]) else .er (badX l i) (S ++ [Ws ws l i]) := by
  unfold sh_Words_take_name pic_Words_take_name
  cases hw : ws[i]? with
  | none =>
    simp_all_arith [ws_isC, ws_upG ws l i S h, hw, wsD, is_name_no (d := .non) rfl, dflF, ws_refuse]
    rfl
  | some w =>
    cases hn : isNm w
    · simp_all_arith [ws_isC, ws_upG ws l i S h, hw, wsD, is_name_str, hn, dflF, ws_refuse]
      simp [hn]
    · simp_all_arith [ws_isC, ws_upG ws l i S h, hw, wsD, is_name_str, hn, ws_skip ws l i w S hw]
      simp [hn]
theorem ws_closeG (ws : List Str) (l i : Nat) (S : Store) : sh_Words_close [.ref S.length] (S ++ [Ws ws l i]) = if i = ws.length then .ok .non (S ++ [Ws ws l i]) else .er (badX l i) (S ++ [Ws ws l i]) := by
  unfold sh_Words_close pic_Words_close
  by_cases h : i = ws.length
  · simp_all_arith [ws_isC, ws_over, h]
  · simp_all_arith [ws_isC, ws_over, h, dflF, ws_refuse]
end Nk
namespace Nk
open PySem PyProof.Rows L2 Sh
def isFig (c : Nat) : Bool := decide (48 ≤ c ∧ c ≤ 57)
def numW (x : Str) : Option Int := if (decide (1 ≤ x.length ∧ x.length ≤ 60) && x.cps.toList.all isFig && (decide (x.cps.toList = [48]) || decide (x.cps.toList.head? ≠ some 48))) = true then some ((NumText.digitsVal x.cps.toList : Nat) : Int) else none
theorem figs_at (c : Nat) : decide (c ∈ (Str.ofString "0123456789").cps.toList) = isFig c := by
  have e : (Str.ofString "0123456789").cps.toList = (List.range 10).map (48 + ·) := by decide +kernel
  rw [e]
  unfold isFig
  apply Bool.eq_iff_iff.mpr
  simp only [decide_eq_true_eq, List.mem_map, List.mem_range]
  exact ⟨fun ⟨a, h, e⟩ => by omega, fun h => ⟨c - 48, by omega, by omega⟩⟩
theorem len_cps (x : Str) : x.length = x.cps.toList.length := by simp [Str.length]
theorem str_nil0 {x : Str} (h : x.length = 0) : x = Str.ofString "" := by
  cases x with
  | mk c =>
    have : c = #[] := by
      rw [len_cps] at h
      simpa using h
    rw [this]; rfl
theorem str_is {x : Str} {y : String} : (x == Str.ofString y) = decide (x.cps.toList = (Str.ofString y).cps.toList) := by
  by_cases h : x.cps.toList = (Str.ofString y).cps.toList
  · have : x = Str.ofString y := str_ext h
    rw [this]; simp
  · rw [decide_eq_false h]
    simp only [beq_eq_false_iff_ne, ne_eq]
    exact fun z => h (by rw [z])
theorem number_in_ok (x : Str) (S : Store) (hx : x.length ≤ 90000) : sh_number_in [.str x] S = .ok (match numW x with | some n => .int n | none => .non) S := by
  have hl := len_cps x
  unfold sh_number_in pic_number_in
  by_cases h0 : x = Str.ofString ""
  · subst h0
    have : numW "" = none := by decide +kernel
    simp_all_arith [this]
  have h0' : (x == Str.ofString "") = false := by simpa using h0
  have hp : 1 ≤ x.length := by
    by_cases q : x.length = 0
    · exact absurd (str_nil0 q) h0
    · omega
  by_cases h60 : x.length ≤ 60
  · have hm : mapA (gN 1) tYesD (eBin dIn (eVar 1) (eC (.str "0123456789"))) [] (x.cps.toList.map fun c => D.str ⟨#[c]⟩) [.val (.str x), .no] S = .ok ((x.cps.toList.map isFig).map D.bl) S := by
      have := mapA_map (g := gN 1) (f := eBin dIn (eVar 1) (eC (.str "0123456789"))) (e := [.val (.str x), .no]) (S := S) (fun d => match d with | .str z => .bl (isFig (z.cps.toList.headD 0)) | _ => .non) (x.cps.toList.map fun c => D.str ⟨#[c]⟩) [] (fun d hd => by
        obtain ⟨c, hc, rfl⟩ := List.mem_map.mp hd
        refine ⟨[.val (.str x), .val (.str ⟨#[c]⟩)], rfl, ?_⟩
        simp_all_arith [dIn_sign, figs_at]
        rfl)
      rw [List.nil_append, List.map_map] at this
      rw [this, List.map_map]
      rfl
    have hll : (x.cps.toList.map fun c => D.str ⟨#[c]⟩).length ≤ sizeLine := by
      rw [List.length_map, ← hl]
      show _ ≤ 16777216
      omega
    rw [List.length_map] at hll
    cases hf : x.cps.toList.all isFig
    · have hn : numW x = none := by
        unfold numW
        rw [hf]
        simp
      simp_all_arith [h0', hm, hll, bs_bl, dAll_b, decide_eq_false (show ¬ (60 : Int) < x.length by omega), List.all_map]
      rw [show (id ∘ isFig) = isFig from rfl, hf, hn]
      simp_all_arith
    · have hv : intText? x = some ((NumText.digitsVal x.cps.toList : Nat) : Int) := PySem.intText_digits (fun c hc => by
        have := List.all_eq_true.mp hf c hc
        unfold isFig at this
        exact of_decide_eq_true this) (fun z => by rw [z] at hl; simp at hl; omega) (by omega)
      obtain ⟨c, r, hcr⟩ : ∃ c r, x.cps.toList = c :: r := by
        cases hq : x.cps.toList with
        | nil => rw [hq] at hl; simp at hl; omega
        | cons c r => exact ⟨c, r, rfl⟩
      have hi : D.ix (.str x) (.int 0) = some (.str ⟨#[c]⟩) := by
        simp only [D.ix, alt2, hcr]
        unfold atI ixN
        rw [if_pos (by decide), if_pos (by simp only [List.length_cons]; omega)]
        rfl
      have hz : ((⟨#[c]⟩ : Str) == Str.ofString "0") = decide (c = 48) := by
        rw [str_is]
        have : (Str.ofString "0").cps.toList = [48] := by decide +kernel
        rw [this]
        simp
      have h0s : (x == Str.ofString "0") = decide (c :: r = [48]) := by
        rw [str_is, hcr]
        have : (Str.ofString "0").cps.toList = [48] := by decide +kernel
        rw [this]
      have hI : dIntS [.str x] = some (.int ((NumText.digitsVal x.cps.toList : Nat) : Int)) := by
        show (if x.length ≤ 640 then Option.map D.int (intText? x) else none) = _
        rw [hv]
        exact if_pos (by omega)
      have hn : numW x = if (decide (c :: r = [48]) || decide (¬ c = 48)) = true then some ((NumText.digitsVal x.cps.toList : Nat) : Int) else none := by
        unfold numW
        rw [hf, decide_eq_true (show 1 ≤ x.length ∧ x.length ≤ 60 from ⟨hp, h60⟩), hcr]
        simp
      simp_all_arith [h0', hm, hll, bs_bl, dAll_b, decide_eq_false (show ¬ (60 : Int) < x.length by omega), List.all_map]
      rw [show (id ∘ isFig) = isFig from rfl, hf, hn]
      cases hA : decide (c :: r = [48])
      · by_cases hB : c = 48
        · simp_all_arith [h0s, hA, hi, hz, decide_eq_true hB, hI]
          simp [hB]
        · simp_all_arith [h0s, hA, hi, hz, decide_eq_false hB, hI]
          simp [hB]
      · simp_all_arith [h0s, hA, hI]
  · have hn : numW x = none := by
      unfold numW
      rw [decide_eq_false (show ¬ (1 ≤ x.length ∧ x.length ≤ 60) by omega)]
      rfl
    simp_all_arith [h0', decide_eq_true (show (60 : Int) < x.length by omega), hn]
end Nk
namespace Nk
open PySem PyProof.Rows L2 Sh
theorem within_h (v a b : Int) (S : Store) : sh_is_within [.int v, .int a, .int b] S = .ok (.bl (decide (a ≤ v ∧ v ≤ b))) S := by
  have hi : sh_is_integer [.int v] S = .ok (.bl true) S := by
    unfold sh_is_integer pic_is_integer
    simp_all_arith
  unfold sh_is_within pic_is_within
  by_cases h1 : a ≤ v
  · simp_all_arith [hi, decide_eq_true h1]
    simp [h1]
  · simp_all_arith [hi, decide_eq_false h1]
    simp [h1]
abbrev MXN : Int := 999999999999999999999999999999999999999999999999999999999999
theorem is_num (v : Int) (S : Store) : sh_is_number [.int v] S = .ok (.bl (decide (0 ≤ v ∧ v ≤ MXN))) S := by
  unfold sh_is_number pic_is_number
  simp_all_arith [within_h]
theorem nd_le : ∀ {a b : List Str}, a.Nodup → (∀ z ∈ a, z ∈ b) → a.length ≤ b.length
  | [], b, _, _ => Nat.zero_le _
  | x :: a, b, hd, hs => by
    have h1 := List.nodup_cons.mp hd
    have hx := hs x List.mem_cons_self
    have := nd_le (b := b.erase x) h1.2 fun z hz => (List.mem_erase_of_ne (fun (e : z = x) => h1.1 (e ▸ hz))).mpr (hs z (List.mem_cons_of_mem _ hz))
    rw [List.length_erase_of_mem hx] at this
    have hp : 0 < b.length := List.length_pos_of_mem hx
    rw [List.length_cons]
    omega
end Nk
namespace Nk
open PySem PyProof.Rows L2 Sh
open NumText in
theorem dv_lt : ∀ (cs : List Nat) (a : Nat), AllDigits cs → cs.foldl (fun acc c => acc * 10 + (c - 48)) a < (a + 1) * 10 ^ cs.length
  | [], a, _ => by simp
  | c :: cs, a, h => by
    have hc := h.head
    have ih := dv_lt cs (a * 10 + (c - 48)) h.tail
    rw [List.foldl_cons, List.length_cons]
    refine Nat.lt_of_lt_of_le ih ?_
    rw [Nat.pow_succ, Nat.mul_comm (10 ^ cs.length) 10, ← Nat.mul_assoc]
    exact Nat.mul_le_mul_right _ (by omega)
theorem dig_one {n : Nat} (h : n < 10) : Nat.toDigits 10 n = [Nat.digitChar n] := Nat.toDigits_of_lt_base h
theorem dig_app {n : Nat} (h : ¬ n < 10) : Nat.toDigits 10 n = Nat.toDigits 10 (n / 10) ++ [Nat.digitChar (n % 10)] := by
  have hm : n % 10 < 10 := Nat.mod_lt n (by decide)
  have t : Nat.toDigits 10 (n / 10) ++ Nat.toDigits 10 (n % 10) = Nat.toDigits 10 (10 * (n / 10) + n % 10) := Nat.toDigits_append_toDigits (by decide) (by omega) hm
  rw [Nat.div_add_mod] at t
  rw [← t, dig_one hm]
theorem dig_len : ∀ (k n : Nat), n < 10 ^ (k + 1) → (Nat.toDigits 10 n).length ≤ k + 1
  | 0, n, h => by
    rw [dig_one (by simpa using h)]
    simp
  | k + 1, n, h => by
    by_cases hn : n < 10
    · rw [dig_one hn]
      simp
    · have ih := dig_len k (n / 10) (by
        rw [Nat.pow_succ] at h
        omega)
      rw [dig_app hn, List.length_append, List.length_singleton]
      omega
theorem dig_pos (n : Nat) : 0 < (Nat.toDigits 10 n).length := by
  by_cases hn : n < 10
  · rw [dig_one hn]; simp
  · rw [dig_app hn]; simp
theorem dig_head (n : Nat) : 0 < n → ((Nat.toDigits 10 n).map Char.toNat).head? ≠ some 48 := by
  induction n using Nat.strongRecOn with
  | _ n ih =>
    intro h
    by_cases hn : n < 10
    · rw [dig_one hn]
      have : ∀ m : Nat, m < 10 → 0 < m → (([Nat.digitChar m]).map Char.toNat).head? ≠ some 48 := by decide
      exact this n hn h
    · have := ih (n / 10) (by omega) (by omega)
      have hp := dig_pos (n / 10)
      rw [dig_app hn]
      cases hd : Nat.toDigits 10 (n / 10) with
      | nil => rw [hd] at hp; simp at hp
      | cons c r => rw [hd] at this; simpa using this
theorem dig_fig (n : Nat) : ∀ c ∈ (Nat.toDigits 10 n).map Char.toNat, 48 ≤ c ∧ c ≤ 57 := by
  induction n using Nat.strongRecOn with
  | _ n ih =>
    by_cases hn : n < 10
    · rw [dig_one hn]
      have : ∀ m : Nat, m < 10 → ∀ c ∈ ([Nat.digitChar m]).map Char.toNat, 48 ≤ c ∧ c ≤ 57 := by decide
      exact this n hn
    · rw [dig_app hn, List.map_append]
      intro c hc
      rcases List.mem_append.mp hc with hc | hc
      · exact ih (n / 10) (by omega) c hc
      · have : ∀ m : Nat, m < 10 → ∀ c ∈ ([Nat.digitChar m]).map Char.toNat, 48 ≤ c ∧ c ≤ 57 := by decide
        exact this _ (Nat.mod_lt n (by decide)) c hc
def numP (w : Str) : Option Int := match numW w with
  | some n => if 1 ≤ n then some n else none
  | none => none
abbrev nT (v : Int) : Str := Str.ofString (toString v)
theorem MXN_eq : MXN = ((10 ^ 60 - 1 : Nat) : Int) := by decide +kernel
theorem nT_num {v : Int} (h1 : 1 ≤ v) (h2 : v ≤ MXN) : numP (nT v) = some v ∧ (nT v).length ≤ 60 ∧ 32 ∉ (nT v).cps.toList := by
  obtain ⟨m, rfl⟩ := Int.eq_ofNat_of_zero_le (show 0 ≤ v by omega)
  have es := PySem.W.KIN.signs_num m
  have hl := len_cps (nT (m : Int))
  rw [MXN_eq] at h2
  have l1 := dig_len 59 m (by omega)
  have l0 := dig_pos m
  have hf := dig_fig m
  have hh := dig_head m (by omega)
  rw [es, List.length_map] at hl
  refine ⟨?_, by rw [hl]; omega, ?_⟩
  · unfold numP numW
    rw [es, PySem.W.KIN.val_back, hl, decide_eq_true (show 1 ≤ _ ∧ _ ≤ 60 from ⟨l0, by omega⟩)]
    have ha : ((Nat.toDigits 10 m).map Char.toNat).all isFig = true := List.all_eq_true.mpr fun c hc => decide_eq_true (hf c hc)
    rw [ha, decide_eq_true hh, Bool.or_true, Bool.and_true, Bool.and_true, if_pos rfl]
    dsimp only
    rw [if_pos h1]
  · rw [es]
    intro h
    have := hf 32 h
    omega
theorem numP_text {w : Str} {v : Int} (h : numP w = some v) : nT v = w ∧ 1 ≤ v ∧ v ≤ MXN ∧ w.length ≤ 60 ∧ 1 ≤ w.length ∧ PySem.intText? w = some v := by
  unfold numP numW at h
  split at h
  · rename_i n hn
    split at hn
    · rename_i hc
      injection hn with hn
      split at h
      · rename_i h1
        injection h with h
        subst h
        simp only [Bool.and_eq_true, Bool.or_eq_true, decide_eq_true_eq, List.all_eq_true, isFig] at hc
        obtain ⟨⟨⟨l1, l2⟩, hf⟩, hz⟩ := hc
        have hl := len_cps w
        have hd : NumText.AllDigits w.cps.toList := hf
        have hlt := dv_lt w.cps.toList 0 hd
        rw [Nat.zero_add, Nat.one_mul] at hlt
        have hp : 10 ^ w.cps.toList.length ≤ 10 ^ 60 := Nat.pow_le_pow_right (by decide) (by omega)
        have hv : NumText.digitsVal w.cps.toList < 10 ^ 60 := Nat.lt_of_lt_of_le hlt hp
        refine ⟨?_, h1, by rw [MXN_eq, ← hn]; omega, l2, l1, by rw [← hn]; exact PySem.intText_digits hd (fun z => by rw [z] at hl; simp at hl; omega) (by omega)⟩
        have e1 : (nT n).cps.toList = w.cps.toList := by
          rw [← hn]
          show (Str.ofString (toString ((NumText.digitsVal w.cps.toList : Nat) : Int))).cps.toList = _
          rw [PySem.W.KIN.signs_num]
          have hh : w.cps.toList.head? ≠ some 48 := by
            rcases hz with hz | hz
            · rw [hz] at hn
              have : NumText.digitsVal [48] = 0 := by decide
              rw [this] at hn
              omega
            · exact hz
          cases hw : w.cps.toList with
          | nil => rw [hw] at hl; simp at hl; omega
          | cons c r =>
            rw [hw] at hd hh
            have hc := hd.head
            have hc2 : c ≠ 48 := fun e => hh (by rw [e]; rfl)
            rw [NumText.toDigits_digitsVal r.length (c :: r) rfl hd (.inr ⟨c, r, rfl, by omega⟩), List.map_map]
            have : ∀ x ∈ c :: r, (Char.toNat ∘ Char.ofNat) x = x := fun x hx => by
              have hx := hd x hx
              have : ∀ m : Nat, m < 10 → (Char.toNat ∘ Char.ofNat) (48 + m) = 48 + m := by decide
              have := this (x - 48) (by omega)
              rwa [show 48 + (x - 48) = x by omega] at this
            rw [List.map_congr_left this]
            exact List.map_id' _
        cases hw : w with
        | mk a =>
          rw [hw] at e1
          cases hn2 : nT n with
          | mk b =>
            rw [hn2] at e1
            congr 1
            exact Array.ext' e1
      · cases h
    · cases hn
  · cases h
theorem big_log {v : Int} (h0 : 0 ≤ v) (h1 : v ≤ MXN) : v.natAbs.log2 < 1920 := by
  rw [MXN_eq] at h1
  have h2 : v.natAbs < 2 ^ 200 := by
    have : (10 ^ 60 : Nat) < 2 ^ 200 := by decide +kernel
    omega
  by_cases z : v.natAbs = 0
  · rw [z]; decide
  · have := (Nat.log2_lt z).mpr h2
    omega
theorem dStr_B {v : Int} (h0 : 0 ≤ v) (h1 : v ≤ MXN) : dStr [.int v] = some (.str (nT v)) := dStr_I (big_log h0 h1)
theorem fmt_B {v : Int} (h0 : 0 ≤ v) (h1 : v ≤ MXN) : fmtD (.int v) = some (.str (nT v)) := by
  unfold fmtD
  exact if_pos (big_log h0 h1)
end Nk
namespace Nk
open PySem PyProof.Rows L2 Sh
def ltS (a b : Str) : Bool := decide (a.cps.toList < b.cps.toList)
theorem dLe_ss {a b : Str} : dLe (.str a) (.str b) = some (.bl (!ltS b a)) := rfl
theorem ws_numN (ws : List Str) (l i : Nat) (S : Store) (h : i ≤ ws.length) (hs : ∀ w ∈ ws, w.length ≤ 90000) : sh_Words_take_number [.ref S.length, .int 1, .non] (S ++ [Ws ws l i]) = match (ws[i]?).bind numP with
    | some n => .ok (.int n) (S ++ [Ws ws l (i + 1)])
    | none => .er (badX l i) (S ++ [Ws ws l i]) := by
  unfold sh_Words_take_number pic_Words_take_number
  cases hw : ws[i]? with
  | none =>
    simp_all_arith [ws_isC, ws_upG ws l i S h, hw, wsD, dflF, ws_refuse]
  | some w =>
    have hn := number_in_ok w (S ++ [Ws ws l i]) (hs w (List.mem_of_getElem? hw))
    rw [Option.bind_some]
    unfold numP
    cases hq : numW w with
    | none =>
      rw [hq] at hn
      simp_all_arith [ws_isC, ws_upG ws l i S h, hw, wsD, hn, dflF, ws_refuse]
    | some n =>
      rw [hq] at hn
      by_cases h1 : 1 ≤ n
      · simp_all_arith [ws_isC, ws_upG ws l i S h, hw, wsD, hn, decide_eq_false (show ¬ n < 1 by omega), ws_skip ws l i w S hw, h1]
      · simp_all_arith [ws_isC, ws_upG ws l i S h, hw, wsD, hn, decide_eq_true (show n < 1 by omega), dflF, ws_refuse]
        rw [if_neg h1]
theorem ws_refuseI (ws : List Str) (l i : Nat) (k : Nat) (S : Store) : sh_Words_refuse [.ref S.length, .int k] (S ++ [Ws ws l i]) = .er (badX l k) (S ++ [Ws ws l i]) := by
  unfold sh_Words_refuse pic_Words_refuse
  simp_all_arith [ws_line, ws_next, ap_sRs]
  rfl
theorem qes_strs (xs ys : List Str) : D.qes (xs.map .str) (ys.map .str) = decide (xs = ys) := by
  induction xs generalizing ys with
  | nil => cases ys <;> simp [qes_nil, qes_nc]
  | cons x xs ih =>
    cases ys with
    | nil => simp [qes_cn]
    | cons y ys =>
      rw [List.map_cons, List.map_cons, qes_cons, ih, qe_ss, Bool.eq_iff_iff]
      simp
theorem strs_dat8 (xs : List Str) : isDat 9 (.lst (xs.map .str)) = true := by
  rw [isDat_l9, List.all_eq_true]
  intro d hd
  obtain ⟨z, _, rfl⟩ := List.mem_map.mp hd
  exact isDat_str
theorem ne_lone (ws : List Str) (z : Str) : dNe (.lst (ws.map .str)) (.lst [.str z]) = some (.bl (!decide (ws = [z]))) := by
  rw [show [D.str z] = [z].map D.str from rfl, dNe_q (strs_dat8 ws) (strs_dat8 [z]), qe_ll, qes_strs]
theorem eq_lone (ws : List Str) (z : Str) : dEq (.lst (ws.map .str)) (.lst [.str z]) = some (.bl (decide (ws = [z]))) := by
  rw [show [D.str z] = [z].map D.str from rfl, dEq_q (strs_dat8 ws) (strs_dat8 [z]), qe_ll, qes_strs]
abbrev noneW : List Str := [Str.ofString "none"]
theorem ws_lone (ws : List Str) (l : Nat) (S : Store) (hl : ws.length ≤ 90000) : sh_Words_is_lone [.ref S.length, .str "none"] (S ++ [Ws ws l 0]) = if ws = noneW then .ok (.bl true) (S ++ [Ws ws l ws.length]) else .ok (.bl false) (S ++ [Ws ws l 0]) := by
  have hn := ne_lone ws "none"
  unfold sh_Words_is_lone pic_Words_is_lone
  by_cases h : ws = noneW
  · subst h
    simp_all_arith [ws_told, ws_next, ws_isC, app_get, app_set, putD]
    rfl
  · rw [decide_eq_false h] at hn
    simp_all_arith [ws_told, ws_next, hn, h, hl]
theorem at_pre {pre rest : List Str} : (pre ++ rest)[pre.length]? = rest.head? := by
  rw [List.getElem?_append_right (Nat.le_refl _), Nat.sub_self, List.head?_eq_getElem?]
theorem at_pre1 {pre : List Str} {b : Str} {rest : List Str} : (pre ++ b :: rest)[pre.length + 1]? = rest.head? := by
  have := at_pre (pre := pre ++ [b]) (rest := rest)
  rw [List.append_assoc, List.singleton_append, List.length_append, List.length_singleton] at this
  exact this
theorem ltS_irr (a : Str) : ltS a a = false := decide_eq_false (List.lt_irrefl _)
theorem ltS_tr {a b c : Str} (h1 : ltS a b = true) (h2 : ltS b c = true) : ltS a c = true := decide_eq_true (List.lt_trans (of_decide_eq_true h1) (of_decide_eq_true h2))
end Nk
namespace Nk
open PySem PyProof.Rows L2 Sh
abbrev Pp := Str × Str
abbrev pD (p : Pp) : D := .tup [.str p.1, .str p.2]
abbrev pk (p : Pp) : List Key := [.inr p.1, .inr p.2]
theorem pk_inj {p q : Pp} (h : pk p = pk q) : p = q := by
  injection h with h1 h2
  injection h2 with h2 _
  exact Prod.ext (Sum.inr.inj h1) (Sum.inr.inj h2)
theorem pD_key (p : Pp) : (pD p).tkey = some (pk p) := rfl
abbrev Te := Pp × Int
def tk (e : Te) : List Key × D := (pk e.1, .int e.2)
abbrev tks (xs : List Te) : List (List Key × D) := xs.map tk
abbrev prs (xs : List Te) : List Pp := xs.map (·.1)
def pget : List Te → Pp → Int
  | [], _ => 0
  | p :: r, z => if p.1 = z then p.2 else pget r z
theorem dtV_tks : ∀ (xs : List Te) (z : Pp), dtV (tks xs) (pk z) = if z ∈ prs xs then some (.int (pget xs z)) else none
  | [], z => rfl
  | p :: r, z => by
    have ih := dtV_tks r z
    show dtV (tk p :: tks r) (pk z) = _
    unfold dtV pget
    by_cases h : p.1 = z
    · rw [if_pos (show (tk p).1 = pk z by unfold tk; rw [h]), if_pos h, if_pos (by show z ∈ p.1 :: prs r; rw [h]; exact List.mem_cons_self)]
      rfl
    · rw [if_neg (show ¬ (tk p).1 = pk z from fun e => h (pk_inj e)), if_neg h, ih]
      have : (z ∈ prs (p :: r)) = (z ∈ prs r) := by
        show (z ∈ p.1 :: prs r) = _
        rw [List.mem_cons]
        exact propext ⟨fun q => q.elim (fun e => absurd e.symm h) id, .inr⟩
      simp only [this]
theorem pget_no : ∀ {xs : List Te} {z : Pp}, z ∉ prs xs → pget xs z = 0
  | [], _, _ => rfl
  | p :: r, z, h => by
    have h : ¬ z ∈ p.1 :: prs r := h
    rw [List.mem_cons, not_or] at h
    unfold pget
    rw [if_neg fun e => h.1 e.symm]
    exact pget_no h.2
theorem pget_mem : ∀ {xs : List Te} {z : Pp}, z ∈ prs xs → ∃ p ∈ xs, p.1 = z ∧ pget xs z = p.2
  | [], z, h => nomatch h
  | p :: r, z, h => by
    unfold pget
    by_cases e : p.1 = z
    · exact ⟨p, List.mem_cons_self, e, by rw [if_pos e]⟩
    · rw [if_neg e]
      have h : z ∈ p.1 :: prs r := h
      obtain ⟨q, hq, e1, e2⟩ := pget_mem ((List.mem_cons.mp h).resolve_left fun q => e q.symm)
      exact ⟨q, List.mem_cons_of_mem _ hq, e1, e2⟩
def ltP (a b : Pp) : Bool := ltS a.1 b.1 || (a.1 == b.1 && ltS a.2 b.2)
theorem ltP_irr (a : Pp) : ltP a a = false := by unfold ltP; rw [ltS_irr, ltS_irr]; simp
theorem ltP_tr {a b c : Pp} (h1 : ltP a b = true) (h2 : ltP b c = true) : ltP a c = true := by
  unfold ltP at *
  rw [Bool.or_eq_true, Bool.and_eq_true, beq_iff_eq] at *
  rcases h1 with h1 | ⟨e1, h1⟩ <;> rcases h2 with h2 | ⟨e2, h2⟩
  · exact .inl (ltS_tr h1 h2)
  · exact .inl (e2 ▸ h1)
  · exact .inl (e1 ▸ h2)
  · exact .inr ⟨e1.trans e2, ltS_tr h1 h2⟩
theorem ltP_asym {a b : Pp} (h1 : ltP a b = true) (h2 : ltP b a = true) : False := by
  have := ltP_tr h1 h2
  rw [ltP_irr] at this
  cases this
abbrev sdd (l : List Str) : List Str := srtS (dd0 l)
theorem sdd_mem {l : List Str} {z : Str} : z ∈ sdd l ↔ z ∈ l := by rw [(srtS_perm _).mem_iff, dd0_mem]
theorem sdd_nd (l : List Str) : (sdd l).Nodup := (srtS_perm _).nodup_iff.mpr (dd0_nodup l)
theorem sdd_lt (l : List Str) : (sdd l).Pairwise fun a b => ltS a b = true := ((srtS_pw _).and (sdd_nd l)).imp fun {a b} q => decide_eq_true (Classical.byContradiction fun n => q.2 (str_ext (List.le_antisymm q.1 (List.not_lt.mp n))))
theorem dd0_lenZ : ∀ l : List Str, (dd0 l).length ≤ l.length := fun l => nd_le (dd0_nodup l) fun z h => (dd0_mem l z).mp h
theorem sdd_len (l : List Str) : (sdd l).length ≤ l.length := by rw [(srtS_perm _).length_eq]; exact dd0_lenZ l
abbrev bysP (ps : List Pp) (k : Str) : List Str := (ps.filter fun p => p.1 == k).map (·.2)
def APs (ps : List Pp) : List Pp := (sdd (ps.map (·.1))).flatMap fun k => (sdd (bysP ps k)).map fun b => (k, b)
theorem bysP_mem {ps : List Pp} {k b : Str} : b ∈ bysP ps k ↔ (k, b) ∈ ps := by
  rw [List.mem_map]
  constructor
  · rintro ⟨p, hp, rfl⟩
    rw [List.mem_filter, beq_iff_eq] at hp
    obtain ⟨h, rfl⟩ := hp
    exact h
  · intro h
    exact ⟨(k, b), by rw [List.mem_filter, beq_iff_eq]; exact ⟨h, rfl⟩, rfl⟩
theorem APs_mem {ps : List Pp} {p : Pp} : p ∈ APs ps ↔ p ∈ ps := by
  unfold APs
  rw [List.mem_flatMap]
  constructor
  · rintro ⟨k, _, h⟩
    obtain ⟨b, hb, rfl⟩ := List.mem_map.mp h
    exact bysP_mem.mp (sdd_mem.mp hb)
  · intro h
    exact ⟨p.1, sdd_mem.mpr (List.mem_map_of_mem h), List.mem_map.mpr ⟨p.2, sdd_mem.mpr (bysP_mem.mpr h), rfl⟩⟩
theorem APs_lt (ps : List Pp) : (APs ps).Pairwise fun a b => ltP a b = true := by
  unfold APs
  rw [List.pairwise_flatMap]
  refine ⟨fun k _ => List.pairwise_map.mpr ((sdd_lt _).imp fun {a b} h => ?_), (sdd_lt _).imp fun {a b} h x hx y hy => ?_⟩
  · unfold ltP
    rw [Bool.or_eq_true, Bool.and_eq_true, beq_iff_eq]
    exact .inr ⟨rfl, h⟩
  · obtain ⟨_, _, rfl⟩ := List.mem_map.mp hx
    obtain ⟨_, _, rfl⟩ := List.mem_map.mp hy
    unfold ltP
    rw [Bool.or_eq_true]
    exact .inl h
theorem lt_nd {l : List Pp} (h : l.Pairwise fun a b => ltP a b = true) : l.Nodup := h.imp fun {a b} h e => by rw [e, ltP_irr] at h; cases h
theorem asc_ext {a b : List Pp} (ha : a.Pairwise fun a b => ltP a b = true) (hb : b.Pairwise fun a b => ltP a b = true) (h : ∀ z, z ∈ a ↔ z ∈ b) : a = b :=
  ((List.perm_ext_iff_of_nodup (lt_nd ha) (lt_nd hb)).mpr h).eq_of_pairwise (fun x y _ _ h1 h2 => (ltP_asym h1 h2).elim) ha hb
theorem APs_len {ps : List Pp} : (APs ps).length ≤ ps.length := by
  have h2 : ∀ {a b : List Pp}, a.Nodup → (∀ z ∈ a, z ∈ b) → a.length ≤ b.length := by
    intro a
    induction a with
    | nil => exact fun _ _ => Nat.zero_le _
    | cons x a ih =>
      intro b hd hs
      have h1 := List.nodup_cons.mp hd
      have hx := hs x List.mem_cons_self
      have := ih (b := b.erase x) h1.2 fun z hz => (List.mem_erase_of_ne (fun (e : z = x) => h1.1 (e ▸ hz))).mpr (hs z (List.mem_cons_of_mem _ hz))
      rw [List.length_erase_of_mem hx] at this
      have hp : 0 < b.length := List.length_pos_of_mem hx
      rw [List.length_cons]
      omega
  exact h2 (lt_nd (APs_lt ps)) fun z h => APs_mem.mp h
structure OkP (xs : List Te) : Prop where
  n : ∀ p ∈ xs, isNm p.1.1 = true ∧ isNm p.1.2 = true
  v : ∀ p ∈ xs, 0 ≤ p.2 ∧ p.2 ≤ MXN
  d : (prs xs).Nodup
  l : xs.length ≤ 60
def normP (xs : List Te) : List Te := ((APs (prs xs)).map fun z => (z, pget xs z)).filter fun p => p.2 != 0
structure NP (a : List Te) : Prop where
  n : ∀ p ∈ a, isNm p.1.1 = true ∧ isNm p.1.2 = true
  v : ∀ p ∈ a, 0 < p.2 ∧ p.2 ≤ MXN
  s : (prs a).Pairwise fun a b => ltP a b = true
theorem NP.d {a : List Te} (h : NP a) : (prs a).Nodup := lt_nd h.s
theorem NP.mem {a : List Te} (h : NP a) (z : Pp) : z ∈ prs a ↔ pget a z ≠ 0 := by
  constructor
  · intro hz
    obtain ⟨p, hp, _, e⟩ := pget_mem hz
    rw [e]
    have := (h.v p hp).1
    omega
  · exact fun hz => Classical.byContradiction fun n => hz (pget_no n)
theorem ptab_of : ∀ {a : List Te}, (prs a).Nodup → a = (prs a).map fun z => (z, pget a z)
  | [], _ => rfl
  | p :: a, h => by
    have h : (p.1 :: prs a).Nodup := h
    have h1 := List.nodup_cons.mp h
    have ih := ptab_of h1.2
    show p :: a = (p.1, pget (p :: a) p.1) :: (prs a).map fun z => (z, pget (p :: a) z)
    have e1 : pget (p :: a) p.1 = p.2 := by unfold pget; rw [if_pos rfl]
    rw [e1]
    have : ((prs a).map fun z => (z, pget (p :: a) z)) = (prs a).map fun z => (z, pget a z) := by
      refine List.map_congr_left fun z hz => ?_
      have : pget (p :: a) z = pget a z := by
        show (if p.1 = z then p.2 else pget a z) = _
        rw [if_neg (fun (e : p.1 = z) => h1.1 (e ▸ hz))]
      rw [this]
    rw [this, ← ih]
theorem NP.ext {a b : List Te} (ha : NP a) (hb : NP b) (h : ∀ z, pget a z = pget b z) : a = b := by
  have e : prs a = prs b := asc_ext ha.s hb.s fun z => by rw [ha.mem, hb.mem, h]
  rw [ptab_of ha.d, ptab_of hb.d, e]
  exact List.map_congr_left fun z _ => by rw [h]
theorem pget_flt (f : Pp → Int) : ∀ (l : List Pp) (z : Pp), pget ((l.map fun z => (z, f z)).filter fun p => p.2 != 0) z = if z ∈ l then f z else 0
  | [], z => rfl
  | x :: l, z => by
    have ih := pget_flt f l z
    rw [List.map_cons]
    by_cases h0 : f x = 0
    · rw [List.filter_cons_of_neg (by simp [h0]), ih]
      by_cases hz : z = x
      · subst hz
        rw [if_pos List.mem_cons_self]
        by_cases hm : z ∈ l
        · rw [if_pos hm]
        · rw [if_neg hm, h0]
      · by_cases hm : z ∈ l
        · rw [if_pos hm, if_pos (List.mem_cons_of_mem _ hm)]
        · rw [if_neg hm, if_neg (fun q => (List.mem_cons.mp q).elim hz hm)]
    · rw [List.filter_cons_of_pos (by simp [h0])]
      unfold pget
      by_cases hz : x = z
      · subst hz
        rw [if_pos rfl, if_pos List.mem_cons_self]
      · rw [if_neg hz, ih]
        by_cases hm : z ∈ l
        · rw [if_pos hm, if_pos (List.mem_cons_of_mem _ hm)]
        · rw [if_neg hm, if_neg (fun q => (List.mem_cons.mp q).elim (fun e => hz e.symm) hm)]
theorem pget_norm (xs : List Te) (z : Pp) : pget (normP xs) z = pget xs z := by
  unfold normP
  rw [pget_flt]
  by_cases h : z ∈ prs xs
  · rw [if_pos (APs_mem.mpr h)]
  · rw [if_neg (fun q => h (APs_mem.mp q)), pget_no h]
theorem pget_ok {xs : List Te} (h : OkP xs) (z : Pp) : 0 ≤ pget xs z ∧ pget xs z ≤ MXN := by
  by_cases hz : z ∈ prs xs
  · obtain ⟨p, hp, _, e⟩ := pget_mem hz
    rw [e]; exact h.v p hp
  · rw [pget_no hz]; exact ⟨by omega, by decide⟩
theorem flt_prs (f : Pp → Int) (l : List Pp) : (prs ((l.map fun z => (z, f z)).filter fun p => p.2 != 0)).Sublist l := by
  induction l with
  | nil => exact List.Sublist.refl _
  | cons x l ih =>
    rw [List.map_cons]
    by_cases h0 : f x = 0
    · rw [List.filter_cons_of_neg (by simp [h0])]
      exact ih.cons _
    · rw [List.filter_cons_of_pos (by simp [h0])]
      exact ih.cons₂ _
theorem normP_NP {xs : List Te} (h : OkP xs) : NP (normP xs) := by
  have m : ∀ p ∈ normP xs, p.1 ∈ prs xs ∧ p.2 = pget xs p.1 ∧ p.2 ≠ 0 := fun p hp => by
    unfold normP at hp
    obtain ⟨h1, h2⟩ := List.mem_filter.mp hp
    obtain ⟨z, hz, rfl⟩ := List.mem_map.mp h1
    exact ⟨APs_mem.mp hz, rfl, by simpa using h2⟩
  refine ⟨fun p hp => ?_, fun p hp => ?_, (APs_lt _).sublist (flt_prs _ _)⟩
  · obtain ⟨q, hq, e⟩ := List.mem_map.mp (m p hp).1
    rw [← e]; exact h.n q hq
  · obtain ⟨_, e, n⟩ := m p hp
    have := pget_ok h p.1
    omega
theorem normP_len (xs : List Te) : (normP xs).length ≤ xs.length := by
  unfold normP
  refine Nat.le_trans (List.length_filter_le _ _) ?_
  rw [List.length_map]
  exact Nat.le_trans APs_len (by rw [List.length_map]; exact Nat.le_refl _)
theorem NP.ok {a : List Te} (h : NP a) (hl : a.length ≤ 60) : OkP a := ⟨h.n, fun p hp => by have := h.v p hp; omega, h.d, hl⟩
theorem NP.norm {a : List Te} (h : NP a) (hl : a.length ≤ 60) : normP a = a := (normP_NP (h.ok hl)).ext h fun z => pget_norm a z
end Nk
namespace Nk
open PySem PyProof.Rows L2 Sh
theorem dEq_iiZ {a b : Int} : dEq (.int a) (.int b) = some (.bl (a == b)) := dEq_ii
theorem pair_ok (p : Pp) (S : Store) : sh_is_name_pair [pD p] S = .ok (.bl (isNm p.1 && isNm p.2)) S := by
  have h1 := is_name_str p.1 S
  have h2 := is_name_str p.2 S
  have l : dLen [pD p] = some (.int 2) := rfl
  have i : isiF ["tuple"] [] (pD p) = some true := rfl
  unfold sh_is_name_pair pic_is_name_pair
  cases h : isNm p.1
  · rw [h] at h1
    simp_all_arith [i, l, dEq_iiZ, h1]
  · rw [h] at h1
    simp_all_arith [i, l, dEq_iiZ, h1, h2]
theorem dssZ {ys : List Str} (h : ys.length < 64) : dSortSet (.lst (ys.map D.str)) = some (.lst ((sdd ys).map D.str)) := by
  unfold dSortSet
  dsimp only
  rw [Sh.strs_map]
  dsimp only
  rw [if_pos h]
theorem mapA_filZ {α : Type} {g : Tg} {t : Sx Bool} {f : Sx D} {e : En} {S : Store} (enc : α → D) (p : α → Bool) (k : α → D) (xs : List α) (acc : List D) (h : ∀ x ∈ xs, ∃ e1, g (enc x) e = some e1 ∧ t e1 S = .ok (p x) S ∧ (p x = true → f e1 S = .ok (k x) S)) : mapA g t f acc (xs.map enc) e S = .ok (acc ++ (xs.filter p).map k) S := by
  induction xs generalizing acc with
  | nil => rw [List.map_nil, mapA_nil, List.filter_nil, List.map_nil, List.append_nil]
  | cons x r ih =>
    obtain ⟨e1, h1, h2, h3⟩ := h x List.mem_cons_self
    rw [List.map_cons, mapA_cons, h1]
    show (t e1 S).bind _ = _
    rw [h2, ok_bind]
    cases hp : p x with
    | true =>
      rw [if_pos rfl, h3 hp, ok_bind, ih (acc ++ [k x]) (fun y hy => h y (List.mem_cons_of_mem _ hy)), List.append_assoc, List.filter_cons_of_pos hp]
      rfl
    | false =>
      rw [if_neg (by decide), ih acc (fun y hy => h y (List.mem_cons_of_mem _ hy)), List.filter_cons_of_neg (by rw [hp]; decide)]
theorem mapB_encZ {α β : Type} {g g1 : Tg} {it1 : Sx (List D)} {vs1 : List Nat} {f : Sx D} {e : En} {S : Store} (enc : α → D) (sub : α → List β) (encB : β → D) (out : α → β → D) : ∀ (xs : List α) (acc : List D),
    (∀ x ∈ xs, ∃ e1, g (enc x) e = some e1 ∧ it1 e1 S = .ok ((sub x).map encB) S ∧ vs1.all (fun v => notOwn v e1) = true ∧ ∀ y ∈ sub x, ∃ e2, g1 (encB y) (clr vs1 e1) = some e2 ∧ f e2 S = .ok (out x y) S) →
    acc.length + (xs.flatMap sub).length ≤ 16777216 →
    mapB g tYesD it1 vs1 g1 tYesD f acc (xs.map enc) e S = .ok (acc ++ xs.flatMap fun x => (sub x).map (out x)) S
  | [], acc, _, _ => by rw [List.flatMap_nil, List.append_nil]; rfl
  | x :: xs, acc, h, hl => by
    obtain ⟨e1, h1, h2, h3, h4⟩ := h x List.mem_cons_self
    rw [List.flatMap_cons, List.length_append] at hl
    have m := mapA_enc (g := g1) (f := f) (e := clr vs1 e1) (S := S) encB (out x) (sub x) acc h4
    have ih := mapB_encZ (g := g) (g1 := g1) (it1 := it1) (vs1 := vs1) (f := f) (e := e) (S := S) enc sub encB out xs (acc ++ (sub x).map (out x)) (fun y hy => h y (List.mem_cons_of_mem _ hy)) (by rw [List.length_append, List.length_map]; omega)
    rw [List.map_cons]
    unfold mapB
    rw [h1]
    dsimp only
    rw [show tYesD e1 S = .ok true S from rfl, ok_bind, if_pos rfl, h2, ok_bind, if_pos ⟨by rw [List.length_map]; exact of_eq_true (szl (by omega)), h3⟩, m, ok_bind, ih, List.append_assoc, List.flatMap_cons]
abbrev pDs (ps : List Pp) : D := .lst (ps.map pD)
theorem bysP_len (ps : List Pp) (k : Str) : (bysP ps k).length ≤ ps.length := by rw [List.length_map]; exact List.length_filter_le _ _
theorem asc_ok (ps : List Pp) (hl : ps.length ≤ 60) (S : Store) : sh_ascending_pairs [pDs ps] S = .ok (pDs (APs ps)) S := by
  have hl2 : ps.length ≤ 16777216 := by omega
  have m1 := mapA_enc (g := gT (gsCons (gN 2) (gsCons (gN 3) gsNil))) (f := eCall dStr (aCons (eVar 2) aNil)) (e := [.val (pDs ps), .no, .no, .no, .no, .no]) (S := S) pD (fun p => .str p.1) ps [] (fun p _ => ⟨[.val (pDs ps), .no, .val (.str p.1), .val (.str p.2), .no, .no], by simp_all_arith, by simp_all_arith⟩)
  rw [List.nil_append, show (ps.map fun p => D.str p.1) = (ps.map (·.1)).map D.str by rw [List.map_map]; rfl] at m1
  have s1 := dssZ (ys := ps.map (·.1)) (by rw [List.length_map]; omega)
  have kl : (sdd (ps.map (·.1))).length ≤ 60 := Nat.le_trans (sdd_len _) (by rw [List.length_map]; exact hl)
  have fl : ((sdd (ps.map (·.1))).flatMap fun k => sdd (bysP ps k)).length ≤ 60 := by
    have : (APs ps).length = ((sdd (ps.map (·.1))).flatMap fun k => sdd (bysP ps k)).length := by
      unfold APs
      rw [List.length_flatMap, List.length_flatMap]
      congr 1
      refine List.map_congr_left fun k _ => ?_
      rw [List.length_map]
    rw [← this]
    exact Nat.le_trans APs_len hl
  have m2 := mapB_encZ (g := gN 2) (g1 := gN 3) (vs1 := [3]) (it1 := iSq (eUn dSortSet (eNew (lComp [4, 5] (iSq (eVar 0)) (gT (gsCons (gN 4) (gsCons (gN 5) gsNil))) (tVal (eBin dEq (eVar 4) (eVar 2))) (eCall dStr (aCons (eVar 5) aNil)))))) (f := eTup (aCons (eVar 2) (aCons (eVar 3) aNil))) (e := [.val (pDs ps), .val (.lst ((sdd (ps.map (·.1))).map .str)), .no, .no, .no, .no]) (S := S) D.str (fun k => sdd (bysP ps k)) D.str (fun k b => pD (k, b)) (sdd (ps.map (·.1))) [] (fun k _ => by
    refine ⟨[.val (pDs ps), .val (.lst ((sdd (ps.map (·.1))).map .str)), .val (.str k), .no, .no, .no], by simp_all_arith, ?_, by simp_all_arith, fun b _ => ⟨[.val (pDs ps), .val (.lst ((sdd (ps.map (·.1))).map .str)), .val (.str k), .val (.str b), .no, .no], by simp_all_arith, by simp_all_arith⟩⟩
    have m3 := mapA_filZ (g := gT (gsCons (gN 4) (gsCons (gN 5) gsNil))) (t := tVal (eBin dEq (eVar 4) (eVar 2))) (f := eCall dStr (aCons (eVar 5) aNil)) (e := [.val (pDs ps), .val (.lst ((sdd (ps.map (·.1))).map .str)), .val (.str k), .no, .no, .no]) (S := S) pD (fun p => p.1 == k) (fun p => .str p.2) ps [] (fun p _ => ⟨[.val (pDs ps), .val (.lst ((sdd (ps.map (·.1))).map .str)), .val (.str k), .no, .val (.str p.1), .val (.str p.2)], by simp_all_arith, by simp_all_arith [dEq_ss], fun _ => by simp_all_arith⟩)
    rw [List.nil_append, show ((ps.filter fun p => p.1 == k).map fun p => D.str p.2) = (bysP ps k).map D.str by rw [List.map_map]; rfl] at m3
    have bl := bysP_len ps k
    have s3 := dssZ (ys := bysP ps k) (by omega)
    have bl2 : (bysP ps k).length ≤ 16777216 := by omega
    have bl3 : ((bysP ps k).map D.str).length ≤ 16777216 := by rw [List.length_map]; omega
    generalize bysP ps k = Y at *
    simp_all_arith [m3, s3, hl2, bl2, bl3]) (by rw [List.length_nil]; omega)
  rw [List.nil_append] at m2
  have e3 : ((sdd (ps.map (·.1))).flatMap fun x => (sdd (bysP ps x)).map fun b => pD (x, b)) = (APs ps).map pD := by
    unfold APs
    rw [List.map_flatMap]
    congr 1
    funext k
    rw [List.map_map]
    rfl
  rw [e3] at m2
  have al : ((APs ps).map pD).length ≤ 16777216 := by rw [List.length_map]; exact Nat.le_trans APs_len (by omega)
  have kl2 : ((sdd (ps.map (·.1))).map D.str).length ≤ 16777216 := by rw [List.length_map]; omega
  show _ = R.ok (D.lst ((APs ps).map pD)) S
  generalize (APs ps).map pD = A at *
  generalize sdd (ps.map (·.1)) = Ks at *
  unfold sh_ascending_pairs pic_ascending_pairs
  simp_all_arith [m1, s1, m2, hl2, kl, kl2, al]
abbrev tbP (xs : List Te) : D := .ft (tks xs)
abbrev StD (xs : List Te) : D := .obj "Standing" [("own_things", tbP xs)]
theorem keys_tks (xs : List Te) : ((tks xs).map fun p => tkeyD p.1) = (prs xs).map pD := by
  rw [List.map_map, List.map_map]
  rfl
theorem pairs_loop (t : D) (a2 a3 : Sl) (S : Store) : ∀ (zs : List Pp) (a1 : Sl), a1.free = true → (∀ z ∈ zs, isNm z.1 = true ∧ isNm z.2 = true) → ∃ y, y.free = true ∧ forD (gN 1) (sIf (tNt (tVal (eDf sh_is_name_pair (aCons (eVar 1) aNil))))
    (sRs "BadName" ["value"] (aCons (eVar 1) aNil))
    sNil) (zs.map pD) [.val t, a1, a2, a3] S = .nx [.val t, y, a2, a3] S
  | [], a1, f1, _ => ⟨a1, f1, rfl⟩
  | z :: zs, a1, f1, h => by
    obtain ⟨y, fy, e⟩ := pairs_loop t a2 a3 S zs (.val (pD z)) rfl (fun x hx => h x (List.mem_cons_of_mem _ hx))
    have hz := h z List.mem_cons_self
    have p := pair_ok z S
    rw [hz.1, hz.2] at p
    refine ⟨y, fy, ?_⟩
    rw [List.map_cons, Sh.forD_cons]
    generalize pD z = d at *
    simp_all_arith [f1, p]
    exact e
theorem pnums_loop (xs : List Te) (h : OkP xs) (a1 a2 : Sl) (S : Store) : ∀ (zs : List Pp) (a3 : Sl), a3.free = true → (∀ z ∈ zs, z ∈ prs xs) → ∃ y, y.free = true ∧ forD (gN 3) (sIf (tNt (tVal (eDf sh_is_number (aCons (eDixT (eVar 0) (eVar 3)) aNil))))
    (sRs "BadNumber" ["value"] (aCons (eDixT (eVar 0) (eVar 3)) aNil))
    sNil) (zs.map pD) [.val (tbP xs), a1, a2, a3] S = .nx [.val (tbP xs), a1, a2, y] S
  | [], a3, f3, _ => ⟨a3, f3, rfl⟩
  | z :: zs, a3, f3, hz => by
    obtain ⟨y, fy, e⟩ := pnums_loop xs h a1 a2 S zs (.val (pD z)) rfl (fun x hx => hz x (List.mem_cons_of_mem _ hx))
    refine ⟨y, fy, ?_⟩
    have g := dtV_tks xs z
    rw [if_pos (hz z List.mem_cons_self)] at g
    have g : ((D.dtv S (tbP xs)).bind fun kvs => dtV kvs (pk z)) = some (.int (pget xs z)) := g
    have n := pget_ok h z
    have k := pD_key z
    rw [List.map_cons, Sh.forD_cons]
    generalize pD z = d at *
    simp_all_arith [f3, k, g, is_num, decide_eq_true n]
    exact e
theorem mapT_cons {g : Tg} {t : Sx Bool} {fk fv : Sx D} {acc : List (List Key × D)} {d : D} {ds : List D} {e : En} {S : Store} : mapT g t fk fv acc (d :: ds) e S = match g d e with
    | none => .no
    | some e1 => (t e1 S).bind fun c S1 => if c then (fk e1 S1).bind fun y S2 => (fv e1 S2).bind fun z S3 => match y.tkey with
      | some k => mapT g t fk fv (dtSt acc k z) ds e S3
      | none => .no
      else mapT g t fk fv acc ds e S1 := rfl
theorem dtSt_new {kvs : List (List Key × D)} {k : List Key} {d : D} (h : ∀ p ∈ kvs, p.1 ≠ k) : dtSt kvs k d = kvs ++ [(k, d)] := by
  unfold dtSt
  rw [if_neg]
  rw [List.any_eq_true]
  rintro ⟨p, hp, e⟩
  exact h p hp (of_decide_eq_true e)
theorem dtSt_tks {acc : List Te} {z : Pp} {v : Int} (h : z ∉ prs acc) : dtSt (tks acc) (pk z) (.int v) = tks (acc ++ [(z, v)]) := by
  rw [dtSt_new]
  · show tks acc ++ [tk (z, v)] = _
    simp
  · intro p hp e
    obtain ⟨q, hq, rfl⟩ := List.mem_map.mp hp
    exact h (by rw [← pk_inj (show pk q.1 = pk z from e)]; exact List.mem_map_of_mem hq)
theorem pnorm_comp (xs : List Te) (a1 a2 : Sl) (S : Store) : ∀ (zs : List Pp) (acc : List Te), (prs acc ++ zs).Nodup → (∀ z ∈ zs, z ∈ prs xs) → mapT (gN 3) (tVal (eBin dNe (eDixT (eVar 0) (eVar 3)) (eC (.int 0)))) (eVar 3) (eDixT (eVar 0) (eVar 3)) (tks acc) (zs.map pD) [.val (tbP xs), a1, a2, .no] S = .ok (tks (acc ++ (zs.map fun z => (z, pget xs z)).filter fun p => p.2 != 0)) S
  | [], acc, _, _ => by rw [List.map_nil, List.map_nil, List.filter_nil, List.append_nil]; rfl
  | z :: zs, acc, hd, hz => by
    have g := dtV_tks xs z
    rw [if_pos (hz z List.mem_cons_self)] at g
    have g : ((D.dtv S (tbP xs)).bind fun kvs => dtV kvs (pk z)) = some (.int (pget xs z)) := g
    have k := pD_key z
    have hz2 : ∀ x ∈ zs, x ∈ prs xs := fun x hx => hz x (List.mem_cons_of_mem _ hx)
    rw [List.map_cons, List.map_cons, mapT_cons]
    by_cases h0 : pget xs z = 0
    · have ih := pnorm_comp xs a1 a2 S zs acc (hd.sublist ((List.Sublist.refl (prs acc)).append (List.sublist_cons_self z zs))) hz2
      rw [List.filter_cons_of_neg (by simp [h0])]
      generalize pD z = d at *
      simp_all_arith [k, g, h0]
      exact ih
    · have hn : z ∉ prs acc := fun q => (List.nodup_append.mp hd).2.2 z q z List.mem_cons_self rfl
      have ih := pnorm_comp xs a1 a2 S zs (acc ++ [(z, pget xs z)]) (by
        rw [show prs (acc ++ [(z, pget xs z)]) = prs acc ++ [z] from List.map_append .., List.append_assoc]
        exact hd) hz2
      rw [List.filter_cons_of_pos (by simp [h0])]
      have e0 : (pget xs z == 0) = false := by simpa using h0
      have st := dtSt_tks (v := pget xs z) hn
      rw [List.append_assoc, List.singleton_append] at ih
      generalize pD z = d at *
      simp_all_arith [k, g, e0, st]
      exact ih
theorem things_ok (xs : List Te) (h : OkP xs) (S : Store) : sh_things_of [tbP xs] S = .ok (tbP (normP xs)) S := by
  have hk := keys_tks xs
  have hxl := h.l
  have hl : (prs xs).length ≤ 60 := by rw [List.length_map]; exact h.l
  obtain ⟨y1, f1, e1⟩ := pairs_loop (tbP xs) .no .no S (prs xs) .no rfl (fun z hz => by obtain ⟨p, hp, rfl⟩ := List.mem_map.mp hz; exact h.n p hp)
  have m := mapA_enc (g := gN 1) (f := eVar 1) (e := [.val (tbP xs), .no, .no, .no]) (S := S) pD pD (prs xs) [] (fun z _ => ⟨[.val (tbP xs), .val (pD z), .no, .no], by simp_all_arith, by simp_all_arith⟩)
  rw [List.nil_append] at m
  have so : sh_ascending_pairs [.lst ((prs xs).map pD)] S = .ok (.lst ((APs (prs xs)).map pD)) S := asc_ok (prs xs) hl S
  have hs : ∀ z ∈ APs (prs xs), z ∈ prs xs := fun z hz => APs_mem.mp hz
  obtain ⟨y3, f3, e3⟩ := pnums_loop xs h y1 (.val (.lst ((APs (prs xs)).map pD))) S (APs (prs xs)) .no rfl hs
  have c := pnorm_comp xs y1 (.val (.lst ((APs (prs xs)).map pD))) S (APs (prs xs)) [] (by rw [show prs [] = [] from rfl, List.nil_append]; exact lt_nd (APs_lt _)) hs
  rw [show tks [] = [] from rfl, List.nil_append] at c
  have al : (APs (prs xs)).length ≤ 60 := Nat.le_trans APs_len hl
  have i : isiY ["dict"] [] (tbP xs) = some true := rfl
  have hl2 : ((prs xs).map pD).length ≤ 100 := by rw [List.length_map]; omega
  have al2 : ((APs (prs xs)).map pD).length ≤ 100 := by rw [List.length_map]; omega
  have tl : (tks xs).length ≤ 60 := by rw [List.length_map]; exact hxl
  unfold sh_things_of pic_things_of
  show _ = R.ok (D.ft (tks (((APs (prs xs)).map fun z => (z, pget xs z)).filter fun p => p.2 != 0))) S
  generalize ((APs (prs xs)).map fun z => (z, pget xs z)).filter (fun p => p.2 != 0) = N at *
  generalize (APs (prs xs)).map pD = A at *
  generalize (prs xs).map pD = B at *
  simp_all_arith [i, hk, e1, m, so, e3, c, hl2, f1, f3, al2, tl]
theorem stand_init (xs : List Te) (h : OkP xs) (S : Store) : sh_Standing_init (.ins "Standing" []) [tbP xs] S = .ok (.ins "Standing" [("own_things", tbP (normP xs))]) S := by
  unfold sh_Standing_init pic_Standing_init
  simp_all_arith [things_ok xs h S, putD]
end Nk
namespace Nk
open PySem PyProof.Rows L2 Sh
abbrev lE : Pp := (Str.ofString "", Str.ofString "")
def rdt : List Str → Nat → Pp → Except Nat (List Te)
  | [], i, _ => .error i
  | [a], i, _ => .error (if isNm a = true then i + 1 else i)
  | [a, b], i, last => .error (if isNm a = true then (if (isNm b && ltP last (a, b)) = true then i + 2 else i + 1) else i)
  | a :: b :: w :: r, i, last => if isNm a = true then (if (isNm b && ltP last (a, b)) = true then (match numP w with
      | none => .error (i + 2)
      | some v => if r = [] then .ok [((a, b), v)] else (match rdt r (i + 3) (a, b) with
        | .ok xs => .ok (((a, b), v) :: xs)
        | .error k => .error k)) else .error (i + 1)) else .error i
def parsT (ws : List Str) : Except Nat (List Te) := if ws = noneW then .ok [] else rdt ws 0 lE
theorem dLt_ssZ {a b : Str} : dLt (.str a) (.str b) = some (.bl (ltS a b)) := rfl
theorem ltS_tri {a b : Str} (h1 : ltS a b = false) (h2 : ltS b a = false) : a = b :=
  str_ext (List.le_antisymm (List.not_lt.mp (of_decide_eq_false h2)) (List.not_lt.mp (of_decide_eq_false h1)))
theorem ltP_not (q p : Pp) : (ltS p.1 q.1 || (p.1 == q.1 && !ltS q.2 p.2)) = !ltP q p := by
  unfold ltP
  cases h1 : ltS p.1 q.1
  · cases h2 : ltS q.1 p.1
    · have e := ltS_tri h1 h2
      rw [e, beq_self_eq_true]
      cases ltS q.2 p.2 <;> rfl
    · have n : (p.1 == q.1) = false := by
        rw [beq_eq_false_iff_ne]
        intro e
        rw [e, ltS_irr] at h2
        cases h2
      rw [n]
      rfl
  · have n : (q.1 == p.1) = false := by
      rw [beq_eq_false_iff_ne]
      intro e
      rw [e, ltS_irr] at h1
      cases h1
    have m : ltS q.1 p.1 = false := by
      cases h2 : ltS q.1 p.1
      · rfl
      · have := ltS_tr h1 h2
        rw [ltS_irr] at this
        cases this
    rw [n, m]
    rfl
theorem ltS_nm {a : Str} (h : isNm a = true) : ltS (Str.ofString "") a = true := by
  unfold ltS
  rw [decide_eq_true_eq]
  cases e : a.cps.toList with
  | nil =>
    have e : a = Str.ofString "" := str_ext (by rw [e]; rfl)
    rw [e] at h
    exact absurd h (by decide +kernel)
  | cons c r => exact List.nil_lt_cons c r
theorem ltP_nm {a b : Str} (h : isNm a = true) : ltP lE (a, b) = true := by
  unfold ltP
  rw [ltS_nm h]
  rfl
def LastD (d : D) (p : Pp) : Prop := (d = .non ∧ p = lE) ∨ d = pD p
abbrev cT : Sx Bool := tAd (tVal (eBin dNot (eVar 2) (eC .non))) (tOo (tVal (eBin dLt (eVar 3) (eIx (eVar 2) (eC (.int 0))))) (tAd (tVal (eBin dEq (eVar 3) (eIx (eVar 2) (eC (.int 0))))) (tVal (eBin dLe (eVar 4) (eIx (eVar 2) (eC (.int 1)))))))
theorem cT_ok {d : D} {last : Pp} {a b : Str} {x0 x1 : Sl} {S : Store} (hd : LastD d last) (ha : isNm a = true) : cT [x0, x1, .val d, .val (.str a), .val (.str b)] S = .ok (!ltP last (a, b)) S := by
  rcases hd with ⟨rfl, rfl⟩ | rfl
  · rw [ltP_nm ha]
    simp_all_arith
  · rw [← ltP_not last (a, b)]
    cases h1 : ltS a last.1
    · cases h2 : (a == last.1)
      · simp_all_arith [dLt_ssZ, h1, dEq_ss, h2]
      · simp_all_arith [dLt_ssZ, h1, dEq_ss, h2, dLe_ss]
    · simp_all_arith [dLt_ssZ, h1]
abbrev tX : Sx Bool := tOo (tVal (eBin dIs (eVar 2) (eC .non))) (tNt (tVal (eMe "Words" "is_over" sh_Words_is_over (eVar 0) aNil)))
theorem tX_on (ws : List Str) (S : Store) (i : Nat) (x1 x3 x4 : Sl) {d : D} {last : Pp} (hd : LastD d last) (h : i < ws.length) : tX [.val (.ref S.length), x1, .val d, x3, x4] (S ++ [Ws ws 0 i]) = .ok true (S ++ [Ws ws 0 i]) := by
  have o := ws_over ws 0 i S
  rw [decide_eq_false (show ¬ i = ws.length by omega)] at o
  rcases hd with ⟨rfl, _⟩ | rfl
  · simp_all_arith
  · simp_all_arith [ws_isC, o]
theorem tX_off (ws : List Str) (S : Store) (x1 x3 x4 : Sl) (last : Pp) : tX [.val (.ref S.length), x1, .val (pD last), x3, x4] (S ++ [Ws ws 0 ws.length]) = .ok false (S ++ [Ws ws 0 ws.length]) := by
  have o := ws_over ws 0 ws.length S
  rw [decide_eq_true rfl] at o
  simp_all_arith [ws_isC, o]
section
variable (ws : List Str) (S : Store)
abbrev eT (acc : List Te) (d : D) (x3 x4 : Sl) : En := [.val (.ref S.length), .own (.dt (tks acc)), .val d, x3, x4]
theorem ttA {i : Nat} {a : Str} {d : D} {acc : List Te} {x3 x4 : Sl} (f3 : x3.free = true) (hw : ws[i]? = some a) (h : isNm a = false) : ∃ e' j, pic_take_things_b (eT S acc d x3 x4) (S ++ [Ws ws 0 i]) = .er (badX 0 i) e' (S ++ [Ws ws 0 j]) := by
  have hi := (List.getElem?_eq_some_iff.mp hw).1
  have n := ws_nameG ws 0 i S (by omega)
  rw [hw] at n
  have n : sh_Words_take_name [.ref S.length] (S ++ [Ws ws 0 i]) = if isNm a then .ok (.str a) (S ++ [Ws ws 0 (i + 1)]) else .er (badX 0 i) (S ++ [Ws ws 0 i]) := n
  rw [h] at n
  refine ⟨eT S acc d x3 x4, i, ?_⟩
  unfold pic_take_things_b
  simp_all_arith [ws_isC, n, f3]
theorem ttB {i : Nat} {a : Str} {d : D} {acc : List Te} {x3 x4 : Sl} (f3 : x3.free = true) (f4 : x4.free = true) (hw : ws[i]? = some a) (h : isNm a = true) (hb : (ws[i + 1]?).any isNm = false) : ∃ e' j, pic_take_things_b (eT S acc d x3 x4) (S ++ [Ws ws 0 i]) = .er (badX 0 (i + 1)) e' (S ++ [Ws ws 0 j]) := by
  have hi := (List.getElem?_eq_some_iff.mp hw).1
  have n := ws_nameG ws 0 i S (by omega)
  rw [hw] at n
  have n : sh_Words_take_name [.ref S.length] (S ++ [Ws ws 0 i]) = if isNm a then .ok (.str a) (S ++ [Ws ws 0 (i + 1)]) else .er (badX 0 i) (S ++ [Ws ws 0 i]) := n
  rw [h] at n
  have m := ws_nameG ws 0 (i + 1) S (by omega)
  rw [hb] at m
  refine ⟨eT S acc d (.val (.str a)) x4, i + 1, ?_⟩
  unfold pic_take_things_b
  simp_all_arith [ws_isC, n, m, f3, f4]
theorem ttP {i : Nat} {a b : Str} {d : D} {last : Pp} (hd : LastD d last) {acc : List Te} {x3 x4 : Sl} (f3 : x3.free = true) (f4 : x4.free = true) (hw : ws[i]? = some a) (h : isNm a = true) (hw1 : ws[i + 1]? = some b) (hb : (isNm b && ltP last (a, b)) = false) : ∃ e' j, pic_take_things_b (eT S acc d x3 x4) (S ++ [Ws ws 0 i]) = .er (badX 0 (i + 1)) e' (S ++ [Ws ws 0 j]) := by
  cases hn : isNm b
  · exact ttB ws S f3 f4 hw h (by rw [hw1]; exact hn)
  · rw [hn, Bool.true_and] at hb
    have hi := (List.getElem?_eq_some_iff.mp hw1).1
    have n := ws_nameG ws 0 i S (by omega)
    rw [hw] at n
    have n : sh_Words_take_name [.ref S.length] (S ++ [Ws ws 0 i]) = if isNm a then .ok (.str a) (S ++ [Ws ws 0 (i + 1)]) else .er (badX 0 i) (S ++ [Ws ws 0 i]) := n
    rw [h] at n
    have m := ws_nameG ws 0 (i + 1) S (by omega)
    rw [hw1] at m
    have m : sh_Words_take_name [.ref S.length] (S ++ [Ws ws 0 (i + 1)]) = if isNm b then .ok (.str b) (S ++ [Ws ws 0 (i + 1 + 1)]) else .er (badX 0 (i + 1)) (S ++ [Ws ws 0 (i + 1)]) := m
    rw [hn] at m
    have r := ws_refuseI ws 0 (i + 1 + 1) (i + 1) S
    have e1 : ((i + 1 + 1 : Nat) : Int) - 1 = ((i + 1 : Nat) : Int) := by omega
    have c := cT_ok (x0 := .val (.ref S.length)) (x1 := .own (.dt (tks acc))) (S := S ++ [Ws ws 0 (i + 1 + 1)]) (b := b) hd h
    rw [hb] at c
    have c : (tAd (tVal (eBin dNot (eVar 2) (eC .non))) (tOo (tVal (eBin dLt (eVar 3) (eIx (eVar 2) (eC (.int 0))))) (tAd (tVal (eBin dEq (eVar 3) (eIx (eVar 2) (eC (.int 0))))) (tVal (eBin dLe (eVar 4) (eIx (eVar 2) (eC (.int 1)))))))) _ _ = R.ok true _ := c
    refine ⟨eT S acc d (.val (.str a)) (.val (.str b)), i + 1 + 1, ?_⟩
    unfold pic_take_things_b
    simp_all_arith [ws_isC, n, m, f3, f4, ↓c, ws_next, e1, dflF, r]
theorem ttN {i : Nat} {a b : Str} {d : D} {last : Pp} (hd : LastD d last) {acc : List Te} {x3 x4 : Sl} (f3 : x3.free = true) (f4 : x4.free = true) (hw : ws[i]? = some a) (h : isNm a = true) (hw1 : ws[i + 1]? = some b) (hb : (isNm b && ltP last (a, b)) = true) (hn : ((ws[i + 2]?).bind numP) = none) (hs : ∀ w ∈ ws, w.length ≤ 90000) : ∃ e' j, pic_take_things_b (eT S acc d x3 x4) (S ++ [Ws ws 0 i]) = .er (badX 0 (i + 2)) e' (S ++ [Ws ws 0 j]) := by
  rw [Bool.and_eq_true] at hb
  have hi := (List.getElem?_eq_some_iff.mp hw1).1
  have n := ws_nameG ws 0 i S (by omega)
  rw [hw] at n
  have n : sh_Words_take_name [.ref S.length] (S ++ [Ws ws 0 i]) = if isNm a then .ok (.str a) (S ++ [Ws ws 0 (i + 1)]) else .er (badX 0 i) (S ++ [Ws ws 0 i]) := n
  rw [h] at n
  have m := ws_nameG ws 0 (i + 1) S (by omega)
  rw [hw1] at m
  have m : sh_Words_take_name [.ref S.length] (S ++ [Ws ws 0 (i + 1)]) = if isNm b then .ok (.str b) (S ++ [Ws ws 0 (i + 1 + 1)]) else .er (badX 0 (i + 1)) (S ++ [Ws ws 0 (i + 1)]) := m
  rw [hb.1] at m
  have c := cT_ok (x0 := .val (.ref S.length)) (x1 := .own (.dt (tks acc))) (S := S ++ [Ws ws 0 (i + 1 + 1)]) (b := b) hd h
  rw [hb.2] at c
  have c : (tAd (tVal (eBin dNot (eVar 2) (eC .non))) (tOo (tVal (eBin dLt (eVar 3) (eIx (eVar 2) (eC (.int 0))))) (tAd (tVal (eBin dEq (eVar 3) (eIx (eVar 2) (eC (.int 0))))) (tVal (eBin dLe (eVar 4) (eIx (eVar 2) (eC (.int 1)))))))) _ _ = R.ok false _ := c
  have t := ws_numN ws 0 (i + 1 + 1) S (by omega) hs
  rw [hn] at t
  refine ⟨eT S acc d (.val (.str a)) (.val (.str b)), i + 1 + 1, ?_⟩
  unfold pic_take_things_b
  simp_all_arith [ws_isC, n, m, f3, f4, ↓c, dflF, t]
theorem ttG {i : Nat} {a b : Str} {d : D} {last : Pp} (hd : LastD d last) {acc : List Te} {x3 x4 : Sl} {v : Int} (f3 : x3.free = true) (f4 : x4.free = true) (hw : ws[i]? = some a) (h : isNm a = true) (hw1 : ws[i + 1]? = some b) (hb : (isNm b && ltP last (a, b)) = true) (hn : ((ws[i + 2]?).bind numP) = some v) (ha : acc.length ≤ 90000) (hk : (a, b) ∉ prs acc) (hs : ∀ w ∈ ws, w.length ≤ 90000) : pic_take_things_b (eT S acc d x3 x4) (S ++ [Ws ws 0 i]) = .nx (eT S (acc ++ [((a, b), v)]) (pD (a, b)) (.val (.str a)) (.val (.str b))) (S ++ [Ws ws 0 (i + 3)]) := by
  rw [Bool.and_eq_true] at hb
  have hi := (List.getElem?_eq_some_iff.mp hw1).1
  have n := ws_nameG ws 0 i S (by omega)
  rw [hw] at n
  have n : sh_Words_take_name [.ref S.length] (S ++ [Ws ws 0 i]) = if isNm a then .ok (.str a) (S ++ [Ws ws 0 (i + 1)]) else .er (badX 0 i) (S ++ [Ws ws 0 i]) := n
  rw [h] at n
  have m := ws_nameG ws 0 (i + 1) S (by omega)
  rw [hw1] at m
  have m : sh_Words_take_name [.ref S.length] (S ++ [Ws ws 0 (i + 1)]) = if isNm b then .ok (.str b) (S ++ [Ws ws 0 (i + 1 + 1)]) else .er (badX 0 (i + 1)) (S ++ [Ws ws 0 (i + 1)]) := m
  rw [hb.1] at m
  have c := cT_ok (x0 := .val (.ref S.length)) (x1 := .own (.dt (tks acc))) (S := S ++ [Ws ws 0 (i + 1 + 1)]) (b := b) hd h
  rw [hb.2] at c
  have c : (tAd (tVal (eBin dNot (eVar 2) (eC .non))) (tOo (tVal (eBin dLt (eVar 3) (eIx (eVar 2) (eC (.int 0))))) (tAd (tVal (eBin dEq (eVar 3) (eIx (eVar 2) (eC (.int 0))))) (tVal (eBin dLe (eVar 4) (eIx (eVar 2) (eC (.int 1)))))))) _ _ = R.ok false _ := c
  have t := ws_numN ws 0 (i + 1 + 1) S (by omega) hs
  rw [hn] at t
  have st := dtSt_tks (v := v) hk
  have tk : (pD (a, b)).tkey = some (pk (a, b)) := rfl
  have hc : (tks acc).length < 16777216 := by rw [List.length_map]; omega
  unfold pic_take_things_b
  simp_all_arith [ws_isC, n, m, f3, f4, ↓c, dflF, t, sDsOT, tk, st, hc]
end
end Nk
namespace Nk
open PySem PyProof.Rows L2 Sh
theorem at_pre2 {pre : List Str} {a b : Str} {rest : List Str} : (pre ++ a :: b :: rest)[pre.length + 2]? = rest.head? := by
  have := at_pre1 (pre := pre ++ [a]) (b := b) (rest := rest)
  rw [List.append_assoc, List.singleton_append, List.length_append, List.length_singleton] at this
  exact this
theorem notin_acc {acc : List Te} {last z : Pp} (hl : ∀ p ∈ acc, p.1 = last ∨ ltP p.1 last = true) (h : ltP last z = true) : z ∉ prs acc := by
  intro hz
  obtain ⟨p, hp, e⟩ := List.mem_map.mp hz
  have e : p.1 = z := e
  rcases hl p hp with q | q
  · rw [← q, e, ltP_irr] at h
    cases h
  · have := ltP_tr q h
    rw [e, ltP_irr] at this
    cases this
theorem acc_next {acc : List Te} {last z : Pp} {v : Int} (hl : ∀ p ∈ acc, p.1 = last ∨ ltP p.1 last = true) (h : ltP last z = true) : ∀ p ∈ acc ++ [(z, v)], p.1 = z ∨ ltP p.1 z = true := fun p hp => by
  rcases List.mem_append.mp hp with hp | hp
  · rcases hl p hp with q | q
    · exact .inr (by rw [q]; exact h)
    · exact .inr (ltP_tr q h)
  · rw [List.mem_singleton.mp hp]; exact .inl rfl
section
variable (ws : List Str) (S : Store)
theorem tloop (hs : ∀ w ∈ ws, w.length ≤ 90000) : ∀ (rest pre : List Str) (F : Nat) (d : D) (last : Pp) (acc : List Te) (x3 x4 : Sl), x3.free = true → x4.free = true → LastD d last → ws = pre ++ rest → rest ≠ [] → rest.length < F → acc.length + rest.length ≤ 90000 → (∀ p ∈ acc, p.1 = last ∨ ltP p.1 last = true) →
    match rdt rest pre.length last with
    | .ok xs => ∃ y2 y3 y4, whileD tX pic_take_things_b F (eT S acc d x3 x4) (S ++ [Ws ws 0 pre.length]) = .nx [.val (.ref S.length), .own (.dt (tks (acc ++ xs))), y2, y3, y4] (S ++ [Ws ws 0 ws.length])
    | .error k => ∃ e' j, whileD tX pic_take_things_b F (eT S acc d x3 x4) (S ++ [Ws ws 0 pre.length]) = .er (badX 0 k) e' (S ++ [Ws ws 0 j])
  | [], pre, F, d, last, acc, x3, x4, _, _, _, _, h, _, _, _ => absurd rfl h
  | rest, pre, 0, d, last, acc, x3, x4, _, _, _, _, _, h, _, _ => by omega
  | [a], pre, F + 1, d, last, acc, x3, x4, f3, f4, hd, e, _, hF, ha, hl => by
    have hw : ws[pre.length]? = some a := by rw [e, at_pre]; rfl
    have hw1 : ws[pre.length + 1]? = none := by rw [e, at_pre1]; rfl
    have hlen : ws.length = pre.length + 1 := by rw [e, List.length_append]; rfl
    have t := tX_on ws S pre.length (.own (.dt (tks acc))) x3 x4 hd (by omega)
    unfold rdt
    cases h : isNm a
    · obtain ⟨e', j, q⟩ := ttA ws S (d := d) (acc := acc) (x4 := x4) f3 hw h
      refine ⟨e', j, ?_⟩
      rw [whileD, t]
      simp_all_arith [q]
    · obtain ⟨e', j, q⟩ := ttB ws S (d := d) (acc := acc) f3 f4 hw h (by rw [hw1]; rfl)
      refine ⟨e', j, ?_⟩
      rw [whileD, t]
      simp_all_arith [q]
  | [a, b], pre, F + 1, d, last, acc, x3, x4, f3, f4, hd, e, _, hF, ha, hl => by
    have hw : ws[pre.length]? = some a := by rw [e, at_pre]; rfl
    have hw1 : ws[pre.length + 1]? = some b := by rw [e, at_pre1]; rfl
    have hw2 : ws[pre.length + 2]? = none := by rw [e, at_pre2]; rfl
    have hlen : ws.length = pre.length + 2 := by rw [e, List.length_append]; rfl
    have t := tX_on ws S pre.length (.own (.dt (tks acc))) x3 x4 hd (by omega)
    unfold rdt
    cases h : isNm a
    · obtain ⟨e', j, q⟩ := ttA ws S (d := d) (acc := acc) (x4 := x4) f3 hw h
      refine ⟨e', j, ?_⟩
      rw [whileD, t]
      simp_all_arith [q]
    · cases hb : (isNm b && ltP last (a, b))
      · obtain ⟨e', j, q⟩ := ttP ws S hd (acc := acc) f3 f4 hw h hw1 hb
        refine ⟨e', j, ?_⟩
        rw [whileD, t]
        simp_all_arith [q]
      · obtain ⟨e', j, q⟩ := ttN ws S hd (acc := acc) f3 f4 hw h hw1 hb (by rw [hw2]; rfl) hs
        refine ⟨e', j, ?_⟩
        rw [whileD, t]
        simp_all_arith [q]
  | a :: b :: w :: r, pre, F + 1, d, last, acc, x3, x4, f3, f4, hd, e, _, hF, ha, hl => by
    have hw : ws[pre.length]? = some a := by rw [e, at_pre]; rfl
    have hw1 : ws[pre.length + 1]? = some b := by rw [e, at_pre1]; rfl
    have hw2 : ws[pre.length + 2]? = some w := by rw [e, at_pre2]; rfl
    have hlen : ws.length = pre.length + 3 + r.length := by rw [e, List.length_append, List.length_cons, List.length_cons, List.length_cons]; omega
    rw [List.length_cons, List.length_cons, List.length_cons] at hF ha
    have t := tX_on ws S pre.length (.own (.dt (tks acc))) x3 x4 hd (by omega)
    unfold rdt
    cases h : isNm a
    · obtain ⟨e', j, q⟩ := ttA ws S (d := d) (acc := acc) (x4 := x4) f3 hw h
      rw [if_neg (by simp)]
      refine ⟨e', j, ?_⟩
      rw [whileD, t]
      simp_all_arith [q]
    · rw [if_pos rfl]
      cases hb : (isNm b && ltP last (a, b))
      · obtain ⟨e', j, q⟩ := ttP ws S hd (acc := acc) f3 f4 hw h hw1 hb
        rw [if_neg (by simp)]
        refine ⟨e', j, ?_⟩
        rw [whileD, t]
        simp_all_arith [q]
      · rw [if_pos rfl]
        have hlt := (Bool.and_eq_true _ _ ▸ hb : isNm b = true ∧ ltP last (a, b) = true).2
        cases hn : numP w with
        | none =>
          obtain ⟨e', j, q⟩ := ttN ws S hd (acc := acc) f3 f4 hw h hw1 hb (by rw [hw2]; exact hn) hs
          refine ⟨e', j, ?_⟩
          rw [whileD, t]
          simp_all_arith [q]
        | some v =>
          have q := ttG ws S hd (acc := acc) f3 f4 hw h hw1 hb (v := v) (by rw [hw2]; exact hn) (by omega) (notin_acc hl hlt) hs
          dsimp only
          by_cases hr : r = []
          · subst hr
            rw [if_pos rfl]
            have t2 := tX_off ws S (.own (.dt (tks (acc ++ [((a, b), v)])))) (.val (.str a)) (.val (.str b)) (a, b)
            have hl2 : pre.length + 3 = ws.length := by rw [hlen]; rfl
            rw [hl2] at q
            refine ⟨.val (pD (a, b)), .val (.str a), .val (.str b), ?_⟩
            rw [whileD, t]
            simp_all_arith [q]
            cases F with
            | zero => omega
            | succ F =>
              rw [whileD, t2]
              simp_all_arith
          · rw [if_neg hr]
            have ih := tloop hs r (pre ++ [a, b, w]) F (pD (a, b)) (a, b) (acc ++ [((a, b), v)]) (.val (.str a)) (.val (.str b)) rfl rfl (.inr rfl) (by rw [e, List.append_assoc]; rfl) hr (by omega) (by rw [List.length_append, List.length_singleton]; omega) (acc_next hl hlt)
            rw [List.length_append, show pre.length + [a, b, w].length = pre.length + 3 from rfl] at ih
            cases hk : rdt r (pre.length + 3) (a, b) with
            | ok xs =>
              rw [hk] at ih
              obtain ⟨y2, y3, y4, ih⟩ := ih
              refine ⟨y2, y3, y4, ?_⟩
              rw [List.append_assoc, List.singleton_append] at ih
              rw [whileD, t]
              simp_all_arith [q]
              exact ih
            | error k =>
              rw [hk] at ih
              obtain ⟨e', j, ih⟩ := ih
              refine ⟨e', j, ?_⟩
              rw [whileD, t]
              simp_all_arith [q]
              exact ih
end
theorem tthings_ok (ws : List Str) (S : Store) (hs : ∀ w ∈ ws, w.length ≤ 90000) (hl : ws.length ≤ 80000) (h0 : ws ≠ []) : match parsT ws with
    | .ok xs => sh_take_things [.ref S.length] (S ++ [Ws ws 0 0]) = .ok (tbP xs) (S ++ [Ws ws 0 ws.length])
    | .error k => ∃ j, sh_take_things [.ref S.length] (S ++ [Ws ws 0 0]) = .er (badX 0 k) (S ++ [Ws ws 0 j]) := by
  have lo := ws_lone ws 0 S (by omega)
  have lp := tloop ws S hs ws [] FUEL .non lE [] .no .no rfl rfl (.inl ⟨rfl, rfl⟩) rfl h0 (by show ws.length < 1000000; omega) (by simp; omega) (fun _ h => nomatch h)
  unfold parsT
  by_cases hn : ws = noneW
  · rw [if_pos hn] at lo ⊢
    unfold sh_take_things pic_take_things
    simp_all_arith [ws_isC, lo]
    rfl
  · rw [if_neg hn] at lo ⊢
    rw [List.length_nil] at lp
    cases hr : rdt ws 0 lE with
    | ok xs =>
      rw [hr] at lp
      obtain ⟨y2, y3, y4, lp⟩ := lp
      unfold sh_take_things pic_take_things
      simp_all_arith [ws_isC, lo]
      refine (congrArg (fun q : RS => (q.seq (sFrzT 1 (sRet (eVar 1)))).res) lp).trans ?_
      simp_all_arith
      try rfl
    | error k =>
      rw [hr] at lp
      obtain ⟨e', j, lp⟩ := lp
      refine ⟨j, ?_⟩
      unfold sh_take_things pic_take_things
      simp_all_arith [ws_isC, lo]
      refine (congrArg (fun q : RS => (q.seq (sFrzT 1 (sRet (eVar 1)))).res) lp).trans ?_
      simp_all_arith
      try rfl
end Nk
namespace Nk
open PySem PyProof.Rows L2 Sh
theorem mapA_fil {α : Type} {g : Tg} {t : Sx Bool} {f : Sx D} {e : En} {S : Store} (enc : α → D) (p : α → Bool) (k : α → D) (xs : List α) (acc : List D) (h : ∀ x ∈ xs, ∃ e1, g (enc x) e = some e1 ∧ t e1 S = .ok (p x) S ∧ (p x = true → f e1 S = .ok (k x) S)) : mapA g t f acc (xs.map enc) e S = .ok (acc ++ (xs.filter p).map k) S := by
  induction xs generalizing acc with
  | nil => rw [List.map_nil, mapA_nil, List.filter_nil, List.map_nil, List.append_nil]
  | cons x r ih =>
    obtain ⟨e1, h1, h2, h3⟩ := h x List.mem_cons_self
    rw [List.map_cons, mapA_cons, h1]
    show (t e1 S).bind _ = _
    rw [h2, ok_bind]
    cases hp : p x with
    | true =>
      rw [if_pos rfl, h3 hp, ok_bind, ih (acc ++ [k x]) (fun y hy => h y (List.mem_cons_of_mem _ hy)), List.append_assoc, List.filter_cons_of_pos hp]
      rfl
    | false =>
      rw [if_neg (by decide), ih acc (fun y hy => h y (List.mem_cons_of_mem _ hy)), List.filter_cons_of_neg (by rw [hp]; decide)]
theorem intS {w : Str} {n : Int} (h : PySem.intText? w = some n) (hl : w.length ≤ 640) : dIntS [.str w] = some (.int n) := by
  unfold dIntS
  dsimp only
  rw [if_pos hl, h]
  rfl
theorem lst_nil {ds : List D} (h : ds.all (isDat 8) = true) : dEq (.lst ds) (.lst []) = some (.bl ds.isEmpty) := by
  rw [dEq_q (by rw [isDat_l9]; exact h) (by rw [isDat_l9]; rfl), qe_ll]
  cases ds with
  | nil => rw [qes_nil]; rfl
  | cons p r => rw [qes_cn]; rfl
theorem lst_nilN {ds : List D} (h : ds.all (isDat 8) = true) : dNe (.lst ds) (.lst []) = some (.bl (!ds.isEmpty)) := by
  rw [dNe_q (by rw [isDat_l9]; exact h) (by rw [isDat_l9]; rfl), qe_ll]
  cases ds with
  | nil => rw [qes_nil]; rfl
  | cons p r => rw [qes_cn]; rfl
theorem isEmpty_fil {α : Type} (p : α → Bool) : ∀ xs : List α, (xs.filter fun c => !p c).isEmpty = xs.all p
  | [] => rfl
  | x :: xs => by
    rw [List.filter_cons, List.all_cons]
    cases h : p x
    · simp
    · simpa using isEmpty_fil p xs
theorem dNin_sign (c : Nat) (z : Str) : dNin (.str ⟨#[c]⟩) (.str z) = some (.bl (!decide (c ∈ z.cps.toList))) := rfl
theorem lname_ok (x : Str) (S : Store) : sh__law_is_name [.str x] S = .ok (.bl (isNm x)) S := by
  have m := mapA_fil (g := gN 1) (t := tVal (eBin dNin (eVar 1) (eC (.str "abcdefghijklmnopqrstuvwxyz")))) (f := eVar 1) (e := [.val (.str x), .no]) (S := S) (fun c : Nat => D.str ⟨#[c]⟩) (fun c => !isLet c) (fun c => D.str ⟨#[c]⟩) x.cps.toList [] (fun c _ => ⟨[.val (.str x), .val (.str ⟨#[c]⟩)], by simp_all_arith, by simp_all_arith [dNin_sign, letters_at], fun _ => by simp_all_arith⟩)
  rw [List.nil_append] at m
  have hnil : dEq (.lst ((x.cps.toList.filter fun c => !isLet c).map fun c => D.str ⟨#[c]⟩)) (.lst []) = some (.bl (x.cps.toList.all isLet)) := by
    rw [lst_nil (by rw [List.all_eq_true]; intro d hd; obtain ⟨z, _, rfl⟩ := List.mem_map.mp hd; exact isDat_str), List.isEmpty_map, isEmpty_fil]
  unfold sh__law_is_name pic__law_is_name isNm
  have hcl : x.length = x.cps.toList.length := by simp [Str.length]
  by_cases h1 : (1 : Int) ≤ x.length
  · by_cases h2 : (x.length : Int) ≤ 8
    · have hl : (x.cps.toList.map fun c => D.str ⟨#[c]⟩).length ≤ sizeLine := by
        rw [List.length_map]
        show _ ≤ 16777216
        rw [← hcl]; omega
      rw [List.length_map] at hl
      have hf : (x.cps.toList.filter fun c => !isLet c).length ≤ sizeLine := Nat.le_trans (List.length_filter_le ..) hl
      simp_all_arith [h1, h2, hl, m, hf, hnil]
      simp [show 1 ≤ x.length by omega, show x.length ≤ 8 by omega]
    · simp_all_arith [h1, h2]
      rw [decide_eq_false (show ¬ (1 ≤ x.length ∧ x.length ≤ 8) by omega)]
      rfl
  · simp_all_arith [h1]
    rw [decide_eq_false (show ¬ (1 ≤ x.length ∧ x.length ≤ 8) by omega)]
    rfl
theorem numP_is (x : Str) : (numP x).isSome = (x.cps.toList.all isFig && decide (1 ≤ x.length ∧ x.length ≤ 60) && decide (x.cps.toList.head? ≠ some 48)) := by
  have hl := len_cps x
  unfold numP numW
  cases hf : x.cps.toList.all isFig
  · simp
  · by_cases h1 : 1 ≤ x.length ∧ x.length ≤ 60
    · rw [decide_eq_true h1, Bool.true_and, Bool.true_and]
      cases hw : x.cps.toList with
      | nil => rw [hw] at hl; simp at hl; omega
      | cons c r =>
        by_cases hc : c = 48
        · subst hc
          by_cases hr : r = []
          · subst hr
            decide +kernel
          · simp [hr]
        · have hcf : 48 ≤ c ∧ c ≤ 57 := by
            rw [hw, List.all_cons, Bool.and_eq_true] at hf
            exact of_decide_eq_true hf.1
          have hp := NumText.digitsVal_pos (c := c) (cs := r) (by omega)
          simp [hc]
          omega
    · rw [decide_eq_false h1]
      simp
theorem numP_int {w : Str} {v : Int} (h : numP w = some v) : dIntS [.str w] = some (.int v) := by
  obtain ⟨_, _, _, l, _, e⟩ := numP_text h
  exact intS e (by omega)
theorem lnum_ok (x : Str) (S : Store) (hx : x.length ≤ 90000) : sh__law_is_number [.str x] S = .ok (.bl (numP x).isSome) S := by
  have m := mapA_fil (g := gN 1) (t := tVal (eBin dNin (eVar 1) (eC (.str "0123456789")))) (f := eVar 1) (e := [.val (.str x), .no]) (S := S) (fun c : Nat => D.str ⟨#[c]⟩) (fun c => !isFig c) (fun c => D.str ⟨#[c]⟩) x.cps.toList [] (fun c _ => ⟨[.val (.str x), .val (.str ⟨#[c]⟩)], by simp_all_arith, by simp_all_arith [dNin_sign, figs_at], fun _ => by simp_all_arith⟩)
  rw [List.nil_append] at m
  have hnil : dNe (.lst ((x.cps.toList.filter fun c => !isFig c).map fun c => D.str ⟨#[c]⟩)) (.lst []) = some (.bl (!x.cps.toList.all isFig)) := by
    rw [lst_nilN (by rw [List.all_eq_true]; intro d hd; obtain ⟨z, _, rfl⟩ := List.mem_map.mp hd; exact isDat_str), List.isEmpty_map, isEmpty_fil]
  have hl := len_cps x
  have hl2 : x.cps.toList.length ≤ 16777216 := by omega
  have hf : (x.cps.toList.filter fun c => !isFig c).length ≤ 16777216 := Nat.le_trans (List.length_filter_le ..) hl2
  rw [numP_is]
  unfold sh__law_is_number pic__law_is_number
  cases ha : x.cps.toList.all isFig
  · rw [ha] at hnil
    simp_all_arith [m, hl2, hf, hnil]
  · rw [ha] at hnil
    by_cases h1 : (1 : Int) ≤ x.length
    · by_cases h2 : (x.length : Int) ≤ 60
      · obtain ⟨c, r, hcr⟩ : ∃ c r, x.cps.toList = c :: r := by
          cases hq : x.cps.toList with
          | nil => rw [hq] at hl; simp at hl; omega
          | cons c r => exact ⟨c, r, rfl⟩
        have hi : D.ix (.str x) (.int 0) = some (.str ⟨#[c]⟩) := by
          simp only [D.ix, alt2, hcr]
          unfold atI ixN
          rw [if_pos (by decide), if_pos (by simp only [List.length_cons]; omega)]
          rfl
        have hz : ((⟨#[c]⟩ : Str) == Str.ofString "0") = decide (c = 48) := by
          rw [str_is]
          have : (Str.ofString "0").cps.toList = [48] := by decide +kernel
          rw [this]
          simp
        simp_all_arith [m, hl2, hf, hnil, h1, h2, hi, hz]
        rw [decide_eq_true (show 1 ≤ x.length ∧ x.length ≤ 60 by omega)]
        simp [hz, hcr]
      · simp_all_arith [m, hl2, hf, hnil, h1, h2]
        rw [decide_eq_false (show ¬ (1 ≤ x.length ∧ x.length ≤ 60) by omega)]
        rfl
    · simp_all_arith [m, hl2, hf, hnil, h1]
      rw [decide_eq_false (show ¬ (1 ≤ x.length ∧ x.length ≤ 60) by omega)]
      rfl
end Nk
namespace Nk
open PySem PyProof.Rows L2 Sh
def flt3 : List Te → List Str
  | [] => []
  | p :: xs => p.1.1 :: p.1.2 :: nT p.2 :: flt3 xs
theorem flt3_len : ∀ xs : List Te, (flt3 xs).length = 3 * xs.length
  | [] => rfl
  | p :: xs => by
    have := flt3_len xs
    unfold flt3
    rw [List.length_cons, List.length_cons, List.length_cons, List.length_cons, this]
    omega
theorem flt3_ne {xs : List Te} (h : xs ≠ []) : flt3 xs ≠ [] := by
  cases xs with
  | nil => exact absurd rfl h
  | cons p r => unfold flt3; simp
theorem np_nil : NP [] := ⟨fun _ h => (nomatch h), fun _ h => (nomatch h), List.Pairwise.nil⟩
theorem np_cons {p : Te} {xs : List Te} (h1 : isNm p.1.1 = true ∧ isNm p.1.2 = true) (h2 : 0 < p.2 ∧ p.2 ≤ MXN) (h3 : NP xs) (h4 : ∀ q ∈ xs, ltP p.1 q.1 = true) : NP (p :: xs) := by
  refine ⟨fun q hq => ?_, fun q hq => ?_, ?_⟩
  · rcases List.mem_cons.mp hq with rfl | hq
    · exact h1
    · exact h3.n q hq
  · rcases List.mem_cons.mp hq with rfl | hq
    · exact h2
    · exact h3.v q hq
  · show (p.1 :: prs xs).Pairwise _
    refine List.pairwise_cons.mpr ⟨fun z hz => ?_, h3.s⟩
    obtain ⟨q, hq, rfl⟩ := List.mem_map.mp hz
    exact h4 q hq
theorem np_tail {p : Te} {xs : List Te} (g : NP (p :: xs)) : NP xs ∧ ∀ q ∈ xs, ltP p.1 q.1 = true := by
  have hp := List.pairwise_cons.mp (show (p.1 :: prs xs).Pairwise (fun a b => ltP a b = true) from g.s)
  exact ⟨⟨fun q hq => g.n q (List.mem_cons_of_mem _ hq), fun q hq => g.v q (List.mem_cons_of_mem _ hq), hp.2⟩, fun q hq => hp.1 q.1 (List.mem_map_of_mem hq)⟩
theorem rdt_ok : ∀ (rest : List Str) (i : Nat) (last : Pp) (xs : List Te), rdt rest i last = .ok xs → rest = flt3 xs ∧ xs ≠ [] ∧ NP xs ∧ ∀ p ∈ xs, ltP last p.1 = true
  | [], i, last, xs, h => by unfold rdt at h; cases h
  | [a], i, last, xs, h => by unfold rdt at h; cases h
  | [a, b], i, last, xs, h => by unfold rdt at h; cases h
  | a :: b :: w :: r, i, last, xs, h => by
    unfold rdt at h
    split at h
    · rename_i ha
      split at h
      · rename_i hb
        rw [Bool.and_eq_true] at hb
        cases hn : numP w with
        | none => rw [hn] at h; cases h
        | some v =>
          rw [hn] at h
          dsimp only at h
          obtain ⟨e1, v1, v2, _, _, _⟩ := numP_text hn
          have v0 : 0 < v := by omega
          by_cases hr : r = []
          · rw [if_pos hr] at h
            injection h with h
            subst h
            subst hr
            refine ⟨by unfold flt3; rw [e1]; rfl, by simp, np_cons ⟨ha, hb.1⟩ ⟨v0, v2⟩ np_nil (fun _ h => nomatch h), ?_⟩
            intro p hp; rw [List.mem_singleton.mp hp]; exact hb.2
          · rw [if_neg hr] at h
            cases hk : rdt r (i + 3) (a, b) with
            | error k => rw [hk] at h; cases h
            | ok ys =>
              rw [hk] at h
              injection h with h
              subst h
              obtain ⟨f1, f2, f3, f4⟩ := rdt_ok r (i + 3) (a, b) ys hk
              refine ⟨by unfold flt3; rw [e1, f1], by simp, np_cons ⟨ha, hb.1⟩ ⟨v0, v2⟩ f3 f4, ?_⟩
              intro p hp
              rcases List.mem_cons.mp hp with rfl | hp
              · exact hb.2
              · exact ltP_tr hb.2 (f4 p hp)
      · cases h
    · cases h
theorem rdt_flat : ∀ (xs : List Te) (i : Nat) (last : Pp), xs ≠ [] → NP xs → (∀ p ∈ xs, ltP last p.1 = true) → rdt (flt3 xs) i last = .ok xs
  | [], i, last, h, _, _ => absurd rfl h
  | p :: xs, i, last, _, g, hl => by
    obtain ⟨h1, h2⟩ := g.v p List.mem_cons_self
    have hn := (nT_num (show 1 ≤ p.2 by omega) h2).1
    have ha := g.n p List.mem_cons_self
    have hb : (isNm p.1.2 && ltP last (p.1.1, p.1.2)) = true := by rw [ha.2, hl p List.mem_cons_self]; rfl
    obtain ⟨g2, g3⟩ := np_tail g
    unfold flt3 rdt
    rw [if_pos ha.1, if_pos hb, hn]
    dsimp only
    by_cases hx : xs = []
    · subst hx
      rw [show flt3 [] = [] from rfl, if_pos rfl]
    · rw [if_neg (flt3_ne hx), rdt_flat xs (i + 3) p.1 hx g2 g3]
def swd (xs : List Te) : List Str := if xs = [] then noneW else flt3 xs
theorem parsT_ok {ws : List Str} {xs : List Te} (h : parsT ws = .ok xs) : ws = swd xs ∧ NP xs := by
  unfold parsT at h
  split at h
  · rename_i e
    injection h with h
    subst h
    exact ⟨e, np_nil⟩
  · obtain ⟨e, n, g, _⟩ := rdt_ok _ _ _ _ h
    exact ⟨by unfold swd; rw [if_neg n]; exact e, g⟩
theorem parsT_swd {xs : List Te} (g : NP xs) : parsT (swd xs) = .ok xs := by
  unfold parsT swd
  by_cases h : xs = []
  · subst h
    rfl
  · rw [if_neg h, if_neg, rdt_flat xs 0 lE h g fun p hp => ltP_nm (g.n p hp).1]
    intro e
    have := congrArg List.length e
    rw [flt3_len] at this
    have : 3 * xs.length = 1 := this
    omega
theorem swd_len (xs : List Te) : 3 * xs.length ≤ (swd xs).length := by
  unfold swd
  split
  · rename_i h; subst h; simp
  · rw [flt3_len]; omega
theorem pget_in : ∀ {xs : List Te}, (prs xs).Nodup → ∀ p ∈ xs, pget xs p.1 = p.2
  | [], _, _, h => nomatch h
  | q :: r, hd, p, hp => by
    have hd : (q.1 :: prs r).Nodup := hd
    have h1 := List.nodup_cons.mp hd
    unfold pget
    rcases List.mem_cons.mp hp with rfl | hp
    · rw [if_pos rfl]
    · rw [if_neg (fun (e : q.1 = p.1) => h1.1 (by rw [e]; exact List.mem_map_of_mem hp)), pget_in h1.2 p hp]
abbrev spS : Str := Str.ofString " "
def wT3 (p : Te) : Str := p.1.1 ++ spS ++ p.1.2 ++ spS ++ nT p.2
theorem app_len (x y : Str) : (x ++ y).length = x.length + y.length := Array.size_append ..
theorem join_wT3 : ∀ xs : List Te, Str.join spS (xs.map wT3) = Str.join spS (flt3 xs)
  | [] => rfl
  | [p] => by
    show wT3 p = p.1.1 ++ spS ++ (p.1.2 ++ spS ++ nT p.2)
    apply TL.ext_tl
    unfold wT3
    simp only [TL.tl_append, List.append_assoc]
  | p :: q :: r => by
    have ih := join_wT3 (q :: r)
    show wT3 p ++ spS ++ Str.join spS ((q :: r).map wT3) = p.1.1 ++ spS ++ (p.1.2 ++ spS ++ (nT p.2 ++ spS ++ Str.join spS (flt3 (q :: r))))
    rw [ih]
    apply TL.ext_tl
    unfold wT3
    simp only [TL.tl_append, List.append_assoc]
theorem sp_len : spS.length = 1 := by decide +kernel
theorem nm_len {a : Str} (h : isNm a = true) : a.length ≤ 8 := by
  unfold isNm at h
  rw [Bool.and_eq_true, decide_eq_true_eq] at h
  exact h.1.2
theorem wT3_len {xs : List Te} (g : NP xs) : ∀ p ∈ xs, (wT3 p).length ≤ 78 := by
  intro p hp
  obtain ⟨v1, v2⟩ := g.v p hp
  have h1 := (nT_num (show 1 ≤ p.2 by omega) v2).2.1
  have h2 := nm_len (g.n p hp).1
  have h3 := nm_len (g.n p hp).2
  unfold wT3
  rw [app_len, app_len, app_len, app_len, sp_len]
  omega
theorem sum_wT3 : ∀ xs : List Te, (∀ p ∈ xs, (wT3 p).length ≤ 78) → ((xs.map wT3).map (·.length)).sum ≤ 78 * xs.length
  | [], _ => by simp
  | p :: r, h => by
    have := sum_wT3 r fun q hq => h q (List.mem_cons_of_mem _ hq)
    have := h p List.mem_cons_self
    simp only [List.map_cons, List.sum_cons, List.length_cons]
    omega
abbrev trD (p : Te) : D := .tup [.str p.1.1, .str p.1.2, .int p.2]
theorem stand_parts (xs : List Te) (g : NP xs) (hl : xs.length ≤ 60) (S : Store) : sh_Standing_parts [StD xs] S = .ok (.tup (xs.map trD)) S := by
  have hl2 : xs.length ≤ 16777216 := by omega
  have m := mapA_enc (g := gT (gsCons (gN 1) (gsCons (gN 2) gsNil))) (f := eTup (aCons (eVar 1) (aCons (eVar 2) (aCons (eDixT (eFd ["Standing"] "own_things" (eVar 0)) (eTup (aCons (eVar 1) (aCons (eVar 2) aNil)))) aNil)))) (e := [.val (StD xs), .no, .no]) (S := S) (fun p : Te => pD p.1) trD xs [] (fun p hq => ⟨[.val (StD xs), .val (.str p.1.1), .val (.str p.1.2)], by simp_all_arith, by
    have q := dtV_tks xs p.1
    rw [if_pos (List.mem_map_of_mem hq), pget_in g.d p hq] at q
    have k : (D.tup [.str p.1.1, .str p.1.2]).tkey = some (pk p.1) := rfl
    have q2 : ((D.dtv S (tbP xs)).bind fun kvs => dtV kvs (pk p.1)) = some (.int p.2) := q
    simp_all_arith [k, q2]⟩)
  rw [List.nil_append, show xs.map (fun p : Te => pD p.1) = (tks xs).map fun p => tkeyD p.1 by rw [List.map_map]; rfl] at m
  unfold sh_Standing_parts pic_Standing_parts
  simp_all_arith [m, hl2]
theorem join_st {xs : List Te} (g : NP xs) (hl : xs.length ≤ 60) (h0 : xs ≠ []) : dJoin " " (.lst ((xs.map wT3).map D.str)) = some (.str (Txt.join " " (swd xs))) := by
  have hs := sum_wT3 xs (wT3_len g)
  unfold dJoin
  dsimp only
  rw [Sh.strs_map]
  dsimp only
  rw [show (Str.ofString " ").length = 1 from sp_len, List.length_map, if_pos (by omega)]
  unfold swd
  rw [if_neg h0, TL.join_eq, TL.join_eq]
  congr 2
  exact join_wT3 xs
theorem stand_str (xs : List Te) (g : NP xs) (hl : xs.length ≤ 60) (S : Store) : sh_Standing_str [StD xs] S = .ok (.str (Txt.join " " (swd xs))) S := by
  have hl2 : xs.length ≤ 16777216 := by omega
  have hpt := stand_parts xs g hl S
  unfold sh_Standing_str pic_Standing_str
  by_cases h0 : xs = []
  · subst h0
    have : Txt.join " " (swd []) = Str.ofString "none" := by decide +kernel
    rw [this]
    simp_all_arith
    try rfl
  · have hp : 0 < xs.length := List.length_pos_iff.mpr h0
    have hne : ((xs.length : Int) == 0) = false := by
      simp only [beq_eq_false_iff_ne, ne_eq]
      omega
    have m := mapA_enc (g := gT (gsCons (gN 1) (gsCons (gN 2) (gsCons (gN 3) gsNil)))) (f := eJs [eFmt (eVar 1), eC (.str " "), eFmt (eVar 2), eC (.str " "), eFmt (eVar 3)] Str.empty) (e := [.val (StD xs), .no, .no, .no]) (S := S) trD (fun p => .str (wT3 p)) xs [] (fun p hq => ⟨[.val (StD xs), .val (.str p.1.1), .val (.str p.1.2), .val (.int p.2)], by simp_all_arith, by
      obtain ⟨v1, v2⟩ := g.v p hq
      have hf := fmt_B (v := p.2) (by omega) v2
      have l := wT3_len g p hq
      unfold wT3 at l ⊢
      rw [app_len, app_len, app_len, app_len] at l
      have l2 : (Str.ofString " ").length = 1 := sp_len
      simp_all_arith [hf, Nk.str_nil, app_len, l2, eJs_nil, eJs_cons, kJs_s]⟩)
    rw [List.nil_append, show xs.map (fun p => D.str (wT3 p)) = (xs.map wT3).map D.str by rw [List.map_map]; rfl] at m
    have j := join_st g hl h0
    have d0 : ((D.dtv S (tbP xs)).map fun kvs => D.int kvs.length) = some (.int xs.length) := by rw [show D.dtv S (tbP xs) = some (tks xs) from rfl, Option.map_some, List.length_map]
    simp_all_arith [d0, hne, hpt, m, j, hl2]
end Nk
namespace Nk
open PySem PyProof.Rows L2 Sh
def ev3 (i n : Nat) : List D := (List.range n).map fun (k : Nat) => .int ((i : Int) + (k : Nat) * 3)
theorem ev3_succ (i n : Nat) : ev3 i (n + 1) = .int i :: ev3 (i + 3) n := by
  unfold ev3
  rw [List.range_succ_eq_map, List.map_cons, List.map_map, show (i : Int) + ((0 : Nat) : Int) * 3 = i by omega]
  congr 1
  refine List.map_congr_left fun k _ => ?_
  show D.int ((i : Int) + ((k + 1 : Nat) : Int) * 3) = D.int (((i + 3 : Nat) : Int) + (k : Nat) * 3)
  congr 1
  omega
theorem ev3_zero (i : Nat) : ev3 i 0 = [] := rfl
section
variable (z : D) (ws : List Str) (S : Store)
abbrev eU (acc : List Te) (last : Pp) (x4 : Sl) : En := [.val z, .val (.lst (ws.map .str)), .own (.dt (tks acc)), .val (pD last), x4]
theorem duA {i : Nat} {a : Str} {last : Pp} {acc : List Te} (hw : ws[i]? = some a) (h : isNm a = false) : pic__law_due_b (eU z ws acc last (.val (.int i))) S = .rt (.int i) S := by
  have a0 := atI_str hw
  have n := lname_ok a S
  unfold pic__law_due_b
  rw [h] at n
  simp_all_arith [a0, n]
theorem duB {i : Nat} {a : Str} {last : Pp} {acc : List Te} (hw : ws[i]? = some a) (h : isNm a = true) (hb : (ws[i + 1]?).any isNm = false) : pic__law_due_b (eU z ws acc last (.val (.int i))) S = .rt (.int ((i + 1 : Nat) : Int)) S := by
  have hi := (List.getElem?_eq_some_iff.mp hw).1
  have a0 := atI_str hw
  have n := lname_ok a S
  rw [h] at n
  have ec : ((i + 1 : Nat) : Int) = (i : Int) + 1 := by omega
  rw [ec]
  unfold pic__law_due_b pic__law_due_b1
  by_cases hl : i + 1 = ws.length
  · have e : (((i : Int) + 1) == ws.length) = true := by simp only [beq_iff_eq]; omega
    simp_all_arith [a0, n, e]
  · have e : (((i : Int) + 1) == ws.length) = false := by simp only [beq_eq_false_iff_ne, ne_eq]; omega
    obtain ⟨b, hw1⟩ : ∃ b, ws[i + 1]? = some b := ⟨ws[i + 1], List.getElem?_eq_getElem (by omega)⟩
    have a1 := atI_str hw1
    rw [ec] at a1
    rw [hw1] at hb
    have m := lname_ok b S
    rw [show isNm b = false from hb] at m
    simp_all_arith [a0, n, e, a1, m]
theorem duP {i : Nat} {a b : Str} {last : Pp} {acc : List Te} (hw : ws[i]? = some a) (h : isNm a = true) (hw1 : ws[i + 1]? = some b) (hb : (isNm b && ltP last (a, b)) = false) : pic__law_due_b (eU z ws acc last (.val (.int i))) S = .rt (.int ((i + 1 : Nat) : Int)) S := by
  cases hn : isNm b
  · exact duB z ws S hw h (by rw [hw1]; exact hn)
  · rw [hn, Bool.true_and] at hb
    have hi := (List.getElem?_eq_some_iff.mp hw1).1
    have a0 := atI_str hw
    have n := lname_ok a S
    rw [h] at n
    have ec : ((i + 1 : Nat) : Int) = (i : Int) + 1 := by omega
    have a1 := atI_str hw1
    rw [ec] at a1
    have m := lname_ok b S
    rw [hn] at m
    have e : (((i : Int) + 1) == ws.length) = false := by simp only [beq_eq_false_iff_ne, ne_eq]; omega
    have c := ltP_not last (a, b)
    rw [hb] at c
    dsimp only at c
    rw [ec]
    unfold pic__law_due_b pic__law_due_b1
    cases h1 : ltS a last.1
    · rw [h1, Bool.false_or, Bool.not_false, Bool.and_eq_true] at c
      simp_all_arith [a0, n, e, a1, m, dLt_ssZ, h1, dEq_ss, c.1, dLe_ss, c.2]
    · simp_all_arith [a0, n, e, a1, m, dLt_ssZ, h1]
theorem duN {i : Nat} {a b : Str} {last : Pp} {acc : List Te} (hw : ws[i]? = some a) (h : isNm a = true) (hw1 : ws[i + 1]? = some b) (hb : (isNm b && ltP last (a, b)) = true) (hn : ((ws[i + 2]?).bind numP) = none) (hs : ∀ w ∈ ws, w.length ≤ 90000) : pic__law_due_b (eU z ws acc last (.val (.int i))) S = .rt (.int ((i + 2 : Nat) : Int)) S := by
  rw [Bool.and_eq_true] at hb
  have hi := (List.getElem?_eq_some_iff.mp hw1).1
  have a0 := atI_str hw
  have n := lname_ok a S
  rw [h] at n
  have ec : ((i + 1 : Nat) : Int) = (i : Int) + 1 := by omega
  have ec2 : ((i + 2 : Nat) : Int) = (i : Int) + 2 := by omega
  have a1 := atI_str hw1
  rw [ec] at a1
  have m := lname_ok b S
  rw [hb.1] at m
  have e : (((i : Int) + 1) == ws.length) = false := by simp only [beq_eq_false_iff_ne, ne_eq]; omega
  have c := ltP_not last (a, b)
  rw [hb.2] at c
  dsimp only at c
  rw [Bool.not_true, Bool.or_eq_false_iff] at c
  rw [ec2]
  unfold pic__law_due_b pic__law_due_b1
  by_cases hl : i + 2 = ws.length
  · have e2 : (((i : Int) + 2) == ws.length) = true := by simp only [beq_iff_eq]; omega
    cases h2 : (a == last.1)
    · simp_all_arith [a0, n, e, a1, m, dLt_ssZ, c.1, dEq_ss, h2, e2]
    · have c2 := c.2
      rw [h2, Bool.true_and] at c2
      simp_all_arith [a0, n, e, a1, m, dLt_ssZ, c.1, dEq_ss, h2, dLe_ss, c2, e2]
  · have e2 : (((i : Int) + 2) == ws.length) = false := by simp only [beq_eq_false_iff_ne, ne_eq]; omega
    obtain ⟨w, hw2⟩ : ∃ w, ws[i + 2]? = some w := ⟨ws[i + 2], List.getElem?_eq_getElem (by omega)⟩
    have a2 := atI_str hw2
    rw [ec2] at a2
    rw [hw2] at hn
    have t := lnum_ok w S (hs w (List.mem_of_getElem? hw2))
    rw [show numP w = none from hn] at t
    cases h2 : (a == last.1)
    · simp_all_arith [a0, n, e, a1, m, dLt_ssZ, c.1, dEq_ss, h2, e2, a2, t, Option.isSome]
    · have c2 := c.2
      rw [h2, Bool.true_and] at c2
      simp_all_arith [a0, n, e, a1, m, dLt_ssZ, c.1, dEq_ss, h2, dLe_ss, c2, e2, a2, t, Option.isSome]
theorem duG {i : Nat} {a b : Str} {last : Pp} {acc : List Te} {v : Int} (hw : ws[i]? = some a) (h : isNm a = true) (hw1 : ws[i + 1]? = some b) (hb : (isNm b && ltP last (a, b)) = true) (hn : ((ws[i + 2]?).bind numP) = some v) (hs : ∀ w ∈ ws, w.length ≤ 90000) (ha : acc.length ≤ 90000) (hk : (a, b) ∉ prs acc) : pic__law_due_b (eU z ws acc last (.val (.int i))) S = .nx (eU z ws (acc ++ [((a, b), v)]) (a, b) (.val (.int i))) S := by
  rw [Bool.and_eq_true] at hb
  have a0 := atI_str hw
  have n := lname_ok a S
  rw [h] at n
  have ec : ((i + 1 : Nat) : Int) = (i : Int) + 1 := by omega
  have ec2 : ((i + 2 : Nat) : Int) = (i : Int) + 2 := by omega
  have a1 := atI_str hw1
  rw [ec] at a1
  have m := lname_ok b S
  rw [hb.1] at m
  cases hw2 : ws[i + 2]? with
  | none => rw [hw2] at hn; cases hn
  | some w =>
    have hi := (List.getElem?_eq_some_iff.mp hw2).1
    have e : (((i : Int) + 1) == ws.length) = false := by simp only [beq_eq_false_iff_ne, ne_eq]; omega
    have e2 : (((i : Int) + 2) == ws.length) = false := by simp only [beq_eq_false_iff_ne, ne_eq]; omega
    have c := ltP_not last (a, b)
    rw [hb.2] at c
    dsimp only at c
    rw [Bool.not_true, Bool.or_eq_false_iff] at c
    have a2 := atI_str hw2
    rw [ec2] at a2
    rw [hw2] at hn
    have hn : numP w = some v := hn
    have t := lnum_ok w S (hs w (List.mem_of_getElem? hw2))
    rw [hn] at t
    have hI := numP_int hn
    have st := dtSt_tks (v := v) hk
    have k : (D.tup [.str a, .str b]).tkey = some (pk (a, b)) := rfl
    have hc : (tks acc).length < 16777216 := by rw [List.length_map]; omega
    unfold pic__law_due_b pic__law_due_b1 pic__law_due_b2
    cases h2 : (a == last.1)
    · simp_all_arith [a0, n, e, a1, m, dLt_ssZ, c.1, dEq_ss, h2, e2, a2, t, Option.isSome, hI, k, st, hc]
    · have c2 := c.2
      rw [h2, Bool.true_and] at c2
      simp_all_arith [a0, n, e, a1, m, dLt_ssZ, c.1, dEq_ss, h2, dLe_ss, c2, e2, a2, t, Option.isSome, hI, k, st, hc]
theorem due_loop (hs : ∀ w ∈ ws, w.length ≤ 90000) : ∀ (rest pre : List Str) (n : Nat) (last : Pp) (acc : List Te) (x4 : Sl), x4.free = true → ws = pre ++ rest → rest ≠ [] → n = (rest.length + 2) / 3 → acc.length + rest.length ≤ 90000 → (∀ p ∈ acc, p.1 = last ∨ ltP p.1 last = true) →
    match rdt rest pre.length last with
    | .ok xs => ∃ y3 y4, forD (gN 4) pic__law_due_b (ev3 pre.length n) (eU z ws acc last x4) S = .nx [.val z, .val (.lst (ws.map .str)), .own (.dt (tks (acc ++ xs))), y3, y4] S
    | .error k => forD (gN 4) pic__law_due_b (ev3 pre.length n) (eU z ws acc last x4) S = .rt (.int (k : Nat)) S
  | [], pre, n, last, acc, x4, _, _, h, _, _, _ => absurd rfl h
  | [a], pre, n, last, acc, x4, f4, e, _, hn, ha, hl => by
    have hw : ws[pre.length]? = some a := by rw [e, at_pre]; rfl
    have hw1 : ws[pre.length + 1]? = none := by rw [e, at_pre1]; rfl
    have hn : n = 1 := by simpa using hn
    subst hn
    unfold rdt
    rw [ev3_succ, Sh.forD_cons]
    cases h : isNm a
    · have q := duA z ws S (last := last) (acc := acc) hw h
      dsimp only
      simp_all_arith [f4, q]
      try rfl
    · have q := duB z ws S (last := last) (acc := acc) hw h (by rw [hw1]; rfl)
      dsimp only
      simp_all_arith [f4, q]
      try rfl
  | [a, b], pre, n, last, acc, x4, f4, e, _, hn, ha, hl => by
    have hw : ws[pre.length]? = some a := by rw [e, at_pre]; rfl
    have hw1 : ws[pre.length + 1]? = some b := by rw [e, at_pre1]; rfl
    have hw2 : ws[pre.length + 2]? = none := by rw [e, at_pre2]; rfl
    have hn : n = 1 := by simpa using hn
    subst hn
    unfold rdt
    rw [ev3_succ, Sh.forD_cons]
    cases h : isNm a
    · have q := duA z ws S (last := last) (acc := acc) hw h
      dsimp only
      simp_all_arith [f4, q]
      try rfl
    · cases hb : (isNm b && ltP last (a, b))
      · have q := duP z ws S (acc := acc) hw h hw1 hb
        dsimp only
        simp_all_arith [f4, q]
        try rfl
      · have q := duN z ws S (acc := acc) hw h hw1 hb (by rw [hw2]; rfl) hs
        dsimp only
        simp_all_arith [f4, q]
        try rfl
  | a :: b :: w :: r, pre, n, last, acc, x4, f4, e, _, hn, ha, hl => by
    have hw : ws[pre.length]? = some a := by rw [e, at_pre]; rfl
    have hw1 : ws[pre.length + 1]? = some b := by rw [e, at_pre1]; rfl
    have hw2 : ws[pre.length + 2]? = some w := by rw [e, at_pre2]; rfl
    rw [List.length_cons, List.length_cons, List.length_cons] at hn ha
    obtain ⟨n', rfl⟩ : ∃ n', n = n' + 1 := ⟨(r.length + 2) / 3, by omega⟩
    rw [ev3_succ, Sh.forD_cons]
    unfold rdt
    cases h : isNm a
    · have q := duA z ws S (last := last) (acc := acc) hw h
      rw [if_neg (by simp)]
      dsimp only
      simp_all_arith [f4, q]
      try rfl
    · rw [if_pos rfl]
      cases hb : (isNm b && ltP last (a, b))
      · have q := duP z ws S (acc := acc) hw h hw1 hb
        rw [if_neg (by simp)]
        dsimp only
        simp_all_arith [f4, q]
        try rfl
      · rw [if_pos rfl]
        have hlt := (Bool.and_eq_true _ _ ▸ hb : isNm b = true ∧ ltP last (a, b) = true).2
        cases hnw : numP w with
        | none =>
          have q := duN z ws S (acc := acc) hw h hw1 hb (by rw [hw2]; exact hnw) hs
          dsimp only
          simp_all_arith [f4, q]
          try rfl
        | some v =>
          have q := duG z ws S (acc := acc) hw h hw1 hb (v := v) (by rw [hw2]; exact hnw) hs (by omega) (notin_acc hl hlt)
          dsimp only
          by_cases hr : r = []
          · subst hr
            rw [if_pos rfl]
            have : n' = 0 := by simp at hn; omega
            subst this
            refine ⟨.val (pD (a, b)), .val (.int (pre.length : Nat)), ?_⟩
            rw [ev3_zero]
            simp_all_arith [f4, q]
          · rw [if_neg hr]
            have ih := due_loop hs r (pre ++ [a, b, w]) n' (a, b) (acc ++ [((a, b), v)]) (.val (.int (pre.length : Nat))) rfl (by rw [e, List.append_assoc]; rfl) hr (by omega) (by rw [List.length_append, List.length_singleton]; omega) (acc_next hl hlt)
            rw [List.length_append, show pre.length + [a, b, w].length = pre.length + 3 from rfl] at ih
            cases hk : rdt r (pre.length + 3) (a, b) with
            | ok xs =>
              rw [hk] at ih
              obtain ⟨y3, y4, ih⟩ := ih
              refine ⟨y3, y4, ?_⟩
              rw [List.append_assoc, List.singleton_append] at ih
              simp_all_arith [f4, q]
              exact ih
            | error k =>
              rw [hk] at ih
              dsimp only at ih ⊢
              simp_all_arith [f4, q]
              exact ih
end
abbrev wds (z : Str) : List Str := Txt.split z " "
theorem wds_pos (z : Str) : 0 < (wds z).length := split_pos z " "
theorem wds_le (z : Str) : (wds z).length ≤ z.length + 2 := split_le z " "
theorem wds_short {z w : Str} (h : w ∈ wds z) : w.length ≤ z.length := part_short h
theorem split_fit (z : Str) (h : z.length ≤ 70000) : dSplit z (.str " ") = some (.lst ((wds z).map .str)) := by
  unfold dSplit
  exact if_pos ⟨by decide +kernel, by show _ ≤ 16777216; omega⟩
def dueD : Except Nat (List Te) → D
  | .ok xs => tbP xs
  | .error k => .int (k : Nat)
theorem due_ok (z : Str) (hz : z.length ≤ 70000) (S : Store) : sh__law_due [.str z] S = .ok (dueD (parsT (wds z))) S := by
  have hp := wds_pos z
  have hl := wds_le z
  have sf := split_fit z hz
  have eq := eq_lone (wds z) "none"
  have hne : wds z ≠ [] := List.length_pos_iff.mp hp
  have lp := due_loop (.str z) (wds z) S (fun w hw => Nat.le_trans (wds_short hw) (by omega)) (wds z) [] (((wds z).length + 2) / 3) lE [] .no rfl rfl hne rfl (by simp; omega) (fun _ h => nomatch h)
  unfold parsT
  by_cases hn : wds z = noneW
  · rw [decide_eq_true hn] at eq
    rw [if_pos hn]
    unfold sh__law_due pic__law_due
    simp_all_arith [sf, putPT, eq]
    rfl
  · rw [decide_eq_false hn] at eq
    rw [if_neg hn]
    have hr : rgN 0 (wds z).length 3 = ((wds z).length + 2) / 3 := by unfold rgN; omega
    have hb : (0 : Int) ≤ (wds z).length ∧ ((wds z).length : Int) < 1000000 := by omega
    have he : ((List.range (((wds z).length + 2) / 3)).map fun k => D.int (0 + (k : Nat) * 3)) = ev3 0 (((wds z).length + 2) / 3) := rfl
    rw [List.length_nil] at lp
    cases hk : rdt (wds z) 0 lE with
    | ok xs =>
      rw [hk] at lp
      obtain ⟨y3, y4, lp⟩ := lp
      unfold sh__law_due pic__law_due
      simp_all_arith [sf, putPT, eq, hr, hb, he]
      refine (congrArg (fun q : RS => (q.seq (sFrzT 2 (sRet (eVar 2)))).res) lp).trans ?_
      simp_all_arith
      rfl
    | error k =>
      rw [hk] at lp
      dsimp only at lp
      unfold sh__law_due pic__law_due
      simp_all_arith [sf, putPT, eq, hr, hb, he]
      refine (congrArg (fun q : RS => (q.seq (sFrzT 2 (sRet (eVar 2)))).res) lp).trans ?_
      simp_all_arith
      rfl
end Nk
namespace Nk
open PySem PyProof.Rows L2 Sh
theorem join_wds (z : Str) : Txt.join " " (wds z) = z := by
  rw [TL.join_eq]
  exact PySem.StrLaws.join_split z _
theorem hits_self (xs : List Te) (hd : (prs xs).Nodup) : ∀ r : List Te, (∀ p ∈ r, p ∈ xs) → dtHits (tks xs) (tks r) = some true
  | [], _ => rfl
  | p :: r, h => by
    have ih := hits_self xs hd r fun q hq => h q (List.mem_cons_of_mem _ hq)
    have hp := h p List.mem_cons_self
    have q := dtV_tks xs p.1
    rw [if_pos (List.mem_map_of_mem hp), pget_in hd p hp] at q
    have e : dEq (.int p.2) (.int p.2) = some (.bl true) := by rw [dEq_iiZ, beq_self_eq_true]
    show (match dtV (tks xs) (pk p.1) with
      | none => some false
      | some d2 => (dEq (.int p.2) d2).bind fun b => b.b.bind fun b => (dtHits (tks xs) (tks r)).map fun c => b && c) = _
    rw [q]
    dsimp only
    rw [e, Option.bind_some, ih]
    rfl
theorem steq_ok (xs : List Te) (hd : (prs xs).Nodup) (S : Store) : sh_Standing_eq [StD xs, StD xs] S = .ok (.bl true) S := by
  have e : dtEq (tks xs) (tks xs) = some true := by
    unfold dtEq
    rw [if_pos rfl]
    exact hits_self xs hd xs fun _ h => h
  have e2 : ((D.dtv S (tbP xs)).bind fun ks => (D.dtv S (tbP xs)).bind fun ls => (dtEq ks ls).map fun b => D.bl (if false then !b else b)) = some (.bl true) := by
    show ((dtEq (tks xs) (tks xs)).map fun b => D.bl (if false then !b else b)) = _
    rw [e]
    rfl
  have e3 : oEqT false (tbP xs) (tbP xs) S = .ok (.bl true) S := by
    unfold oEqT
    rw [e2]
    rfl
  unfold sh_Standing_eq pic_Standing_eq
  simp_all_arith [↓e3]
theorem stand_of_np {xs : List Te} (g : NP xs) (hl : xs.length ≤ 60) (S : Store) : sh_Standing_init (.ins "Standing" []) [tbP xs] S = .ok (.ins "Standing" [("own_things", tbP xs)]) S := by
  have e := stand_init xs (g.ok hl) S
  rw [g.norm hl] at e
  exact e
theorem read_ok (z : Str) (hz : z.length ≤ 70000) (hc : (wds z).length ≤ 120) (S : Store) : match parsT (wds z) with
    | .ok xs => sh_Standing_read [.cls "Standing", .str z] S = .ok (StD xs) (S ++ [Ws (wds z) 0 (wds z).length])
    | .error k => ∃ j, sh_Standing_read [.cls "Standing", .str z] S = .er (badX 0 k) (S ++ [Ws (wds z) 0 j]) := by
  have hl := wds_le z
  have e1 : ∀ S, sh_Words_init (.ins "Words" []) [.str z, .int 0] S = .ok (Ws (wds z) 0 0) S := fun S => ws_init (split_fit z hz) 0 S
  have e2 := tthings_ok (wds z) S (fun w hw => Nat.le_trans (wds_short hw) (by omega)) (by omega) (List.length_pos_iff.mp (wds_pos z))
  cases hp : parsT (wds z) with
  | error k =>
    rw [hp] at e2
    obtain ⟨j, e2⟩ := e2
    refine ⟨j, ?_⟩
    unfold sh_Standing_read pic_Standing_read
    simp_all_arith [e1, e2]
  | ok xs =>
    rw [hp] at e2
    dsimp only at e2 ⊢
    obtain ⟨ew, g⟩ := parsT_ok hp
    have hx : xs.length ≤ 60 := by have := swd_len xs; rw [← ew] at this; omega
    have e3 := ws_closeG (wds z) 0 (wds z).length S
    rw [if_pos rfl] at e3
    have e4 := fun S => stand_of_np g hx S
    unfold sh_Standing_read pic_Standing_read
    simp_all_arith [e1, e2, ws_isC, e3, e4]
theorem read_bad (d : D) (S : Store) (h : isiF ["str"] [("Standing", false)] d = some false) : sh_Standing_read [.cls "Standing", d] S = .er (badX 0 0) S := by
  have e1 : sh_Words_init (.ins "Words" []) [d, .int 0] S = .er (badX 0 0) S := by
    unfold sh_Words_init pic_Words_init
    simp_all_arith [h]
    rfl
  unfold sh_Standing_read pic_Standing_read
  simp_all_arith [e1]
def hear (S : Store) (r : R D) : R D := (sh__law_heard 0 (fun _ => r) S).clean
theorem heard_eq {th : Store → R D} {S : Store} : (sh__law_heard 0 th S).clean = hear S (th S) := by
  unfold hear sh__law_heard pic__law_heard
  simp_all_arith [runL, ap_eAct, noOwn]
theorem hear_ok {S S1 : Store} {xs : List Te} : hear S (.ok (StD xs) S1) = .ok (.lst [StD xs]) S1 := by
  unfold hear sh__law_heard pic__law_heard
  simp_all_arith [runL, ap_eAct, noOwn]
theorem hear_text {S S1 : Store} {k : Nat} : hear S (.er (badX 0 k) S1) = .ok (.tup [.str "text", .int 0, .int k]) S1 := by
  unfold hear sh__law_heard pic__law_heard
  simp_all_arith [runL, ap_eAct, noOwn]
theorem cls_str {c : String} {F : List D → Store → R D} {d : D} {z : Str} {S : Store} (h : F [d] S = .ok (.str z) S) (hd : d.isO c S = true) : cStr c F [d] S = .ok (.str z) S := by
  unfold cStr
  simp_all_arith [h, hd]
theorem read_right (z : Str) (hz : z.length ≤ 70000) (hc : (wds z).length ≤ 120) (S : Store) : ∃ c, sh__law_read_right [.str z] S = .ok (.bl true) (S ++ [c]) := by
  have d := due_ok z hz S
  have r := read_ok z hz hc S
  cases hp : parsT (wds z) with
  | error k =>
    rw [hp] at d r
    obtain ⟨j, r⟩ := r
    refine ⟨Ws (wds z) 0 j, ?_⟩
    have h := @hear_text S (S ++ [Ws (wds z) 0 j]) k
    have iy : isiY ["bool", "int"] [] (.int (k : Nat)) = some true := rfl
    unfold sh__law_read_right pic__law_read_right
    simp_all_arith [d, dueD, ap_eLam, heard_eq, r, h, iy]
  | ok xs =>
    rw [hp] at d r
    dsimp only at r
    obtain ⟨ew, g⟩ := parsT_ok hp
    have hx : xs.length ≤ 60 := by have := swd_len xs; rw [← ew] at this; omega
    have h := @hear_ok S (S ++ [Ws (wds z) 0 (wds z).length]) xs
    have e := fun S => steq_ok xs g.d S
    have o := fun S => stand_of_np g hx S
    have t := fun S => stand_str xs g hx S
    rw [← ew, join_wds] at t
    have t2 := fun S => cls_str (c := "Standing") (t S) rfl
    have iy : isiY ["bool", "int"] [] (tbP xs) = some false := rfl
    refine ⟨Ws (wds z) 0 (wds z).length, ?_⟩
    unfold sh__law_read_right pic__law_read_right
    simp_all_arith [d, dueD, ap_eLam, heard_eq, r, h, e, o, t2, iy]
end Nk
namespace Nk
open PySem PyProof.Rows L2 Sh
def pen (xs : List Int) (at_ gr : Int) : Cell := .lst [.lst (xs.map .int), .int at_, .int gr]
theorem dNe_nil {xs : List Int} : dNe (.lst (xs.map D.int)) (.lst []) = some (.bl (!xs.isEmpty)) := by
  unfold dNe dEqP D.py
  rw [pys_ints]
  show (if _ then some (D.bl (!PyData.eqv (.list (xs.map PyData.int)) (.list []))) else none) = _
  have hd : (PyData.list (xs.map PyData.int)).depth ≤ 60 := by
    have : ∀ ys : List Int, PyData.depthAll (ys.map PyData.int) ≤ 1 := fun ys => by
      induction ys with
      | nil => decide
      | cons y r ih => simp only [List.map_cons, PyData.depthAll, PyData.depth]; omega
    have := this xs
    simp only [PyData.depth]
    omega
  rw [if_pos hd]
  cases xs with
  | nil => rfl
  | cons x r => rfl
theorem at_some {xs : List Int} {k : Int} (h0 : 0 ≤ k) (h : k < xs.length) : ∃ c, atI (xs.map D.int) k = some (.int c) := by
  unfold atI ixN
  rw [List.length_map, if_pos h0, if_pos h]
  have h2 : k.toNat < xs.length := by omega
  exact ⟨xs[k.toNat], by simp [h2]⟩
theorem draw (xs : List Int) (at_ gr many : Int) (T : Store) (h0 : 0 ≤ at_) (h1 : at_ ≤ 100000) (m0 : 0 < many) (m1 : many < 2 ^ 250) (hx : xs.length ≤ 63) :
    ∃ r a g, sh__law_draw [.ref 0, .int many] (pen xs at_ gr :: T) = .ok (.int r) (pen xs a g :: T) ∧ 0 ≤ r ∧ r < many ∧ at_ ≤ a ∧ a ≤ at_ + 1 := by
  have fd : ∀ a : Int, dFdiv (.int a) (.int many) = some (.int (a / many)) := fun a => by
    unfold dFdiv oI
    dsimp only
    rw [if_pos (show CDivW a many from Nk.c_divW m0 (by omega))]
  unfold sh__law_draw pic__law_draw pen
  simp_all_arith
  by_cases hg : 0 < gr
  · simp_all_arith [decide_eq_true hg, fd]
    exact ⟨_, _, _, rfl, Int.emod_nonneg _ (by omega), Int.emod_lt_of_pos _ m0, Int.le_refl _, by omega⟩
  · simp_all_arith [decide_eq_false hg]
    have e := dNe_nil (xs := xs)
    have hlm : (xs.map D.int).length = xs.length := List.length_map ..
    have mix : ∀ (c : Int), ∃ r, (pic__law_draw_mix [Sl.val (D.ref 0), Sl.val (D.int many), Sl.no, Sl.val (D.int at_), Sl.val (D.int c), Sl.no, Sl.no] (Cell.lst [D.lst (List.map D.int xs), D.int (at_ + 1), D.int gr] :: T)).res = R.ok (D.int r) (Cell.lst [D.lst (List.map D.int xs), D.int (at_ + 1), D.int gr] :: T) ∧ 0 ≤ r ∧ r < many := by
      intro c
      unfold pic__law_draw_mix
      simp_all_arith
      generalize hm : (c % 2147483563 + 2777 * at_ + 2437) ^ 5 % 2147483629 = m
      have hm0 : 0 ≤ m ∧ m < 2147483629 := by rw [← hm]; exact ⟨Int.emod_nonneg _ (by decide), Int.emod_lt_of_pos _ (by decide)⟩
      have h3 : m * (2 * at_ + 131) ≤ 2147483629 * 200131 := Int.mul_le_mul (by omega) (by omega) (by omega) (by omega)
      have h4 : 0 ≤ m * (2 * at_ + 131) := Int.mul_nonneg (by omega) (by omega)
      have h5 : 13997 * at_ * at_ ≤ (13997 * 100000) * 100000 := Int.mul_le_mul (by omega) (by omega) (by omega) (by omega)
      have h6 : 0 ≤ 13997 * at_ * at_ := Int.mul_nonneg (by omega) (by omega)
      try simp_all_arith
      exact ⟨_, rfl, Int.emod_nonneg _ (by omega), Int.emod_lt_of_pos _ m0⟩
    have tail : ∀ (c : Int), ∃ r a g, (pic__law_draw_tail [Sl.val (D.ref 0), Sl.val (D.int many), Sl.no, Sl.val (D.int at_), Sl.val (D.int c), Sl.no, Sl.no] (Cell.lst [D.lst (List.map D.int xs), D.int (at_ + 1), D.int gr] :: T)).res = R.ok (D.int r) (Cell.lst [D.lst (List.map D.int xs), D.int a, D.int g] :: T) ∧ 0 ≤ r ∧ r < many ∧ at_ ≤ a ∧ a ≤ at_ + 1 := by
      intro c
      unfold pic__law_draw_tail
      simp_all_arith [hlm]
      have fin : ∃ r a g, (pic__law_draw_mix [Sl.val (D.ref 0), Sl.val (D.int many), Sl.no, Sl.val (D.int at_), Sl.val (D.int c), Sl.no, Sl.no] (Cell.lst [D.lst (List.map D.int xs), D.int (at_ + 1), D.int gr] :: T)).res = R.ok (D.int r) (Cell.lst [D.lst (List.map D.int xs), D.int a, D.int g] :: T) ∧ 0 ≤ r ∧ r < many ∧ at_ ≤ a ∧ a ≤ at_ + 1 := by
        obtain ⟨r, h1, h2, h3⟩ := mix c
        exact ⟨r, _, _, h1, h2, h3, by omega, by omega⟩
      by_cases h : at_ < (xs.length : Int)
      · by_cases h' : (10 : Int) ^ 18 ≤ (if c < 0 then -c else c)
        · simp_all_arith [decide_eq_true h, decide_eq_true h', fd]
          exact ⟨_, _, _, rfl, Int.emod_nonneg _ (by omega), Int.emod_lt_of_pos _ m0, by omega, by omega⟩
        · simp_all_arith [decide_eq_true h, decide_eq_false h']
          exact fin
      · simp_all_arith [decide_eq_false h]
        exact fin
    by_cases hx0 : xs = []
    · have e2 : xs.isEmpty = true := by rw [hx0]; rfl
      simp_all_arith [e, e2]
      exact tail _
    · have e2 : xs.isEmpty = false := by simpa using hx0
      have hl : 0 < xs.length := List.length_pos_iff.mpr hx0
      obtain ⟨c, hc⟩ := at_some (xs := xs) (k := at_ % xs.length) (Int.emod_nonneg _ (by omega)) (Int.emod_lt_of_pos _ (by omega))
      simp_all_arith [e, e2, hlm, hc]
      exact tail _
theorem pick (xs : List Int) (at_ gr : Int) (T : Store) (ds : List D) (h0 : 0 ≤ at_) (h1 : at_ ≤ 100000) (hx : xs.length ≤ 63) (hd : 0 < ds.length) (hl : ds.length < 2 ^ 60) :
    ∃ d a g, d ∈ ds ∧ sh__law_pick [.ref 0, .lst ds] (pen xs at_ gr :: T) = .ok d (pen xs a g :: T) ∧ at_ ≤ a ∧ a ≤ at_ + 1 := by
  unfold sh__law_pick pic__law_pick
  obtain ⟨r, a, g, e, r0, r1, a0, a1⟩ := draw xs at_ gr ds.length T h0 h1 (by omega) (by omega) hx
  simp_all_arith [e]
  have : ∃ d, d ∈ ds ∧ atI ds r = some d := by
    unfold atI ixN
    rw [if_pos r0, if_pos r1]
    have h2 : r.toNat < ds.length := by omega
    exact ⟨ds[r.toNat], List.getElem_mem h2, by simp [h2]⟩
  obtain ⟨d, hd, hi⟩ := this
  simp_all_arith [hi]
  exact ⟨d, a, g, hd, rfl, a0, a1⟩
end Nk
namespace Nk
open PySem PyProof.Rows L2 Sh
section
variable {xs : List Int} {T : Store}
theorem at_get {α : Type} {l : List α} {r : Int} (h0 : 0 ≤ r) (h1 : r < l.length) : ∃ x, x ∈ l ∧ atI l r = some x ∧ ∃ j, ∃ (h : j < l.length), r = (j : Nat) ∧ ixN l.length r = some j ∧ l[j] = x := by
  have h2 : r.toNat < l.length := by omega
  refine ⟨l[r.toNat], List.getElem_mem h2, ?_, r.toNat, h2, by omega, ?_, rfl⟩
  · unfold atI ixN
    rw [if_pos h0, if_pos h1]
    simp [h2]
  · unfold ixN
    rw [if_pos h0, if_pos h1]
theorem slen (z : Str) : z.cps.toList.length = z.length := by simp [Str.length]
theorem pick_str (hx : xs.length ≤ 63) (z : Str) (hz : 0 < z.length) (hz2 : z.length ≤ 60) (a g : Int) (h0 : 0 ≤ a) (h1 : a ≤ 100000) : ∃ c a' g', c ∈ z.cps.toList ∧ sh__law_pick [.ref 0, .str z] (pen xs a g :: T) = .ok (.str ⟨#[c]⟩) (pen xs a' g' :: T) ∧ a ≤ a' ∧ a' ≤ a + 1 := by
  obtain ⟨r, a', g', e, r0, r1, a0, a1⟩ := draw xs a g z.length T h0 h1 (by omega) (by omega) hx
  have dl : dLen [.str z] = some (.int z.length) := rfl
  obtain ⟨c, hc, hi, _⟩ := at_get (l := z.cps.toList) r0 (by rw [slen]; exact r1)
  have hix : D.ix (.str z) (.int r) = some (.str ⟨#[c]⟩) := by
    show ((atI z.cps.toList r).map fun c => D.str ⟨#[c]⟩) = _
    rw [hi]; rfl
  refine ⟨c, a', g', hc, ?_, a0, a1⟩
  unfold sh__law_pick pic__law_pick
  simp_all_arith [dl, e, hix]
theorem word_loop (hx : xs.length ≤ 63) (z : Str) (hz : 0 < z.length) (hz2 : z.length ≤ 60) (hl : ∀ c ∈ z.cps.toList, isLet c = true) : ∀ (is : List Nat) (w : Str) (x3 : Sl) (a g : Int), x3.free = true → 0 ≤ a → a + is.length ≤ 90000 → w.length + is.length ≤ 8 → w.cps.toList.all isLet = true →
    ∃ w' y a' g', forD (gN 3) (sSet 2 (eBin dAdd (eVar 2) (eDf sh__law_pick (aCons (eVar 0) (aCons (eVar 1) aNil))))) (is.map fun i => D.int (i : Nat)) [.val (.ref 0), .val (.str z), .val (.str w), x3] (pen xs a g :: T) = .nx [.val (.ref 0), .val (.str z), .val (.str w'), y] (pen xs a' g' :: T) ∧ y.free = true ∧ w'.cps.toList.all isLet = true ∧ w'.length = w.length + is.length ∧ a ≤ a' ∧ a' ≤ a + is.length
  | [], w, x3, a, g, f, _, _, _, hw => ⟨w, x3, a, g, rfl, f, hw, rfl, by omega, by simp⟩
  | i :: is, w, x3, a, g, f, h0, h1, h2, hw => by
    rw [List.length_cons] at h1 h2
    obtain ⟨c, a1, g1, hc, e1, b1, c1⟩ := pick_str (T := T) hx z hz hz2 a g h0 (by omega)
    have hw1 : (w ++ (⟨#[c]⟩ : Str)).cps.toList = w.cps.toList ++ [c] := by
      show (w.cps ++ #[c]).toList = _
      simp
    have hl1 : (w ++ (⟨#[c]⟩ : Str)).length = w.length + 1 := by
      rw [← slen, hw1, List.length_append, slen]; rfl
    obtain ⟨w', y, a2, g2, e2, fy, q1, q2, b2, c2⟩ := word_loop hx z hz hz2 hl is (w ++ ⟨#[c]⟩) (.val (.int (i : Nat))) a1 g1 rfl (by omega) (by omega) (by omega) (by rw [hw1, List.all_append, hw]; simp [hl c hc])
    refine ⟨w', y, a2, g2, ?_, fy, q1, by rw [q2, hl1, List.length_cons]; omega, by omega, by rw [List.length_cons]; omega⟩
    have hs : dAdd (.str w) (.str ⟨#[c]⟩) = some (.str (w ++ ⟨#[c]⟩)) := dAdd_ss (by show w.length + 1 ≤ 16777216; omega)
    rw [List.map_cons, Sh.forD_cons]
    simp_all_arith [f, e1, hs]
    exact e2
theorem word_ok (hx : xs.length ≤ 63) (a g : Int) (h0 : 0 ≤ a) (h1 : a ≤ 80000) : ∃ w a' g', sh__law_word [.ref 0] (pen xs a g :: T) = .ok (.str w) (pen xs a' g' :: T) ∧ isNm w = true ∧ a ≤ a' ∧ a' ≤ a + 10 := by
  obtain ⟨d, a1, g1, hd, e1, b1, c1⟩ := pick xs a g T [.str "abcdefghijklmnopqrstuvwxyz", .str "aby"] h0 (by omega) hx (by decide) (by decide)
  have : ∃ z : Str, d = .str z ∧ 0 < z.length ∧ z.length ≤ 60 ∧ ∀ c ∈ z.cps.toList, isLet c = true := by
    simp only [List.mem_cons, List.not_mem_nil, or_false] at hd
    rcases hd with rfl | rfl
    · exact ⟨_, rfl, by decide +kernel, by decide +kernel, by decide +kernel⟩
    · exact ⟨_, rfl, by decide +kernel, by decide +kernel, by decide +kernel⟩
  obtain ⟨z, rfl, z0, z1, hl⟩ := this
  obtain ⟨q, a2, g2, e2, q0, q1, b2, c2⟩ := draw xs a1 g1 8 T (by omega) (by omega) (by omega) (by omega) hx
  obtain ⟨m, rfl⟩ := Int.eq_ofNat_of_zero_le q0
  obtain ⟨w, y, a3, g3, e3, fy, k1, k2, b3, c3⟩ := word_loop (T := T) hx z z0 z1 hl (List.range (1 + m)) "" .no a2 g2 rfl (by omega) (by rw [List.length_range]; omega) (by rw [List.length_range]; show 0 + (1 + m) ≤ 8; omega) rfl
  rw [List.length_range] at k2 c3
  have e6 : ((1 : Int) + m).toNat = 1 + m := by omega
  refine ⟨w, a3, g3, ?_, ?_, by omega, by omega⟩
  · unfold sh__law_word pic__law_word
    simp_all_arith [e1, e2, e6, e3, fy]
  · have : ("" : Str).length = 0 := rfl
    unfold isNm
    rw [k1, decide_eq_true (by omega)]
    rfl
def setP (tb : List Te) (z : Pp) (v : Int) : List Te := if z ∈ prs tb then tb.map (fun p => if p.1 = z then (p.1, v) else p) else tb ++ [(z, v)]
theorem any_tks (z : Pp) : ∀ tb : List Te, ((tks tb).any fun p => decide (p.1 = pk z)) = decide (z ∈ prs tb)
  | [] => rfl
  | p :: tb => by
    have ih := any_tks z tb
    show (decide ((tk p).1 = pk z) || (tks tb).any fun p => decide (p.1 = pk z)) = decide (z ∈ p.1 :: prs tb)
    rw [ih]
    apply Bool.eq_iff_iff.mpr
    rw [Bool.or_eq_true, decide_eq_true_eq, decide_eq_true_eq, decide_eq_true_eq, List.mem_cons]
    exact ⟨fun h => h.imp (fun e => (pk_inj (show pk p.1 = pk z from e)).symm) id, fun h => h.imp (fun e => by show pk p.1 = pk z; rw [e]) id⟩
theorem dtSt_set (tb : List Te) (z : Pp) (v : Int) : dtSt (tks tb) (pk z) (.int v) = tks (setP tb z v) := by
  unfold dtSt setP
  rw [any_tks]
  by_cases h : z ∈ prs tb
  · rw [decide_eq_true h, if_pos rfl, if_pos h]
    show ((tb.map tk).map _) = ((tb.map _).map tk)
    rw [List.map_map, List.map_map]
    refine List.map_congr_left fun p hp => ?_
    show (if (tk p).1 = pk z then ((tk p).1, D.int v) else tk p) = tk (if p.1 = z then (p.1, v) else p)
    by_cases e : p.1 = z
    · rw [if_pos e, if_pos (by show pk p.1 = pk z; rw [e])]; rfl
    · rw [if_neg e, if_neg (show ¬ (tk p).1 = pk z from fun q => e (pk_inj q))]
  · rw [decide_eq_false h, if_neg (by decide), if_neg h]
    show tb.map tk ++ [tk (z, v)] = (tb ++ [(z, v)]).map tk
    rw [List.map_append]
    rfl
theorem setP_ok {tb : List Te} (h : OkP tb) (hl : tb.length ≤ 50) {z : Pp} (hz : isNm z.1 = true ∧ isNm z.2 = true) {v : Int} (hv : 0 ≤ v ∧ v ≤ MXN) : OkP (setP tb z v) := by
  unfold setP
  by_cases hm : z ∈ prs tb
  · rw [if_pos hm]
    have nn : prs (tb.map (fun p => if p.1 = z then (p.1, v) else p)) = prs tb := by
      show (tb.map _).map (fun p : Te => p.1) = tb.map (fun p : Te => p.1)
      rw [List.map_map]
      refine List.map_congr_left fun p _ => ?_
      show (if p.1 = z then (p.1, v) else p).1 = p.1
      split <;> rfl
    refine ⟨fun p hp => ?_, fun p hp => ?_, by rw [nn]; exact h.d, by rw [List.length_map]; omega⟩
    · obtain ⟨q, hq, rfl⟩ := List.mem_map.mp hp
      have := h.n q hq
      split <;> exact this
    · obtain ⟨q, hq, rfl⟩ := List.mem_map.mp hp
      have := h.v q hq
      split
      · exact hv
      · exact this
  · rw [if_neg hm]
    refine ⟨fun p hp => ?_, fun p hp => ?_, ?_, by rw [List.length_append, List.length_singleton]; omega⟩
    · rcases List.mem_append.mp hp with hp | hp
      · exact h.n p hp
      · rw [List.mem_singleton.mp hp]; exact hz
    · rcases List.mem_append.mp hp with hp | hp
      · exact h.v p hp
      · rw [List.mem_singleton.mp hp]; exact hv
    · rw [show prs (tb ++ [(z, v)]) = prs tb ++ [z] from List.map_append .., List.nodup_append]
      exact ⟨h.d, by simp, fun a ha b hb e => hm (by rw [List.mem_singleton.mp hb] at e; exact e ▸ ha)⟩
theorem setP_len (tb : List Te) (z : Pp) (v : Int) : (setP tb z v).length ≤ tb.length + 1 := by
  unfold setP
  split
  · rw [List.length_map]; omega
  · rw [List.length_append, List.length_singleton]; omega
theorem tb_step (hx : xs.length ≤ 63) (i : Nat) (tb : List Te) (x3 x4 x5 : Sl) (f3 : x3.free = true) (f4 : x4.free = true) (f5 : x5.free = true) (h : OkP tb) (hl : tb.length ≤ 40) (a g : Int) (h0 : 0 ≤ a) (h1 : a ≤ 70000) : ∃ tb' y3 y4 y5 a' g', pic__law_table_b [.val (.ref 0), .own (.dt (tks tb)), .val (.int (i : Nat)), x3, x4, x5] (pen xs a g :: T) = .nx [.val (.ref 0), .own (.dt (tks tb')), .val (.int (i : Nat)), y3, y4, y5] (pen xs a' g' :: T) ∧ y3.free = true ∧ y4.free = true ∧ y5.free = true ∧ OkP tb' ∧ tb'.length ≤ tb.length + 1 ∧ a ≤ a' ∧ a' ≤ a + 40 := by
  obtain ⟨w1, a1, g1, e1, n1, b1, c1⟩ := word_ok (T := T) hx a g h0 (by omega)
  obtain ⟨w2, a2, g2, e2, n2, b2, c2⟩ := word_ok (T := T) hx a1 g1 (by omega) (by omega)
  obtain ⟨d, a3, g3, hd, e3, b3, c3⟩ := pick xs a2 g2 T [.str "none", .str "a", .str w1] (by omega) (by omega) hx (by show 0 < 3; decide) (by show 3 < 2 ^ 60; decide)
  have hz : ∃ z : Str, d = .str z ∧ isNm z = true := by
    simp only [List.mem_cons, List.not_mem_nil, or_false] at hd
    rcases hd with rfl | rfl | rfl
    · exact ⟨_, rfl, by decide +kernel⟩
    · exact ⟨_, rfl, by decide +kernel⟩
    · exact ⟨_, rfl, n1⟩
  obtain ⟨z1, rfl, nz1⟩ := hz
  obtain ⟨d, a4, g4, hd, e4, b4, c4⟩ := pick xs a3 g3 T [.str "none", .str "b", .str w2] (by omega) (by omega) hx (by show 0 < 3; decide) (by show 3 < 2 ^ 60; decide)
  have hz : ∃ z : Str, d = .str z ∧ isNm z = true := by
    simp only [List.mem_cons, List.not_mem_nil, or_false] at hd
    rcases hd with rfl | rfl | rfl
    · exact ⟨_, rfl, by decide +kernel⟩
    · exact ⟨_, rfl, by decide +kernel⟩
    · exact ⟨_, rfl, n2⟩
  obtain ⟨z2, rfl, nz2⟩ := hz
  obtain ⟨q1, a5, g5, e5, p0, p1, b5, c5⟩ := draw xs a4 g4 120 T (by omega) (by omega) (by omega) (by omega) hx
  obtain ⟨q2, a6, g6, e6, r0, r1, b6, c6⟩ := draw xs a5 g5 (10 ^ 59) T (by omega) (by omega) (by decide) (by decide) hx
  obtain ⟨d, a7, g7, hd, e7, b7, c7⟩ := pick xs a6 g6 T [.int 0, .int (1 + q1), .int (10 ^ 60 - 1), .int (1 + q2)] (by omega) (by omega) hx (by show 0 < 4; decide) (by show 4 < 2 ^ 60; decide)
  have hv : ∃ v : Int, d = .int v ∧ 0 ≤ v ∧ v ≤ MXN := by
    have hM : MXN = 10 ^ 60 - 1 := by decide
    simp only [List.mem_cons, List.not_mem_nil, or_false] at hd
    rcases hd with rfl | rfl | rfl | rfl
    · exact ⟨_, rfl, by omega, by decide⟩
    · exact ⟨_, rfl, by omega, by omega⟩
    · exact ⟨_, rfl, by decide, by omega⟩
    · exact ⟨_, rfl, by omega, by omega⟩
  obtain ⟨v, rfl, v0⟩ := hv
  have st := dtSt_set tb (z1, z2) v
  have k : (D.tup [.str z1, .str z2]).tkey = some (pk (z1, z2)) := rfl
  have hc : (tks tb).length < 16777216 := by rw [List.length_map]; omega
  have l1 := setP_len tb (z1, z2) v
  refine ⟨setP tb (z1, z2) v, .val (.str w1), .val (.str w2), .val (.tup [.str z1, .str z2]), a7, g7, ?_, rfl, rfl, rfl, setP_ok h (by omega) ⟨nz1, nz2⟩ v0, l1, by omega, by omega⟩
  unfold pic__law_table_b
  simp_all_arith [e1, e2, e3, f3, f4, f5, e4, e5, e6, e7, k, st, hc]
theorem tb_loop (hx : xs.length ≤ 63) : ∀ (is : List Nat) (tb : List Te) (x2 x3 x4 x5 : Sl) (a g : Int), x2.free = true → x3.free = true → x4.free = true → x5.free = true → OkP tb → tb.length + is.length ≤ 40 → 0 ≤ a → a + 40 * is.length ≤ 60000 →
    ∃ tb' y2 y3 y4 y5 a' g', forD (gN 2) pic__law_table_b (is.map fun i => D.int (i : Nat)) [.val (.ref 0), .own (.dt (tks tb)), x2, x3, x4, x5] (pen xs a g :: T) = .nx [.val (.ref 0), .own (.dt (tks tb')), y2, y3, y4, y5] (pen xs a' g' :: T) ∧ OkP tb' ∧ tb'.length ≤ tb.length + is.length ∧ a ≤ a' ∧ a' ≤ a + 40 * is.length
  | [], tb, x2, x3, x4, x5, a, g, _, _, _, _, h, _, _, _ => ⟨tb, x2, x3, x4, x5, a, g, rfl, h, by simp, by omega, by simp⟩
  | i :: is, tb, x2, x3, x4, x5, a, g, f2, f3, f4, f5, h, hl, h0, h1 => by
    rw [List.length_cons] at hl h1
    obtain ⟨tb1, y3, y4, y5, a1, g1, e1, k3, k4, k5, k2, kl, b1, c1⟩ := tb_step (T := T) hx i tb x3 x4 x5 f3 f4 f5 h (by omega) a g h0 (by omega)
    obtain ⟨tb2, z2, z3, z4, z5, a2, g2, e2, m2, m3, b2, c2⟩ := tb_loop hx is tb1 (.val (.int (i : Nat))) y3 y4 y5 a1 g1 rfl k3 k4 k5 k2 (by omega) (by omega) (by omega)
    refine ⟨tb2, z2, z3, z4, z5, a2, g2, ?_, m2, by rw [List.length_cons]; omega, by omega, by rw [List.length_cons]; omega⟩
    rw [List.map_cons, Sh.forD_cons]
    simp_all_arith [f2]
    rw [e1]
    exact e2
theorem table_ok (hx : xs.length ≤ 63) (a g : Int) (h0 : 0 ≤ a) (h1 : a ≤ 50000) : ∃ tb a' g', sh__law_table [.ref 0] (pen xs a g :: T) = .ok (tbP tb) (pen xs a' g' :: T) ∧ OkP tb ∧ tb.length ≤ 4 ∧ a ≤ a' ∧ a' ≤ a + 200 := by
  obtain ⟨q, a1, g1, e1, q0, q1, b1, c1⟩ := draw xs a g 5 T h0 (by omega) (by omega) (by omega) hx
  obtain ⟨m, rfl⟩ := Int.eq_ofNat_of_zero_le q0
  obtain ⟨tb, y2, y3, y4, y5, a2, g2, e2, k1, k2, b2, c2⟩ := tb_loop (T := T) hx (List.range m) [] .no .no .no .no a1 g1 rfl rfl rfl rfl ⟨fun _ h => (nomatch h), fun _ h => (nomatch h), List.nodup_nil, by decide⟩ (by rw [List.length_range]; simp; omega) (by omega) (by rw [List.length_range]; omega)
  rw [List.length_range] at k2 c2
  rw [List.length_nil] at k2
  refine ⟨tb, a2, g2, ?_, k1, by omega, by omega, by omega⟩
  have hb : okR (m : Int) = true := okR_of (by omega) (by omega)
  have e2 : forD (gN 2) pic__law_table_b ((List.range m).map fun i => D.int (i : Nat)) [.val (.ref 0), .own (.dt []), .no, .no, .no, .no] (pen xs a1 g1 :: T) = _ := e2
  unfold sh__law_table pic__law_table
  simp_all_arith [e1, hb, e2]
end
end Nk
namespace Nk
open PySem PyProof.Rows L2 Sh
theorem joinD {ws : List Str} (h : ∀ w ∈ ws, w.length ≤ 200) (hl : ws.length ≤ 1000) : dJoin " " (.lst (ws.map D.str)) = some (.str (Txt.join " " ws)) := by
  have hs : (ws.map (·.length)).sum ≤ 200 * ws.length := by
    clear hl
    induction ws with
    | nil => simp
    | cons w r ih =>
      have := ih fun x hx => h x (List.mem_cons_of_mem _ hx)
      have := h w List.mem_cons_self
      simp only [List.map_cons, List.sum_cons, List.length_cons]
      omega
  unfold dJoin
  dsimp only
  rw [Sh.strs_map]
  dsimp only
  rw [show (Str.ofString " ").length = 1 from sp_len, if_pos (by omega)]
abbrev posP (tb : List Te) : List Pp := (prs tb).filter fun z => decide (0 < pget tb z)
abbrev inK (tb : List Te) (k : Str) : List Str := ((prs tb).filter fun z => z.1 == k && decide (0 < pget tb z)).map (·.2)
theorem inK_eq (tb : List Te) (k : Str) : inK tb k = bysP (posP tb) k := by
  show _ = (((prs tb).filter fun z => decide (0 < pget tb z)).filter fun p => p.1 == k).map (·.2)
  rw [List.filter_filter]
abbrev tT (tb : List Te) (ps : List Pp) : List Te := ps.map fun z => (z, pget tb z)
def allP (tb : List Te) : List Pp := (sdd ((prs tb).map (·.1))).flatMap fun k => (sdd (bysP (posP tb) k)).map fun b => (k, b)
theorem allP_mem {tb : List Te} {p : Pp} : p ∈ allP tb ↔ p ∈ posP tb := by
  unfold allP
  rw [List.mem_flatMap]
  constructor
  · rintro ⟨k, _, h⟩
    obtain ⟨b, hb, rfl⟩ := List.mem_map.mp h
    exact bysP_mem.mp (sdd_mem.mp hb)
  · intro h
    exact ⟨p.1, sdd_mem.mpr (List.mem_map_of_mem (List.mem_filter.mp h).1), List.mem_map.mpr ⟨p.2, sdd_mem.mpr (bysP_mem.mpr h), rfl⟩⟩
theorem allP_lt (tb : List Te) : (allP tb).Pairwise fun a b => ltP a b = true := by
  unfold allP
  rw [List.pairwise_flatMap]
  refine ⟨fun k _ => List.pairwise_map.mpr ((sdd_lt _).imp fun {a b} h => ?_), (sdd_lt _).imp fun {a b} h x hx y hy => ?_⟩
  · unfold ltP
    rw [Bool.or_eq_true, Bool.and_eq_true, beq_iff_eq]
    exact .inr ⟨rfl, h⟩
  · obtain ⟨_, _, rfl⟩ := List.mem_map.mp hx
    obtain ⟨_, _, rfl⟩ := List.mem_map.mp hy
    unfold ltP
    rw [Bool.or_eq_true]
    exact .inl h
theorem tT_prs (tb : List Te) (ps : List Pp) : prs (tT tb ps) = ps := by
  show ((ps.map fun z => ((z, pget tb z) : Te)).map fun p => p.1) = ps
  rw [List.map_map]
  exact List.map_id' ps
theorem tT_get (tb : List Te) : ∀ (ps : List Pp) (z : Pp), pget (tT tb ps) z = if z ∈ ps then pget tb z else 0
  | [], z => rfl
  | x :: ps, z => by
    have ih := tT_get tb ps z
    show (if x = z then pget tb x else pget (tT tb ps) z) = _
    by_cases h : x = z
    · subst h
      rw [if_pos rfl, if_pos List.mem_cons_self]
    · rw [if_neg h, ih]
      by_cases hm : z ∈ ps
      · rw [if_pos hm, if_pos (List.mem_cons_of_mem _ hm)]
      · rw [if_neg hm, if_neg fun q => (List.mem_cons.mp q).elim (fun e => h e.symm) hm]
theorem allP_norm {tb : List Te} (h : OkP tb) : tT tb (allP tb) = normP tb := by
  have hn : NP (tT tb (allP tb)) := by
    refine ⟨fun p hp => ?_, fun p hp => ?_, ?_⟩
    · obtain ⟨z, hz, rfl⟩ := List.mem_map.mp hp
      obtain ⟨q, hq, e⟩ := List.mem_map.mp (List.mem_filter.mp (allP_mem.mp hz)).1
      have := h.n q hq
      rw [show q.1 = z from e] at this
      exact this
    · obtain ⟨z, hz, rfl⟩ := List.mem_map.mp hp
      exact ⟨of_decide_eq_true (List.mem_filter.mp (allP_mem.mp hz)).2, (pget_ok h z).2⟩
    · rw [tT_prs]; exact allP_lt tb
  refine hn.ext (normP_NP h) fun z => ?_
  rw [tT_get, pget_norm]
  by_cases hz : z ∈ allP tb
  · rw [if_pos hz]
  · rw [if_neg hz]
    by_cases hz2 : z ∈ prs tb
    · have h1 := pget_ok h z
      have h2 : ¬ 0 < pget tb z := fun q => hz (allP_mem.mpr (List.mem_filter.mpr ⟨hz2, decide_eq_true q⟩))
      omega
    · rw [pget_no hz2]
theorem flt3_app : ∀ a b : List Te, flt3 (a ++ b) = flt3 a ++ flt3 b
  | [], _ => rfl
  | p :: a, b => by
    have := flt3_app a b
    show p.1.1 :: p.1.2 :: nT p.2 :: flt3 (a ++ b) = _
    rw [this]
    rfl
theorem let_free {x : Str} (h : isNm x = true) : 32 ∉ x.cps.toList := by
  unfold isNm at h
  rw [Bool.and_eq_true] at h
  intro hm
  have := List.all_eq_true.mp h.2 32 hm
  exact absurd this (by decide)
theorem flt3_short : ∀ {xs : List Te}, NP xs → ∀ w ∈ flt3 xs, w.length ≤ 60 ∧ 32 ∉ w.cps.toList
  | [], _, w, hw => nomatch hw
  | p :: xs, g, w, hw => by
    have g2 := (np_tail g).1
    have hn := g.n p List.mem_cons_self
    have hv := g.v p List.mem_cons_self
    have hw : w ∈ p.1.1 :: p.1.2 :: nT p.2 :: flt3 xs := hw
    rcases List.mem_cons.mp hw with rfl | hw
    · exact ⟨by have := nm_len hn.1; omega, let_free hn.1⟩
    rcases List.mem_cons.mp hw with rfl | hw
    · exact ⟨by have := nm_len hn.2; omega, let_free hn.2⟩
    rcases List.mem_cons.mp hw with rfl | hw
    · exact (nT_num (show 1 ≤ p.2 by omega) hv.2).2
    · exact flt3_short g2 w hw
abbrev txI : Sy := sSet 1 (eBin dAdd (eVar 1) (eLst (aCons (eVar 2) (aCons (eVar 3) (aCons (eCall dStr (aCons (eDixT (eVar 0) (eTup (aCons (eVar 2) (aCons (eVar 3) aNil)))) aNil)) aNil)))))
theorem txI_loop {tb : List Te} (h : OkP tb) (k : Str) (S : Store) : ∀ (zs : List Str) (pre : List Te) (x3 : Sl), x3.free = true → (∀ b ∈ zs, (k, b) ∈ prs tb) → pre.length + zs.length ≤ 1000 → ∃ y3, y3.free = true ∧ forD (gN 3) txI (zs.map D.str) [.val (tbP tb), .val (.lst ((flt3 pre).map D.str)), .val (.str k), x3, .no] S = .nx [.val (tbP tb), .val (.lst ((flt3 (pre ++ tT tb (zs.map fun b => (k, b)))).map D.str)), .val (.str k), y3, .no] S
  | [], pre, x3, f, _, _ => ⟨x3, f, by rw [show tT tb (([] : List Str).map fun b => (k, b)) = [] from rfl, List.append_nil]; rfl⟩
  | z :: zs, pre, x3, f, hz, hl => by
    rw [List.length_cons] at hl
    obtain ⟨y3, fy, e⟩ := txI_loop h k S zs (pre ++ [((k, z), pget tb (k, z))]) (.val (.str z)) rfl (fun x hx => hz x (List.mem_cons_of_mem _ hx)) (by rw [List.length_append, List.length_singleton]; omega)
    refine ⟨y3, fy, ?_⟩
    have hv := dtV_tks tb (k, z)
    rw [if_pos (hz z List.mem_cons_self)] at hv
    have hv : ((D.dtv S (tbP tb)).bind fun kvs => dtV kvs (pk (k, z))) = some (.int (pget tb (k, z))) := hv
    have tk : (D.tup [.str k, .str z]).tkey = some (pk (k, z)) := rfl
    have n := pget_ok h (k, z)
    have hd := dStr_B n.1 n.2
    have hf : (flt3 pre).length + 3 ≤ 16777216 := by rw [flt3_len]; omega
    have ea : (flt3 pre).map D.str ++ [D.str k, D.str z, D.str (nT (pget tb (k, z)))] = (flt3 (pre ++ [((k, z), pget tb (k, z))])).map D.str := by
      rw [flt3_app, List.map_append]
      rfl
    rw [List.append_assoc, List.singleton_append] at e
    rw [List.map_cons, Sh.forD_cons]
    simp_all_arith [f, tk, hv, hd, hf, ea]
    exact e
abbrev txO : Sy := sFor (iSq (eUn dSortSet (eNew (lComp [4] (iDt (eVar 0)) (gN 4) (tAd (tVal (eBin dEq (eIx (eVar 4) (eC (.int 0))) (eVar 2))) (tVal (eBin dGt (eDixT (eVar 0) (eVar 4)) (eC (.int 0))))) (eCall dStr (aCons (eIx (eVar 4) (eC (.int 1))) aNil)))))) (gN 3) txI
theorem txO_one {tb : List Te} (h : OkP tb) (hl : tb.length ≤ 4) (k : Str) (S : Store) (pre : List Te) (x3 : Sl) (f3 : x3.free = true) (hp : pre.length ≤ 900) : ∃ y3, y3.free = true ∧ txO [.val (tbP tb), .val (.lst ((flt3 pre).map D.str)), .val (.str k), x3, .no] S = .nx [.val (tbP tb), .val (.lst ((flt3 (pre ++ tT tb ((sdd (bysP (posP tb) k)).map fun b => (k, b)))).map D.str)), .val (.str k), y3, .no] S := by
  have m := mapA_fil (g := gN 4) (t := tAd (tVal (eBin dEq (eIx (eVar 4) (eC (.int 0))) (eVar 2))) (tVal (eBin dGt (eDixT (eVar 0) (eVar 4)) (eC (.int 0))))) (f := eCall dStr (aCons (eIx (eVar 4) (eC (.int 1))) aNil)) (e := [.val (tbP tb), .val (.lst ((flt3 pre).map D.str)), .val (.str k), x3, .no]) (S := S) pD (fun z => z.1 == k && decide (0 < pget tb z)) (fun z => .str z.2) (prs tb) [] (fun z hz => ⟨[.val (tbP tb), .val (.lst ((flt3 pre).map D.str)), .val (.str k), x3, .val (.tup [.str z.1, .str z.2])], by simp_all_arith, by
    have hv := dtV_tks tb z
    rw [if_pos hz] at hv
    have hv : ((D.dtv S (tbP tb)).bind fun kvs => dtV kvs (pk z)) = some (.int (pget tb z)) := hv
    have tk : (D.tup [.str z.1, .str z.2]).tkey = some (pk z) := rfl
    cases hk : z.1 == k
    · simp_all_arith [dEq_ss, hk]
    · simp_all_arith [dEq_ss, hk, tk, hv], fun _ => by simp_all_arith⟩)
  rw [List.nil_append, show ((prs tb).filter fun z => z.1 == k && decide (0 < pget tb z)).map (fun z => D.str z.2) = (inK tb k).map D.str by rw [List.map_map]; rfl, inK_eq] at m
  have kk := keys_tks tb
  have hp1 : (prs tb).length ≤ 4 := by rw [List.length_map]; exact hl
  have hpos : (posP tb).length ≤ 4 := Nat.le_trans (List.length_filter_le ..) hp1
  have hb : (bysP (posP tb) k).length ≤ 4 := Nat.le_trans (bysP_len _ _) hpos
  have so := dssZ (ys := bysP (posP tb) k) (by omega)
  have hs : (sdd (bysP (posP tb) k)).length ≤ 4 := Nat.le_trans (sdd_len _) hb
  obtain ⟨y3, fy, lp⟩ := txI_loop h k S (sdd (bysP (posP tb) k)) pre x3 f3 (fun b hb => (List.mem_filter.mp (bysP_mem.mp (sdd_mem.mp hb))).1) (by omega)
  refine ⟨y3, fy, ?_⟩
  have hp2 : ((prs tb).map pD).length ≤ 100 := by rw [List.length_map]; omega
  have hb2 : ((bysP (posP tb) k).map D.str).length ≤ 100 := by rw [List.length_map]; omega
  have hs2 : ((sdd (bysP (posP tb) k)).map D.str).length ≤ 100 := by rw [List.length_map]; omega
  unfold txO
  generalize (sdd (bysP (posP tb) k)).map (fun b => (k, b)) = Q at *
  generalize hB : (bysP (posP tb) k).map D.str = B at *
  generalize hC : (sdd (bysP (posP tb) k)).map D.str = C at *
  generalize hP : (prs tb).map pD = P at *
  have m4 : mapA (gN 4) (tAd (tVal (eBin dEq (eIx (eVar 4) (eC (.int 0))) (eVar 2))) (tVal (eBin dGt (eDixT (eVar 0) (eVar 4)) (eC (.int 0))))) (eCall dStr (aCons (eIx (eVar 4) (eC (.int 1))) aNil)) [] P [.val (tbP tb), .val (.lst ((flt3 pre).map D.str)), .val (.str k), x3, .no] S = .ok B S := m
  simp_all_arith [kk, m4, so, hp2, hb2, hs2, f3]
  exact lp
theorem txO_loop {tb : List Te} (h : OkP tb) (hl : tb.length ≤ 4) (S : Store) : ∀ (ks : List Str) (pre : List Te) (x2 x3 : Sl), x2.free = true → x3.free = true → pre.length + 4 * ks.length ≤ 900 → ∃ y2 y3, forD (gN 2) txO (ks.map D.str) [.val (tbP tb), .val (.lst ((flt3 pre).map D.str)), x2, x3, .no] S = .nx [.val (tbP tb), .val (.lst ((flt3 (pre ++ tT tb (ks.flatMap fun k => (sdd (bysP (posP tb) k)).map fun b => (k, b)))).map D.str)), y2, y3, .no] S
  | [], pre, x2, x3, _, _, _ => ⟨x2, x3, by rw [List.flatMap_nil, show tT tb [] = [] from rfl, List.append_nil]; rfl⟩
  | k :: ks, pre, x2, x3, f2, f3, hp => by
    rw [List.length_cons] at hp
    obtain ⟨y3, fy, e1⟩ := txO_one h hl k S pre x3 f3 (by omega)
    have hs : (sdd (bysP (posP tb) k)).length ≤ 4 := Nat.le_trans (sdd_len _) (Nat.le_trans (bysP_len _ _) (Nat.le_trans (List.length_filter_le ..) (by rw [List.length_map]; exact hl)))
    obtain ⟨z2, z3, e2⟩ := txO_loop h hl S ks (pre ++ tT tb ((sdd (bysP (posP tb) k)).map fun b => (k, b))) (.val (.str k)) y3 rfl fy (by rw [List.length_append, List.length_map, List.length_map]; omega)
    refine ⟨z2, z3, ?_⟩
    rw [List.flatMap_cons, show tT tb (((sdd (bysP (posP tb) k)).map fun b => (k, b)) ++ ks.flatMap fun k => (sdd (bysP (posP tb) k)).map fun b => (k, b)) = tT tb ((sdd (bysP (posP tb) k)).map fun b => (k, b)) ++ tT tb (ks.flatMap fun k => (sdd (bysP (posP tb) k)).map fun b => (k, b)) from List.map_append .., ← List.append_assoc]
    have g2 : gN 2 (.str k) [.val (tbP tb), .val (.lst ((flt3 pre).map D.str)), x2, x3, .no] = some [.val (tbP tb), .val (.lst ((flt3 pre).map D.str)), .val (.str k), x3, .no] := by simp_all_arith [f2]
    rw [List.map_cons, Sh.forD_cons, g2]
    dsimp only
    rw [e1]
    exact e2
theorem text_ok {tb : List Te} (h : OkP tb) (hl : tb.length ≤ 4) (S : Store) : sh__law_text [tbP tb] S = .ok (.str (Txt.join " " (swd (normP tb)))) S := by
  have g := normP_NP h
  have m := mapA_enc (g := gN 4) (f := eCall dStr (aCons (eIx (eVar 4) (eC (.int 0))) aNil)) (e := [.val (tbP tb), .val (.lst []), .no, .no, .no]) (S := S) pD (fun z => .str z.1) (prs tb) [] (fun z hz => ⟨[.val (tbP tb), .val (.lst []), .no, .no, .val (.tup [.str z.1, .str z.2])], by simp_all_arith, by simp_all_arith⟩)
  rw [List.nil_append, show (prs tb).map (fun z => D.str z.1) = ((prs tb).map (·.1)).map D.str by simp only [List.map_map]; rfl] at m
  have kk := keys_tks tb
  have hp1 : (prs tb).length ≤ 4 := by rw [List.length_map]; exact hl
  have hk1 : ((prs tb).map (·.1)).length ≤ 4 := by rw [List.length_map]; exact hp1
  have so := dssZ (ys := (prs tb).map (·.1)) (by omega)
  have hs : (sdd ((prs tb).map (·.1))).length ≤ 4 := Nat.le_trans (sdd_len _) hk1
  obtain ⟨y2, y3, lp⟩ := txO_loop h hl S (sdd ((prs tb).map (·.1))) [] .no .no rfl rfl (by rw [List.length_nil]; omega)
  rw [List.nil_append] at lp
  have lp : forD (gN 2) txO ((sdd ((prs tb).map (·.1))).map D.str) [.val (tbP tb), .val (.lst []), .no, .no, .no] S = .nx [.val (tbP tb), .val (.lst ((flt3 (tT tb (allP tb))).map D.str)), y2, y3, .no] S := lp
  rw [allP_norm h] at lp
  have hN : (normP tb).length ≤ 4 := by
    unfold normP
    refine Nat.le_trans (List.length_filter_le ..) ?_
    rw [List.length_map]
    exact Nat.le_trans APs_len (by rw [List.length_map]; exact hl)
  have nl := lst_nilN (ds := (flt3 (normP tb)).map D.str) (by rw [List.all_eq_true]; intro d hd; obtain ⟨z, _, rfl⟩ := List.mem_map.mp hd; exact isDat_str)
  have hp2 : ((prs tb).map pD).length ≤ 100 := by rw [List.length_map]; omega
  have hb2 : (((prs tb).map (·.1)).map D.str).length ≤ 100 := by rw [List.length_map]; omega
  have hs2 : ((sdd ((prs tb).map (·.1))).map D.str).length ≤ 100 := by rw [List.length_map]; omega
  have hl2 : tb.length ≤ 16777216 := by omega
  unfold sh__law_text pic__law_text swd
  generalize hB : ((prs tb).map (·.1)).map D.str = B at *
  generalize hC : (sdd ((prs tb).map (·.1))).map D.str = C at *
  generalize hP : (prs tb).map pD = P at *
  have m4 : mapA (gN 4) tYesD (eCall dStr (aCons (eIx (eVar 4) (eC (.int 0))) aNil)) [] P [.val (tbP tb), .val (.lst []), .no, .no, .no] S = .ok B S := m
  by_cases h0 : normP tb = []
  · rw [h0] at lp nl
    have lp : forD (gN 2) txO C [.val (tbP tb), .val (.lst []), .no, .no, .no] S = .nx [.val (tbP tb), .val (.lst []), y2, y3, .no] S := lp
    have nl : dNe (.lst []) (.lst []) = some (.bl false) := nl
    rw [if_pos h0, show Txt.join " " noneW = Str.ofString "none" by decide +kernel]
    simp_all_arith [kk, m4, so, hp2, hb2, hs2, hl2]
    refine (congrArg (fun q : RS => (q.seq _).res) lp).trans ?_
    simp_all_arith [nl]
  · have hne : ((flt3 (normP tb)).map D.str).isEmpty = false := by
      have := flt3_ne h0
      simpa using this
    rw [hne] at nl
    have j := joinD (ws := flt3 (normP tb)) (fun w hw => by have := (flt3_short g w hw).1; omega) (by rw [flt3_len]; omega)
    rw [if_neg h0]
    simp_all_arith [kk, m4, so, hp2, hb2, hs2, hl2]
    refine (congrArg (fun q : RS => (q.seq _).res) lp).trans ?_
    simp_all_arith [nl, j]
end Nk
namespace Nk
open PySem PyProof.Rows L2 Sh
def cnt (w : Str) : Nat := w.cps.toList.count 32 + 1
def cw : List Str → Nat
  | [] => 0
  | w :: ws => cnt w + cw ws
theorem cw_app : ∀ a b : List Str, cw (a ++ b) = cw a + cw b
  | [], b => by show cw b = 0 + cw b; omega
  | w :: a, b => by
    have := cw_app a b
    show cnt w + cw (a ++ b) = cnt w + cw a + cw b
    omega
theorem app_cps (x y : Str) : (x ++ y).cps.toList = x.cps.toList ++ y.cps.toList := by
  show (x.cps ++ y.cps).toList = _
  simp
theorem cnt_join : ∀ ws : List Str, ws ≠ [] → cnt (Str.join spS ws) = cw ws
  | [], h => absurd rfl h
  | [w], _ => rfl
  | w :: v :: r, _ => by
    have ih := cnt_join (v :: r) (by simp)
    have h1 : (spS).cps.toList = [32] := by decide +kernel
    show cnt (w ++ spS ++ Str.join spS (v :: r)) = cnt w + cw (v :: r)
    rw [← ih]
    unfold cnt
    rw [app_cps, app_cps, List.count_append, List.count_append, h1]
    show _ + 1 + _ + 1 = _
    omega
theorem cw_free : ∀ ws : List Str, (∀ w ∈ ws, 32 ∉ w.cps.toList) → cw ws = ws.length
  | [], _ => rfl
  | w :: r, h => by
    have ih := cw_free r fun x hx => h x (List.mem_cons_of_mem _ hx)
    have := List.count_eq_zero.mpr (h w List.mem_cons_self)
    show cnt w + cw r = r.length + 1
    unfold cnt
    omega
theorem free_wds (t : Str) : ∀ w ∈ wds t, 32 ∉ w.cps.toList := StrLaws.split_free t 32
theorem wds_cnt (z : Str) : (wds z).length = cnt z := by
  have h := cnt_join (wds z) (List.length_pos_iff.mp (wds_pos z))
  have j := join_wds z
  rw [TL.join_eq] at j
  rw [show Str.join spS (wds z) = z from j, cw_free _ (free_wds z)] at h
  exact h.symm
theorem wds_join (ws : List Str) : (wds (Txt.join " " ws)).length ≤ cw ws + 1 := by
  rw [wds_cnt, TL.join_eq]
  by_cases h : ws = []
  · subst h
    decide +kernel
  · rw [show Str.join (Str.ofString " ") ws = Str.join spS ws from rfl, cnt_join ws h]
    omega
structure Wz (n m c : Nat) (ws : List Str) : Prop where
  n : ws.length ≤ n
  m : ∀ w ∈ ws, w.length ≤ m
  c : cw ws ≤ c
theorem cw_cut (ws : List Str) (k : Nat) : cw (ws.take k) + cw (ws.drop k) = cw ws := by rw [← cw_app, List.take_append_drop]
theorem cw_nx (ws : List Str) (k : Nat) : cw (ws.drop (k + 1)) ≤ cw (ws.drop k) := by
  by_cases h : k < ws.length
  · rw [List.drop_eq_getElem_cons h]
    show _ ≤ cnt _ + cw _
    omega
  · rw [List.drop_eq_nil_of_le (by omega), List.drop_eq_nil_of_le (by omega)]
    omega
abbrev N60 : Str := Txt.mul (Str.ofString "9") 60
abbrev Z60 : Str := Txt.mul (Str.ofString "0") 60
theorem mulN : dMulS (.str "9") (.int 60) = some (.str N60) := by
  unfold dMulS
  dsimp only
  rw [if_pos (by decide +kernel)]
theorem mulZ : dMulS (.str "0") (.int 60) = some (.str Z60) := by
  unfold dMulS
  dsimp only
  rw [if_pos (by decide +kernel)]
theorem addZ : dAdd (.str "1") (.str Z60) = some (.str (Str.ofString "1" ++ Z60)) := dAdd_ss (by decide +kernel)
def oddL : List Str := ["", "none", "0", "7", "07", "+3", "-1", "B", "abcdefghi", N60, (Str.ofString "1" ++ Z60), "1_0", "a
", "a", "b"]
theorem odd_ok : ∀ t ∈ oddL, t.length ≤ 61 ∧ cnt t = 1 := by decide +kernel
theorem cnt_one {t : Str} (h : 32 ∉ t.cps.toList) : cnt t = 1 := by
  unfold cnt
  rw [List.count_eq_zero.mpr h]
section
variable {xs : List Int} {T : Store}
theorem wz_mid {n m c : Nat} {A B ws : List Str} {t : Str} (hm : 61 ≤ m) (hA : ∀ w ∈ A, w.length ≤ m) (hB : ∀ w ∈ B, w.length ≤ m) (ht : t.length ≤ m + 1) (hn : A.length + B.length ≤ n) (hc : cw A + cnt t + cw B ≤ c + 1) : Wz (n + 1) (m + 1) (c + 1) (A ++ t :: B) := by
  refine ⟨by rw [List.length_append, List.length_cons]; omega, fun w hw => ?_, ?_⟩
  · rcases List.mem_append.mp hw with hw | hw
    · have := hA w hw; omega
    · rcases List.mem_cons.mp hw with rfl | hw
      · exact ht
      · have := hB w hw; omega
  · rw [cw_app]
    show cw A + (cnt t + cw B) ≤ _
    omega
theorem bent_ok (hx : xs.length ≤ 63) {n m c : Nat} {ws : List Str} (W : Wz n m c ws) (hm : 61 ≤ m) (hm2 : m ≤ 1000) (hn2 : n ≤ 100) (a g : Int) (h0 : 0 ≤ a) (h1 : a ≤ 70000) :
    ∃ ws' a' g', sh__law_bent [.ref 0, .lst (ws.map .str)] (pen xs a g :: T) = .ok (.lst (ws'.map .str)) (pen xs a' g' :: T) ∧ Wz (n + 1) (m + 1) (c + 1) ws' ∧ a ≤ a' ∧ a' ≤ a + 20 := by
  have hn := W.n
  have hc := W.c
  obtain ⟨o, a1, g1, e1, o0, o1, b1, c1⟩ := draw xs a g 5 T h0 (by omega) (by omega) (by omega) hx
  obtain ⟨r, a2, g2, e2, r0, r1, b2, c2⟩ := draw xs a1 g1 ((ws.length : Int) + 1) T (by omega) (by omega) (by omega) (by omega) hx
  obtain ⟨k, rfl⟩ := Int.eq_ofNat_of_zero_le r0
  obtain ⟨w, a3, g3, e3, nw, b3, c3⟩ := word_ok (T := T) hx a2 g2 (by omega) (by omega)
  obtain ⟨q, a4, g4, e4, q0, q1, b4, c4⟩ := draw xs a3 g3 99 T (by omega) (by omega) (by omega) (by omega) hx
  obtain ⟨d, a5, g5, hd, e5, b5, c5⟩ := pick xs a4 g4 T [.str "", .str "none", .str "0", .str "7", .str "07", .str "+3", .str "-1", .str "B", .str "abcdefghi", .str N60, .str (Str.ofString "1" ++ Z60), .str "1_0", .str "a
", .str "a", .str "b", .str w, .str (nT (1 + q))] (by omega) (by omega) hx (by simp) (by simp)
  have hM : (100 : Int) ≤ MXN := by decide
  have nq := nT_num (v := 1 + q) (by omega) (by omega)
  have dq := dStr_B (v := 1 + q) (by omega) (by omega)
  have ht : ∃ t : Str, d = .str t ∧ t.length ≤ 61 ∧ cnt t = 1 := by
    have hd2 : d ∈ (oddL ++ [w, nT (1 + q)]).map D.str := hd
    obtain ⟨t, ht, rfl⟩ := List.mem_map.mp hd2
    refine ⟨t, rfl, ?_⟩
    rcases List.mem_append.mp ht with ht | ht
    · exact odd_ok t ht
    · simp only [List.mem_cons, List.not_mem_nil, or_false] at ht
      rcases ht with rfl | rfl
      · exact ⟨by have := nm_len nw; omega, cnt_one (let_free nw)⟩
      · exact ⟨by omega, cnt_one nq.2.2⟩
  obtain ⟨t, rfl, t1, t2⟩ := ht
  clear hd
  have z1 := cw_cut ws k
  have z2 := cw_nx ws k
  have f1 : ∀ (n : Nat), ∀ w ∈ ws.take n, w.length ≤ m := fun n w h => W.m w (List.mem_of_mem_take h)
  have f2 : ∀ (n : Nat), ∀ w ∈ ws.drop n, w.length ≤ m := fun n w h => W.m w (List.mem_of_mem_drop h)
  have lt : ∀ n, (ws.take n).length = min n ws.length := fun n => List.length_take
  have ld : ∀ n, (ws.drop n).length = ws.length - n := fun n => List.length_drop
  have mt : ∀ n : Nat, (ws.map D.str).take n = (ws.take n).map D.str := fun n => (List.map_take ..).symm
  have md : ∀ n : Nat, (ws.map D.str).drop n = (ws.drop n).map D.str := fun n => (List.map_drop ..).symm
  have ma : ∀ A B : List Str, A.map D.str ++ B.map D.str = (A ++ B).map D.str := fun A B => (List.map_append ..).symm
  have ma1 : ∀ (A B : List Str) (t : Str), A.map D.str ++ [D.str t] ++ B.map D.str = (A ++ t :: B).map D.str := fun A B t => by rw [List.map_append, List.append_assoc]; rfl
  have q1 : ((k : Int) + 1).toNat = k + 1 := by omega
  have q3 : ((k : Int) + 3).toNat = k + 3 := by omega
  have hk : k ≤ ws.length := by omega
  have sz1 : (ws.take k).length + 1 ≤ 16777216 := by rw [lt]; omega
  have sz2 : ∀ j, (ws.take k).length + (ws.drop j).length ≤ 16777216 := fun j => by rw [lt, ld]; omega
  have sz3 : ∀ j, (ws.take k).length + 1 + (ws.drop j).length ≤ 16777216 := fun j => by rw [lt, ld]; omega
  have hwl : ws.length ≤ 16777216 := by omega
  unfold sh__law_bent pic__law_bent
  simp_all_arith [e1, e2, mulN, mulZ, addZ, e3, e4, dq, e5]
  unfold pic__law_bent_w
  have ho : o = 0 ∨ o = 1 ∨ o = 2 ∨ o = 3 ∨ o = 4 := by omega
  have key : ∀ w', ws[k]? = some w' → ∃ ws' a' g', sh__law_pick [.ref 0, .lst [.str " ", .str "0", .str "z"]] (pen xs a5 g5 :: T) = .ok (.str ws') (pen xs a' g' :: T) ∧ ws'.length = 1 ∧ cnt (w' ++ ws') ≤ cnt w' + 1 ∧ a5 ≤ a' ∧ a' ≤ a5 + 1 := fun w' _ => by
    obtain ⟨d, a6, g6, hd, e6, b6, c6⟩ := pick xs a5 g5 T [.str " ", .str "0", .str "z"] (by omega) (by omega) hx (by decide) (by decide)
    have : ∃ x : Str, d = .str x ∧ x.length = 1 ∧ x.cps.toList.count 32 ≤ 1 := by
      simp only [List.mem_cons, List.not_mem_nil, or_false] at hd
      rcases hd with rfl | rfl | rfl <;> exact ⟨_, rfl, by decide +kernel, by decide +kernel⟩
    obtain ⟨x, rfl, x1, x2⟩ := this
    refine ⟨x, a6, g6, e6, x1, ?_, b6, c6⟩
    unfold cnt
    rw [app_cps, List.count_append]
    omega
  rcases ho with rfl | rfl | rfl | h34
  · refine ⟨ws.take k ++ t :: ws.drop k, a5, g5, ?_, wz_mid (ws := ws) hm (f1 k) (f2 k) (by omega) (by rw [lt, ld]; omega) (by omega), by omega, by omega⟩
    simp_all_arith [mt, md, ma1, sz1, sz3]
  · refine ⟨ws.take k ++ ws.drop (k + 1), a5, g5, ?_, ⟨by rw [List.length_append, lt, ld]; omega, fun w hw => ?_, by rw [cw_app]; omega⟩, by omega, by omega⟩
    · simp_all_arith [q1, mt, md, ma, sz2]
    · rcases List.mem_append.mp hw with hw | hw
      · have := f1 k w hw; omega
      · have := f2 _ w hw; omega
  · refine ⟨ws.take k ++ t :: ws.drop (k + 1), a5, g5, ?_, wz_mid (ws := ws) hm (f1 k) (f2 (k + 1)) (by omega) (by rw [lt, ld]; omega) (by omega), by omega, by omega⟩
    simp_all_arith [q1, mt, md, ma1, sz1, sz3]
  · by_cases hkl : k = ws.length
    · have e6 : ((k : Int) == ws.length) = true := by simp only [beq_iff_eq]; omega
      refine ⟨ws.take k ++ t :: ws.drop (k + 1), a5, g5, ?_, wz_mid (ws := ws) hm (f1 k) (f2 (k + 1)) (by omega) (by rw [lt, ld]; omega) (by omega), by omega, by omega⟩
      rcases h34 with rfl | rfl
      · simp_all_arith [e6, q1, mt, md, ma1, sz1, sz3]
      · simp_all_arith [e6, q1, mt, md, ma1, sz1, sz3]
    · have e6 : ((k : Int) == ws.length) = false := by simp only [beq_eq_false_iff_ne, ne_eq]; omega
      have hkl : k < ws.length := by omega
      rcases h34 with rfl | rfl
      · have sz4 : (ws.drop k).length + (ws.take k).length ≤ 16777216 := by rw [lt, ld]; omega
        refine ⟨ws.drop k ++ ws.take k, a5, g5, ?_, ⟨by rw [List.length_append, lt, ld]; omega, fun w hw => ?_, by rw [cw_app]; omega⟩, by omega, by omega⟩
        · simp_all_arith [e6, mt, md, ma, sz4]
        · rcases List.mem_append.mp hw with hw | hw
          · have := f2 _ w hw; omega
          · have := f1 k w hw; omega
      · have w0 : ws[k]? = some ws[k] := List.getElem?_eq_getElem hkl
        obtain ⟨y, a6, g6, e7, y1, y2, b6, c6⟩ := key _ w0
        have i0 := atI_str w0
        have hm0 := W.m _ (List.getElem_mem hkl)
        have al : (ws[k] ++ y).length = ws[k].length + y.length := app_len _ _
        have hs : dAdd (.str ws[k]) (.str y) = some (.str (ws[k] ++ y)) := dAdd_ss (by omega)
        have z3 : cw (ws.drop k) = cnt ws[k] + cw (ws.drop (k + 1)) := by rw [List.drop_eq_getElem_cons hkl]; rfl
        refine ⟨ws.take k ++ (ws[k] ++ y) :: ws.drop (k + 1), a6, g6, ?_, wz_mid (ws := ws) hm (f1 k) (f2 (k + 1)) (by omega) (by rw [lt, ld]; omega) (by omega), by omega, by omega⟩
        simp_all_arith [e6, q1, mt, md, i0, e7, hs, ma1, sz1, sz3]
end
end Nk
namespace Nk
open PySem PyProof.Rows L2 Sh
section
variable {xs : List Int} {T : Store} {s0 : D} {a g : Int} {x2 x3 x4 x5 x6 x7 x8 x9 : Sl}
theorem join_short {n m : Nat} {ws : List Str} (hn : ws.length ≤ n) (hm : ∀ w ∈ ws, w.length ≤ m) : (Txt.join " " ws).length ≤ n * (m + 1) := by
  have h := Sh.join_len (Str.ofString " ") ws
  rw [show (Str.ofString " ").length = 1 from sp_len] at h
  have hs : (ws.map (·.length)).sum ≤ ws.length * m := by
    clear hn h
    induction ws with
    | nil => simp
    | cons w r ih =>
      have := ih fun x hx => hm x (List.mem_cons_of_mem _ hx)
      have := hm w List.mem_cons_self
      simp only [List.map_cons, List.sum_cons, List.length_cons]
      rw [Nat.add_mul]
      omega
  have := Nat.mul_le_mul_right (m + 1) hn
  rw [Nat.mul_add] at this
  omega
abbrev EL (s0 : D) (x2 x3 x4 x5 x6 x7 x8 x9 : Sl) : En := [.val s0, .val (.ref 0), x2, x3, x4, x5, x6, x7, x8, x9]
theorem c_ok (hx : xs.length ≤ 63) {n m c : Nat} {ws : List Str} (W : Wz n m c ws) (hm : 61 ≤ m) (hm2 : m ≤ 100) (hn2 : n ≤ 30) (hc2 : c ≤ 50) (h0 : 0 ≤ a) (h1 : a ≤ 60000) :
    ∃ ws' a' g' T', pic_law_c (EL s0 x2 x3 x4 x5 (.val (.lst (ws.map .str))) x7 x8 x9) (pen xs a g :: T) = .nx (EL s0 x2 x3 x4 x5 (.val (.lst (ws'.map .str))) x7 x8 x9) (pen xs a' g' :: T') ∧ Wz (n + 1) (m + 1) (c + 1) ws' ∧ a ≤ a' ∧ a' ≤ a + 20 := by
  have nl := lst_nilN (ds := ws.map D.str) (by rw [List.all_eq_true]; intro d hd; obtain ⟨z, _, rfl⟩ := List.mem_map.mp hd; exact isDat_str)
  have step : ∃ ws' a' g', eIf (tVal (eBin dNe (eVar 6) (eLst aNil))) (eDf sh__law_bent (aCons (eVar 1) (aCons (eVar 6) aNil))) (eLst (aCons (eC (.str "")) aNil)) (EL s0 x2 x3 x4 x5 (.val (.lst (ws.map .str))) x7 x8 x9) (pen xs a g :: T) = .ok (.lst (ws'.map .str)) (pen xs a' g' :: T) ∧ Wz (n + 1) (m + 1) (c + 1) ws' ∧ a ≤ a' ∧ a' ≤ a + 20 := by
    by_cases hw : ws = []
    · subst hw
      refine ⟨[Str.ofString ""], a, g, ?_, ⟨by simp, fun w hw => ?_, ?_⟩, by omega, by omega⟩
      · have nl : dNe (.lst []) (.lst []) = some (.bl false) := nl
        simp_all_arith [nl]
      · rw [List.mem_singleton.mp hw]
        exact Nat.zero_le _
      · have : cw [Str.ofString ""] = 1 := by decide +kernel
        omega
    · obtain ⟨ws', a1, g1, e1, W1, b1, c1⟩ := bent_ok (T := T) hx W hm (by omega) (by omega) a g h0 (by omega)
      have hne : (ws.map D.str).isEmpty = false := by simpa using hw
      rw [hne] at nl
      refine ⟨ws', a1, g1, ?_, W1, b1, c1⟩
      simp_all_arith [nl, e1]
  obtain ⟨ws', a1, g1, e1, W1, b1, c1⟩ := step
  have j := joinD (ws := ws') (fun w hw => by have := W1.m w hw; omega) (by have := W1.n; omega)
  have zl := join_short W1.n W1.m
  have hz : (Txt.join " " ws').length ≤ 70000 := Nat.le_trans zl (Nat.le_trans (Nat.mul_le_mul (show n + 1 ≤ 31 by omega) (show m + 1 + 1 ≤ 102 by omega)) (by decide))
  have hw := wds_join ws'
  obtain ⟨cell, r⟩ := read_right (Txt.join " " ws') hz (by have := W1.c; omega) (pen xs a1 g1 :: T)
  refine ⟨ws', a1, g1, T ++ [cell], ?_, W1, b1, c1⟩
  unfold pic_law_c
  rw [ap_sSeq, ap_sSet, e1]
  simp_all_arith [j, r]
theorem again_ok (hx : xs.length ≤ 63) : ∀ (is : List Nat) (n m c : Nat) (ws : List Str) (x7 : Sl) (a g : Int) (T : Store), x7.free = true → Wz n m c ws → 61 ≤ m → m + is.length ≤ 100 → n + is.length ≤ 30 → c + is.length ≤ 50 → 0 ≤ a → a + 20 * is.length ≤ 60000 →
    ∃ (ws' : List Str) (y7 : Sl) (a' g' : Int) (T' : Store), forD (gN 7) pic_law_c (is.map fun i => D.int (i : Nat)) (EL s0 x2 x3 x4 x5 (.val (.lst (ws.map .str))) x7 x8 x9) (pen xs a g :: T) = .nx (EL s0 x2 x3 x4 x5 (.val (.lst (ws'.map .str))) y7 x8 x9) (pen xs a' g' :: T') ∧ y7.free = true ∧ a ≤ a' ∧ a' ≤ a + 20 * is.length
  | [], n, m, c, ws, x7, a, g, T, f7, _, _, _, _, _, _, _ => ⟨ws, x7, a, g, T, rfl, f7, by omega, by simp⟩
  | i :: is, n, m, c, ws, x7, a, g, T, f7, W, hm, l1, l2, l3, h0, h1 => by
    rw [List.length_cons] at l1 l2 l3 h1
    obtain ⟨ws1, a1, g1, T1, e1, W1, b1, c1⟩ := c_ok (T := T) (g := g) (s0 := s0) (x2 := x2) (x3 := x3) (x4 := x4) (x5 := x5) (x7 := .val (.int (i : Nat))) (x8 := x8) (x9 := x9) hx W hm (by omega) (by omega) (by omega) h0 (by omega)
    obtain ⟨ws2, y7, a2, g2, T2, e2, k1, b2, c2⟩ := again_ok hx is (n + 1) (m + 1) (c + 1) ws1 (.val (.int (i : Nat))) a1 g1 T1 rfl W1 (by omega) (by omega) (by omega) (by omega) (by omega) (by omega)
    refine ⟨ws2, y7, a2, g2, T2, ?_, k1, by omega, by rw [List.length_cons]; omega⟩
    rw [List.map_cons, Sh.forD_cons]
    simp_all_arith [f7]
    rw [e1]
    exact e2
theorem hw_free {xs : List Te} (g : NP xs) : ∀ w ∈ swd xs, w.length ≤ 60 ∧ 32 ∉ w.cps.toList := by
  unfold swd
  split
  · intro w hw
    rw [List.mem_singleton.mp hw]
    exact ⟨by decide +kernel, by decide +kernel⟩
  · exact flt3_short g
theorem hw_ne (xs : List Te) : swd xs ≠ [] := by
  unfold swd
  split
  · simp
  · rename_i h
    exact flt3_ne h
theorem hw_wds {xs : List Te} (g : NP xs) : wds (Txt.join " " (swd xs)) = swd xs := split_join (hw_ne xs) fun w h => (hw_free g w h).2
theorem hw_le {xs : List Te} {n : Nat} (h : xs.length ≤ n) : (swd xs).length ≤ 3 * n + 1 := by
  unfold swd
  split
  · simp
  · rw [flt3_len]; omega
theorem stand_none (S : Store) : sh_Standing_none [] S = .ok (StD []) S := by
  have e := fun S => stand_of_np (xs := []) np_nil (by decide) S
  have e : ∀ S, sh_Standing_init (.ins "Standing" []) [.ft []] S = .ok (.ins "Standing" [("own_things", .ft [])]) S := e
  unfold sh_Standing_none pic_Standing_none
  simp_all_arith [e]
  try rfl
abbrev bodyL : Sy := sSeq (sSet 3 (eDf sh__law_table (aCons (eVar 1) aNil))) pic_law_b0
theorem dNe_ss {a b : Str} : dNe (.str a) (.str b) = some (.bl (!(a == b))) := by rw [dNe_q isDat_str isDat_str, qe_ss]
theorem turn_ok (hx : xs.length ≤ 63) (h0 : 0 ≤ a) (h1 : a ≤ 40000) (f3 : x3.free = true) (f4 : x4.free = true) (f5 : x5.free = true) (f6 : x6.free = true) (f7 : x7.free = true) :
    ∃ y3 y4 y5 y6 y7 a' g' T', bodyL (EL s0 x2 x3 x4 x5 x6 x7 x8 x9) (pen xs a g :: T) = .nx (EL s0 x2 y3 y4 y5 y6 y7 x8 x9) (pen xs a' g' :: T') ∧ y3.free = true ∧ y4.free = true ∧ y5.free = true ∧ y6.free = true ∧ y7.free = true ∧ a ≤ a' ∧ a' ≤ a + 300 := by
  obtain ⟨tb, a1, g1, e1, ok, tl, b1, c1⟩ := table_ok (T := T) hx a g h0 (by omega)
  have gd := normP_NP ok
  have nl : (normP tb).length ≤ 4 := Nat.le_trans (normP_len tb) tl
  have e2 := fun S => stand_init tb ok S
  have e3 := fun S => text_ok ok tl S
  generalize hnb : normP tb = nb at gd nl e2 e3
  have cs := fun S => cls_str (c := "Standing") (stand_str nb gd (by omega) S) rfl
  have hwl := hw_le nl
  have hz : (Txt.join " " (swd nb)).length ≤ 70000 := Nat.le_trans (join_short hwl fun w h => (hw_free gd w h).1) (by decide)
  have hwd := hw_wds gd
  have hc : (wds (Txt.join " " (swd nb))).length ≤ 120 := by rw [hwd]; omega
  have rd := fun S => read_ok (Txt.join " " (swd nb)) hz hc S
  rw [hwd, parsT_swd gd] at rd
  dsimp only at rd
  have he := fun S => steq_ok nb gd.d S
  have sp := split_fit (Txt.join " " (swd nb)) hz
  rw [hwd] at sp
  have W : Wz 13 61 13 (swd nb) := by
    refine ⟨hwl, fun w h => by have := (hw_free gd w h).1; omega, ?_⟩
    rw [cw_free _ fun w h => (hw_free gd w h).2]
    exact hwl
  generalize Txt.join " " (swd nb) = z at e3 cs hz rd sp hwd hc
  obtain ⟨ws', y7, a2, g2, T2, e4, k1, b2, c2⟩ := again_ok (s0 := s0) (x2 := x2) (x3 := .val (tbP tb)) (x4 := .val (StD nb)) (x5 := .val (.str z)) (x8 := x8) (x9 := x9) hx (List.range 3) 13 61 13 (swd nb) x7 a1 g1 (T ++ [Ws (swd nb) 0 (swd nb).length] ++ [Ws (swd nb) 0 (swd nb).length]) f7 W (by omega) (by decide) (by decide) (by decide) (by omega) (by rw [List.length_range]; omega)
  rw [List.length_range] at c2
  have e8 : (3 : Int).toNat = 3 := rfl
  refine ⟨.val (tbP tb), .val (StD nb), .val (.str z), .val (.lst (ws'.map .str)), y7, a2, g2, T2, ?_, rfl, rfl, rfl, rfl, k1, by omega, by omega⟩
  unfold bodyL
  simp_all_arith [e1, f3]
  unfold pic_law_b0
  simp_all_arith [e2, e3, f4, f5]
  unfold pic_law_b1
  simp_all_arith [cs, dNe_ss, rd, he]
  unfold pic_law_b2
  simp_all_arith [sp, f6]
  unfold pic_law_again
  simp_all_arith [e8]
  exact e4
def Fr6 (x2 x3 x4 x5 x6 x7 : Sl) : Prop := x2.free = true ∧ x3.free = true ∧ x4.free = true ∧ x5.free = true ∧ x6.free = true ∧ x7.free = true
theorem turns_ok (hx : xs.length ≤ 63) : ∀ (is : List Nat) (x2 x3 x4 x5 x6 x7 : Sl) (a g : Int) (T : Store), Fr6 x2 x3 x4 x5 x6 x7 → 0 ≤ a → a + 300 * is.length ≤ 30000 →
    ∃ (y2 y3 y4 y5 y6 y7 : Sl) (a' g' : Int) (T' : Store), forD (gN 2) bodyL (is.map fun i => D.int (i : Nat)) (EL s0 x2 x3 x4 x5 x6 x7 x8 x9) (pen xs a g :: T) = .nx (EL s0 y2 y3 y4 y5 y6 y7 x8 x9) (pen xs a' g' :: T') ∧ Fr6 y2 y3 y4 y5 y6 y7 ∧ a ≤ a' ∧ a' ≤ a + 300 * is.length
  | [], x2, x3, x4, x5, x6, x7, a, g, T, f, _, _ => ⟨x2, x3, x4, x5, x6, x7, a, g, T, rfl, f, by omega, by simp⟩
  | i :: is, x2, x3, x4, x5, x6, x7, a, g, T, f, h0, h1 => by
    obtain ⟨f2, f3, f4, f5, f6, f7⟩ := f
    rw [List.length_cons] at h1
    obtain ⟨y3, y4, y5, y6, y7, a1, g1, T1, e1, k3, k4, k5, k6, k7, b1, c1⟩ := turn_ok (T := T) (s0 := s0) (g := g) (x2 := .val (.int (i : Nat))) (x8 := x8) (x9 := x9) hx h0 (by omega) f3 f4 f5 f6 f7
    obtain ⟨z2, z3, z4, z5, z6, z7, a2, g2, T2, e2, k, b2, c2⟩ := turns_ok hx is (.val (.int (i : Nat))) y3 y4 y5 y6 y7 a1 g1 T1 ⟨rfl, k3, k4, k5, k6, k7⟩ (by omega) (by omega)
    refine ⟨z2, z3, z4, z5, z6, z7, a2, g2, T2, ?_, k, by omega, by rw [List.length_cons]; omega⟩
    rw [List.map_cons, Sh.forD_cons]
    simp_all_arith [f2]
    refine (congrArg (fun q : RS => q.turn fun e S => forD (gN 2) bodyL (is.map fun i => D.int (i : Nat)) e S) e1).trans ?_
    exact e2
theorem hear_bad {S : Store} (d : D) (h : isiF ["str"] [("Standing", false)] d = some false) : hear S (sh_Standing_read [.cls "Standing", d] S) = .ok (.tup [.str "text", .int 0, .int 0]) S := by
  rw [read_bad d S h]
  exact hear_text (k := 0)
theorem rows_ok (f5 : x5.free = true) : ∀ (zs : List Str), (∀ z ∈ zs, z.length ≤ 70000 ∧ (wds z).length ≤ 120) → ∀ S : Store, ∃ S', mapA (gN 5) (tNt (tVal (eDf sh__law_read_right (aCons (eVar 5) aNil)))) (eVar 5) [] (zs.map D.str) (EL s0 x2 x3 x4 x5 x6 x7 x8 x9) S = .ok [] S'
  | [], _, S => ⟨S, rfl⟩
  | z :: zs, h, S => by
    obtain ⟨hz, hc⟩ := h z List.mem_cons_self
    obtain ⟨c, r⟩ := read_right z hz hc S
    obtain ⟨S', ih⟩ := rows_ok f5 zs (fun x hx => h x (List.mem_cons_of_mem _ hx)) (S ++ [c])
    refine ⟨S', ?_⟩
    rw [List.map_cons, Sh.mapA_cons]
    simp_all_arith [f5, r]
    exact ih
def rowsL : List Str := ["", " ", "a", "a b", "a b 1 ", "none none", "none none 2", "a c 1 a b 2", "b a 1 a b 2", "a b 1 a b 1", "a b 0", "a b  1"]
theorem rowsL_ok : ∀ z ∈ rowsL, z.length ≤ 70000 ∧ (wds z).length ≤ 120 := by decide +kernel
theorem z_ok (hx : xs.length ≤ 63) (h0 : 0 ≤ a) (h1 : a ≤ 40000) (f5 : x5.free = true) : ∃ S', pic_law_z (EL s0 x2 x3 x4 x5 x6 x7 .no .no) (pen xs a g :: T) = .rt (.bl true) S' := by
  have sn := fun S => stand_none S
  obtain ⟨d, a1, g1, hd, e1, b1, c1⟩ := pick xs a g T [.non, .int 3, .bl true, .tup [.str "a", .str "b", .int 1], .lst [.str "a b 1"], .fk [], StD []] h0 (by omega) hx (by decide) (by decide)
  have hb : isiF ["str"] [("Standing", false)] d = some false := by
    simp only [List.mem_cons, List.not_mem_nil, or_false] at hd
    rcases hd with rfl | rfl | rfl | rfl | rfl | rfl | rfl <;> rfl
  have e2 := hear_bad (S := pen xs a1 g1 :: T) d hb
  obtain ⟨S', m⟩ := rows_ok (s0 := s0) (x2 := x2) (x3 := x3) (x4 := x4) (x6 := x6) (x7 := x7) (x8 := .val (.lst (rowsL.map .str))) (x5 := .no) (x9 := .val d) rfl rowsL rowsL_ok (pen xs a1 g1 :: T)
  have cs := fun S => cls_str (c := "Standing") (stand_str [] np_nil (by decide) S) rfl
  rw [show Txt.join " " (swd []) = Str.ofString "none" by decide +kernel] at cs
  refine ⟨S', ?_⟩
  unfold pic_law_z
  simp_all_arith [sn, e1]
  unfold pic_law_z1
  simp_all_arith [ap_eLam, heard_eq, e2]
  unfold pic_law_z2
  have m : mapA (gN 5) (tNt (tVal (eDf sh__law_read_right (aCons (eVar 5) aNil)))) (eVar 5) [] (rowsL.map D.str) (EL s0 x2 x3 x4 .no x6 x7 (.val (.lst (rowsL.map .str))) (.val d)) (pen xs a1 g1 :: T) = .ok [] S' := m
  rw [show rowsL.map D.str = [.str "", .str " ", .str "a", .str "a b", .str "a b 1 ", .str "none none", .str "none none 2", .str "a c 1 a b 2", .str "b a 1 a b 2", .str "a b 1 a b 1", .str "a b 0", .str "a b  1"] from rfl] at m
  have nn : dEq (.lst []) (.lst []) = some (.bl true) := lst_nil (ds := []) rfl
  simp_all_arith [m, nn, sn, cs, f5]
theorem law_true (ns : List Int) (hl : ns.length ≤ 63) : ∃ S, sh_law [.scr (ns.map .int)] [] = .ok (.bl true) S := by
  have ht : (ns.map D.int).take 63 = ns.map D.int := List.take_of_length_le (by rw [List.length_map]; exact hl)
  have hp : sh__law_pen [.scr (ns.map .int)] [] = .ok (.ref 0) [pen ns 0 0] := by
    unfold sh__law_pen pic__law_pen pen
    simp_all_arith [ht]
  obtain ⟨y2, y3, y4, y5, y6, y7, a1, g1, T1, h, ⟨f2, f3, f4, f5, f6, f7⟩, b1, c1⟩ := turns_ok (s0 := .scr (ns.map .int)) (x8 := .no) (x9 := .no) hl (List.range 6) .no .no .no .no .no .no 0 0 [] ⟨rfl, rfl, rfl, rfl, rfl, rfl⟩ (by omega) (by rw [List.length_range]; omega)
  rw [List.length_range] at c1
  obtain ⟨S2, hz⟩ := z_ok (T := T1) (g := g1) (s0 := .scr (ns.map .int)) (x2 := y2) (x3 := y3) (x4 := y4) (x6 := y6) (x7 := y7) hl b1 (by omega) f5
  have e8 : (6 : Int).toNat = 6 := rfl
  refine ⟨S2, ?_⟩
  unfold sh_law pic_law
  simp_all_arith [hp]
  unfold pic_law_loop
  rw [show (sSeq (sSet 3 (eDf sh__law_table (aCons (eVar 1) aNil))) pic_law_b0) = bodyL from rfl]
  simp_all_arith [e8]
  refine (congrArg (fun q : RS => (q.seq pic_law_z).res) h).trans ?_
  simp_all_arith
  refine (congrArg RS.res hz).trans ?_
  rfl
end
end Nk
namespace Nk
open PySem PySem.Spec PyProof.Rows L2
theorem facts {w : World} {K : PySem.W.Frag} {h : Heap} {mg : Str → Option Value} {fa : Addr} (X : K.In h) (G : h.Ns mainGlobals mg) (hfa : mg ("law" : Str) = some (.ref fa)) (c : SaysN fns FL tfs lawK h K) : LawG PP w K 11 63 "_law_script" mg fa h := by
  obtain ⟨m1, m2⟩ := He.ba (show ((lits.all fun f => f.ok K) && (bls K).all id) = true from c.more)
  have lf : ∀ i (f : He.Fa), lits[i]? = some f → f.ok K = true := fun i f e => List.all_eq_true.mp m1 f (List.mem_of_getElem? e)
  have b : ∀ i (x : Bool), (bls K)[i]? = some x → x = true := fun i x e => List.all_eq_true.mp m2 x (List.mem_of_getElem? e)
  have T : Tx K mg := {
    d_BadName_init := (c.sup (List.mem_of_getElem? (i := 0) rfl) rfl rfl),
    n_super := (He.free_ok X G (x := "super") (lf 0 _ rfl)),
    ci_BadName := clsInB_ok (b 0 _ rfl),
    exc_BadName := supB_ok (b 1 _ rfl),
    nx_BadName_value := He.eqO_ok (b 2 _ rfl),
    d_BadNumber_init := (c.sup (List.mem_of_getElem? (i := 1) rfl) rfl rfl),
    ci_BadNumber := clsInB_ok (b 3 _ rfl),
    exc_BadNumber := supB_ok (b 4 _ rfl),
    nx_BadNumber_value := He.eqO_ok (b 5 _ rfl),
    d_BadTable_init := (c.sup (List.mem_of_getElem? (i := 2) rfl) rfl rfl),
    ci_BadTable := clsInB_ok (b 6 _ rfl),
    exc_BadTable := supB_ok (b 7 _ rfl),
    nx_BadTable_value := He.eqO_ok (b 8 _ rfl),
    d_BadText_init := (c.sup (List.mem_of_getElem? (i := 3) rfl) rfl rfl),
    ci_BadText := clsInB_ok (b 9 _ rfl),
    exc_BadText := supB_ok (b 10 _ rfl),
    nx_BadText_line := He.eqO_ok (b 11 _ rfl),
    nx_BadText_word := He.eqO_ok (b 12 _ rfl),
    d_is_integer := ⟨_, (c.fun_ (List.mem_of_getElem? (i := 4) rfl) rfl), (He.glo_ok X G (x := "is_integer") (lf 1 _ rfl))⟩,
    n_isinstance := (He.free_ok X G (x := "isinstance") (lf 2 _ rfl)),
    n_int := (He.free_ok X G (x := "int") (lf 3 _ rfl)),
    n_bool := (He.free_ok X G (x := "bool") (lf 4 _ rfl)),
    d_is_within := ⟨_, (c.fun_ (List.mem_of_getElem? (i := 5) rfl) rfl), (He.glo_ok X G (x := "is_within") (lf 5 _ rfl))⟩,
    d_is_number := ⟨_, (c.fun_ (List.mem_of_getElem? (i := 6) rfl) rfl), (He.glo_ok X G (x := "is_number") (lf 6 _ rfl))⟩,
    c_MOST_NUMBER := (let ⟨t, e⟩ := He.int_ok X G (x := "MOST_NUMBER") (i := 999999999999999999999999999999999999999999999999999999999999) (lf 7 _ rfl); ⟨_, e, t, rfl⟩),
    d_is_name := ⟨_, (c.fun_ (List.mem_of_getElem? (i := 7) rfl) rfl), (He.glo_ok X G (x := "is_name") (lf 8 _ rfl))⟩,
    n_str := (He.free_ok X G (x := "str") (lf 9 _ rfl)),
    n_len := (He.free_ok X G (x := "len") (lf 10 _ rfl)),
    c_MOST_LETTERS := (let ⟨t, e⟩ := He.int_ok X G (x := "MOST_LETTERS") (i := 8) (lf 11 _ rfl); ⟨_, e, t, rfl⟩),
    n_all := (He.free_ok X G (x := "all") (lf 12 _ rfl)),
    c_LETTERS := (let ⟨t, e⟩ := He.str_ok X G (x := "LETTERS") (z := "abcdefghijklmnopqrstuvwxyz") (lf 13 _ rfl); ⟨_, e, t, rfl⟩),
    d_number_in := ⟨_, (c.fun_ (List.mem_of_getElem? (i := 8) rfl) rfl), (He.glo_ok X G (x := "number_in") (lf 14 _ rfl))⟩,
    c_MOST_FIGURES := (let ⟨t, e⟩ := He.int_ok X G (x := "MOST_FIGURES") (i := 60) (lf 15 _ rfl); ⟨_, e, t, rfl⟩),
    c_FIGURES := (let ⟨t, e⟩ := He.str_ok X G (x := "FIGURES") (z := "0123456789") (lf 16 _ rfl); ⟨_, e, t, rfl⟩),
    d_is_name_pair := ⟨_, (c.fun_ (List.mem_of_getElem? (i := 9) rfl) rfl), (He.glo_ok X G (x := "is_name_pair") (lf 17 _ rfl))⟩,
    n_tuple := (He.free_ok X G (x := "tuple") (lf 18 _ rfl)),
    d_Words_init := (c.fun_ (List.mem_of_getElem? (i := 10) rfl) rfl),
    cl_Standing := He.cls_ok (b 13 _ rfl),
    in_Standing := insB_ok (b 14 _ rfl),
    kt_Standing_str_f := of_decide_eq_true (b 15 _ rfl),
    xi_BadText := He.eqO_ok (b 16 _ rfl),
    xt_BadText := of_decide_eq_true (b 17 _ rfl),
    g_BadText := (He.glo_ok X G (x := "BadText") (lf 19 _ rfl)),
    cl_Words := He.cls_ok (b 18 _ rfl),
    na_Words_told := He.noat_ok (b 19 _ rfl),
    na_Words_line_index := He.noat_ok (b 20 _ rfl),
    na_Words_next_index := He.noat_ok (b 21 _ rfl),
    d_Words_refuse := (c.fun_ (List.mem_of_getElem? (i := 11) rfl) rfl),
    d_Words_is_over := (c.fun_ (List.mem_of_getElem? (i := 12) rfl) rfl),
    d_Words_upcoming := (c.fun_ (List.mem_of_getElem? (i := 13) rfl) rfl),
    mt_Words_is_over := He.meth_ok (b 22 _ rfl),
    d_Words_skip := (c.fun_ (List.mem_of_getElem? (i := 14) rfl) rfl),
    mt_Words_refuse := He.meth_ok (b 23 _ rfl),
    d_Words_take_name := (c.fun_ (List.mem_of_getElem? (i := 15) rfl) rfl),
    mt_Words_upcoming := He.meth_ok (b 24 _ rfl),
    mt_Words_skip := He.meth_ok (b 25 _ rfl),
    d_Words_take_number := (c.fun_ (List.mem_of_getElem? (i := 16) rfl) rfl),
    d_Words_is_lone := (c.fun_ (List.mem_of_getElem? (i := 17) rfl) rfl),
    d_Words_close := (c.fun_ (List.mem_of_getElem? (i := 18) rfl) rfl),
    d_ascending_pairs := ⟨_, (c.fun_ (List.mem_of_getElem? (i := 19) rfl) rfl), (He.glo_ok X G (x := "ascending_pairs") (lf 20 _ rfl))⟩,
    n_sorted := (He.free_ok X G (x := "sorted") (lf 21 _ rfl)),
    n_set := (He.free_ok X G (x := "set") (lf 22 _ rfl)),
    d_things_of := ⟨_, (c.fun_ (List.mem_of_getElem? (i := 20) rfl) rfl), (He.glo_ok X G (x := "things_of") (lf 23 _ rfl))⟩,
    n_dict := (He.free_ok X G (x := "dict") (lf 24 _ rfl)),
    xi_BadTable := He.eqO_ok (b 26 _ rfl),
    xt_BadTable := of_decide_eq_true (b 27 _ rfl),
    g_BadTable := (He.glo_ok X G (x := "BadTable") (lf 25 _ rfl)),
    xi_BadName := He.eqO_ok (b 28 _ rfl),
    xt_BadName := of_decide_eq_true (b 29 _ rfl),
    g_BadName := (He.glo_ok X G (x := "BadName") (lf 26 _ rfl)),
    xi_BadNumber := He.eqO_ok (b 30 _ rfl),
    xt_BadNumber := of_decide_eq_true (b 31 _ rfl),
    g_BadNumber := (He.glo_ok X G (x := "BadNumber") (lf 27 _ rfl)),
    d_take_things := ⟨_, (c.fun_ (List.mem_of_getElem? (i := 21) rfl) rfl), (He.glo_ok X G (x := "take_things") (lf 28 _ rfl))⟩,
    mt_Words_is_lone := He.meth_ok (b 32 _ rfl),
    mt_Words_take_name := He.meth_ok (b 33 _ rfl),
    mt_Words_take_number := He.meth_ok (b 34 _ rfl),
    d_Standing_init := (c.fun_ (List.mem_of_getElem? (i := 22) rfl) rfl),
    na_Standing_own_things := He.noat_ok (b 35 _ rfl),
    d_Standing_none := (c.fun_ (List.mem_of_getElem? (i := 23) rfl) rfl),
    g_Standing := (He.glo_ok X G (x := "Standing") (lf 29 _ rfl)),
    mk_Standing := He.mkr_ok (b 36 _ rfl),
    d_Standing_read := (c.fun_ (List.mem_of_getElem? (i := 24) rfl) rfl),
    g_Words := (He.glo_ok X G (x := "Words") (lf 30 _ rfl)),
    mk_Words := He.mkr_ok (b 37 _ rfl),
    mt_Words_close := He.meth_ok (b 38 _ rfl),
    d_Standing_parts := (c.fun_ (List.mem_of_getElem? (i := 25) rfl) rfl),
    d_Standing_eq := (c.fun_ (List.mem_of_getElem? (i := 26) rfl) rfl),
    kts_Standing := (fun t ht => of_decide_eq_true (List.all_eq_true.mp (b 39 _ rfl) t ht)),
    kt_Standing_Standing_t := of_decide_eq_true (b 40 _ rfl),
    d_Standing_str := (c.fun_ (List.mem_of_getElem? (i := 27) rfl) rfl),
    pr_Standing_parts := propB_ok (b 41 _ rfl),
    d__law_pen := ⟨_, (c.fun_ (List.mem_of_getElem? (i := 28) rfl) rfl), (He.glo_ok X G (x := "_law_pen") (lf 31 _ rfl))⟩,
    n_list := (He.free_ok X G (x := "list") (lf 32 _ rfl)),
    d__law_draw := ⟨_, (c.fun_ (List.mem_of_getElem? (i := 29) rfl) rfl), (He.glo_ok X G (x := "_law_draw") (lf 33 _ rfl))⟩,
    n_abs := (He.free_ok X G (x := "abs") (lf 34 _ rfl)),
    d__law_pick := ⟨_, (c.fun_ (List.mem_of_getElem? (i := 30) rfl) rfl), (He.glo_ok X G (x := "_law_pick") (lf 35 _ rfl))⟩,
    d__law_word := ⟨_, (c.fun_ (List.mem_of_getElem? (i := 31) rfl) rfl), (He.glo_ok X G (x := "_law_word") (lf 36 _ rfl))⟩,
    n_range := (He.free_ok X G (x := "range") (lf 37 _ rfl)),
    d__law_table := ⟨_, (c.fun_ (List.mem_of_getElem? (i := 32) rfl) rfl), (He.glo_ok X G (x := "_law_table") (lf 38 _ rfl))⟩,
    d__law_text := ⟨_, (c.fun_ (List.mem_of_getElem? (i := 33) rfl) rfl), (He.glo_ok X G (x := "_law_text") (lf 39 _ rfl))⟩,
    d__law_bent := ⟨_, (c.fun_ (List.mem_of_getElem? (i := 34) rfl) rfl), (He.glo_ok X G (x := "_law_bent") (lf 40 _ rfl))⟩,
    d__law_is_name := ⟨_, (c.fun_ (List.mem_of_getElem? (i := 35) rfl) rfl), (He.glo_ok X G (x := "_law_is_name") (lf 41 _ rfl))⟩,
    d__law_is_number := ⟨_, (c.fun_ (List.mem_of_getElem? (i := 36) rfl) rfl), (He.glo_ok X G (x := "_law_is_number") (lf 42 _ rfl))⟩,
    d__law_due := ⟨_, (c.fun_ (List.mem_of_getElem? (i := 37) rfl) rfl), (He.glo_ok X G (x := "_law_due") (lf 43 _ rfl))⟩,
    exm_BadName_BadText_f := of_decide_eq_true (b 42 _ rfl),
    exm_BadNumber_BadText_f := of_decide_eq_true (b 43 _ rfl),
    exm_BadTable_BadText_f := of_decide_eq_true (b 44 _ rfl),
    exm_BadText_BadText_t := of_decide_eq_true (b 45 _ rfl),
    xf_BadText := xfB_ok (b 46 _ rfl),
    g_NextError := (He.glo_ok X G (x := "NextError") (lf 44 _ rfl)),
    exm_BadName_NextError_t := of_decide_eq_true (b 47 _ rfl),
    exm_BadNumber_NextError_t := of_decide_eq_true (b 48 _ rfl),
    exm_BadTable_NextError_t := of_decide_eq_true (b 49 _ rfl),
    exm_BadText_NextError_t := of_decide_eq_true (b 50 _ rfl),
    d__law_read_right := ⟨_, (c.fun_ (List.mem_of_getElem? (i := 38) rfl) rfl), (He.glo_ok X G (x := "_law_read_right") (lf 45 _ rfl))⟩,
    g__law_read_right := (He.glo_ok X G (x := "_law_read_right") (lf 45 _ rfl)),
    d__law_heard := ⟨_, (c.fun_ (List.mem_of_getElem? (i := 39) rfl) rfl), (He.glo_ok X G (x := "_law_heard") (lf 46 _ rfl))⟩,
    tm__law_read_right := (List.mem_of_getElem? (i := 0) rfl),
    tu__law_read_right := (tu__law_read_right (b 51 _ rfl)),
    cr_Standing := creadB_ok (b 52 _ rfl),
    cm_Standing_read := cmB_ok (b 53 _ rfl),
    eq_Standing := eqCB_ok (b 54 _ rfl),
    nf_Standing_Standing := (b 55 _ rfl),
    own_Standing_str := ownMB_ok (b 56 _ rfl),
    tm_law := (List.mem_of_getElem? (i := 1) rfl),
    tu_law := (tu_law (b 57 _ rfl)),
    cf_Standing_none := cfB_ok (b 58 _ rfl) }
  obtain ⟨fl, ⟨fd, F⟩, eg⟩ : ∃ f, FnP K "law" s_law f ∧ mg "law" = some (.ref f) := ⟨_, (c.fun_ (List.mem_of_getElem? (i := 40) rfl) rfl), (He.glo_ok X G (x := "law") (lf 47 _ rfl))⟩
  have e := hfa.symm.trans (He.glo_ok X G (x := "law") (lf 47 _ rfl))
  cases e
  have F : FunD K "law" "law" (defArgs s_law) (defBody s_law) (defScope s_law) [] [] (He.ga K "law") fd := by
    have e2 := eg.symm.trans (He.glo_ok X G (x := "law") (lf 47 _ rfl))
    cases e2
    exact F
  have bd := FunD.bindsA (ps := ["_law_script"]) F fun _ _ _ _ _ _ us hl => match us, hl with | [_], _ => rfl
  have all : ∀ {Q : Addr × Addr → Prop}, (∀ d ∈ tfs, Q (He.cT K d)) → ∀ p ∈ tfs.map (He.cT K), Q p := fun h p hp => by obtain ⟨d, hd, rfl⟩ := List.mem_map.mp hp; exact h d hd
  exact ⟨fd, tfs.map (He.cT K), Sh.spSh K sh_law, all fun d hd => c.empty d hd, all fun d hd => c.out d hd, all fun d hd => PySem.W.codeHd_of_K X (c.hd d hd), fun s v => bd s [v] rfl,
    fun H a ns hl _ hT hS => Sh.entry (fun p hp => by
      have hp : p ∈ [((He.cT K ("_law_read_right", none)).2, ("_law_read_right.<locals>.<lambda>" : Str)), ((He.cT K ("law", none)).2, ("law.<locals>.<lambda>" : Str))] := hp
      simp only [List.mem_cons, List.not_mem_nil, or_false] at hp
      rcases hp with rfl | rfl
      · exact LamX.TabS.nil (hT _ (List.mem_map_of_mem (List.mem_of_getElem? (i := 0) rfl)))
      · exact LamX.TabS.nil (hT _ (List.mem_map_of_mem (List.mem_of_getElem? (i := 1) rfl)))) hS hl (law_true ns hl), fun base _ _ hTB => fg_law T ⟨hTB _ (List.mem_map_of_mem (List.mem_of_getElem? (i := 0) rfl)), hTB _ (List.mem_map_of_mem (List.mem_of_getElem? (i := 1) rfl))⟩ F⟩
end Nk
open PySem PySem.W PySem.Calls PyProof.Rows
theorem PySem.Challenge.cw_nextkind_k28_standings_written_and_read_holds : PySem.Challenge.rw_nextkind_k28_standings_written_and_read.Holds := by
  w_on; o_law
  refine HandSHeadRun.head_any (r := OpenLaw.row PySem.Challenge.rw_nextkind_k28_standings_written_and_read) (q := view (OpenLaw.row PySem.Challenge.rw_nextkind_k28_standings_written_and_read).prog [40]) (H := Nk.hk) (ob := Nk.ob) (M := 9000) (loose := Nk.loose) (d := HandSHeadRun.topDef (OpenLaw.row PySem.Challenge.rw_nextkind_k28_standings_written_and_read).prog 40) (kwd := []) Nk.ob_eq
    (by kernel_rfl) (fun s => by kernel_rfl) Nk.run (by kernel_rfl) (by kernel_rfl) (by kernel_rfl) (by rfl) (by first | assumption | decide +kernel) (by decide +kernel) ⟨rfl, rfl, rfl, rfl, rfl, by decide +kernel⟩ ?hw ?hc
  case hw => w_witness2
  case hc =>
    refine Nk.walk_ofG (l := PySem.Challenge.rw_nextkind_k28_standings_written_and_read) (n := 63) (k := 11) (x := "_law_script") rfl (by decide) (by kernel_rfl) ⟨rfl, by decide, by decide⟩ ?F
    intro w mg fa h Y G hmg0
    obtain ⟨K, KX, c⟩ := Y
    have hmg : mg ("law" : PySem.Str) = some (.ref fa) := by
      have e : (HandSHeadRun.topDef (OpenLaw.row PySem.Challenge.rw_nextkind_k28_standings_written_and_read).prog 40).name = ("law" : PySem.Str) := by kernel_rfl
      rw [← e]
      exact hmg0
    exact ⟨K, KX, Nk.facts KX G hmg c⟩
