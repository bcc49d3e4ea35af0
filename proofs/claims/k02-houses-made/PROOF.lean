import PyProof.Rows.All
import Wide.All
import OpenK.AllK
import Wide.FinOn
import HandS.ForMost
import HandS.ForExc
import HandS.ExcInit
import HandS.ExcField
import HandS.ExcIs
import KE.KExcSuper
import HandS.Wide
import HandS.Codes
import HandS.IsInst
import HandS.Defaults
import HandS.TupAny
import HandS.Walk
import KE.KTreeR
import KE.DataEq
import HandS.Lambda
import HandS.HeadHook4
import PyProof.ReprRoads
import HandS.Property
import HandS.MakeKw
import HandS.MakeKwOnly
import HandS.OwnEq
import KE.KCallOwn
import HandS.HeadWalk
import HandS.HeadEnd
import HandS.Head0
import HandS.Head1
import HandS.Head2
import HandS.FStr
import HandS.EndTab
import HandS.ClsMeth
import HandS.More
import HandS.Star
import HandS.ExcValue
import KE.GoesEnum
import HandS.IterVal
import KE.KOpsOwn
import HandS.DictComp
import HandS.Small
import PyProof.ListMulRight
import PyProof.ListMulAny
import HandS.Deep
import HandS.Text
import HandS.RaiseMore
import PyProof.Rows.StrSplitAre
import HandS.Zip
import HandS.Style
import PyProof.StrBlock2
import HandS.Set
import HandS.SetFor
import PyProof.Rows.SortStr
import HandS.AnyAll
import KE.KEqDict
import HandS.Dict
import HandS.Call
import KE.KDictSum
import HandS.ListItems
import HandS.TryMany
import PyProof.DictUpdate
import PyProof.DictDisplay
import KE.KParD
import HandS.Iter
import KE.KDictZip
import KE.GoesMore
import HandS.List
import HandS.TupLe
import HandS.Strs
import PyProof.Claim2Refuses
import HandS.TupLen
import HandS.Conv
import KE.KUnpackStar
import HandS.NoneIn
import PyProof.Rows.RegStrFacts
import PySem.Challenge.RW_nextkind_k02_houses_made
set_option Elab.async false
set_option linter.all false
set_option maxRecDepth 100000
set_option maxHeartbeats 4000000
namespace Nk
open PySem PySem.Spec PyProof.Rows L2
structure FnSup (N P : List Str) (sc : Scope) : Prop where
  kind : sc.kind = .function
  co : sc.isCoroutine = false
  gen : sc.isGenerator = false
  nd : N.Nodup
  pre : N.take P.length = P
  par : ∀ x ∈ P, sc.names.lookup x = some .local
  nocell : ∀ y ∈ sc.names, y.2 ≠ .cell
  free : ∀ y ∈ sc.names, y.2 = .free → y.1 = ("__class__" : Str)
def fnSupB (N P : List Str) (sc : Scope) : Bool :=
  decide (sc.kind = .function) && !sc.isCoroutine && !sc.isGenerator && decide (N.Nodup) && decide (N.take P.length = P) && P.all (fun x => decide (sc.names.lookup x = some .local)) &&
    sc.names.all fun y => !decide (y.2 = .cell) && (!decide (y.2 = .free) || decide (y.1 = ("__class__" : Str)))
theorem fnSup_by {N P : List Str} {sc : Scope} (h : fnSupB N P sc = true) : FnSup N P sc := by
  unfold fnSupB at h
  simp only [Bool.and_eq_true, Bool.or_eq_true, Bool.not_eq_true', decide_eq_true_eq, decide_eq_false_iff_not, List.all_eq_true] at h
  obtain ⟨⟨⟨⟨⟨⟨h1, h2⟩, h3⟩, h4⟩, h5⟩, h6⟩, h7⟩ := h
  exact ⟨h1, h2, h3, h4, h5, h6, fun y hy => (h7 y hy).1, fun y hy e => ((h7 y hy).2).elim (fun z => absurd e z) id⟩
abbrev supEnv (qual : Str) (scope : Scope) (L f : Addr) (cd : Value) (cc : Addr) : Env := PySem.W.ksEnv qual scope L f cd cc
def supCx (CX : CXT) (P : Program) (w : World) (K : PySem.W.Frag) (mg : Str → Option Value) (base : Heap) (N : List Str) (qual : Str) (scope : Scope) (f : Addr) (cd : Value) (cc : Addr) (A : Around) (outer : List Env) (s : Shared) (H : Hp) (E : XK) : Cx where
  prog := P
  w := w
  K := K
  mg := mg
  base := base
  A := A.deeper (supEnv qual scope s.heap.objs.size f cd cc)
  N := N
  s_0 := s
  H_0 := H
  env := supEnv qual scope s.heap.objs.size f cd cc
  outer := outer
  stack := supEnv qual scope s.heap.objs.size f cd cc :: outer
  ex := []
  calm := true
  fn := fun _ => false
  pn := []
  xe := fun e s' => wpAny (model P w) (A.deeper (supEnv qual scope s.heap.objs.size f cd cc)) (leaving (supEnv qual scope s.heap.objs.size f cd cc) e) (fun _ s'' => CX outer H s E e s'') (fun e' s'' => CX outer H s E e' s'') s'
structure PSc (X : Cx) (c : Code) (st : Stmt) (t : TS) : Prop where
  run : ∀ (pins : List (Addr × Obj)) (s : Shared) (σ : L2.St) (H : Hp) (D : Ends), Inv X pins σ H s → t D σ H → _root_.PySem.wpAt (model X.prog X.w) X.A c (exec st X.env) (SP X pins D) X.xe s
structure PScs (X : Cx) (c : Code) (st : List Stmt) (t : TS) : Prop where
  run : ∀ (pins : List (Addr × Obj)) (s : Shared) (σ : L2.St) (H : Hp) (D : Ends), Inv X pins σ H s → t D σ H → _root_.PySem.wpAt (model X.prog X.w) X.A c (execs st X.env) (SP X pins D) X.xe s
section
variable {X : Cx} {c : Code} {st : Stmt} {rest : List Stmt} {t u : TS}
theorem pscs_of (h : PSs X rest t) : PScs X c rest t := ⟨fun pins s σ H D I q => fun Γ p _ hΓ => h.run pins s σ H D I q Γ p hΓ⟩
theorem pscs_cons (h1 : PSc X c st t) (h2 : PScs X c rest u) : PScs X c (st :: rest) (tSeq t u) := by
  refine ⟨fun pins s σ H D I h => ?_⟩
  refine ks_wpAt_execs_cons (ks_wpAt_mono (h1.run pins s σ H { D with nx := u D } I h) (fun f s1 q => ?_) fun _ _ z => z)
  cases f with
  | next =>
    obtain ⟨σ', H', I', q⟩ := q
    exact h2.run pins s1 σ' H' D I' q
  | ret v => exact q
  | brk => exact q
  | cont => exact q
end
def ClsCell (K : PySem.W.Frag) (cc D : Addr) : Prop := ∃ cl cld csl, K.lookup cc = some ⟨cl, cld, .cell (some (.ref D)), csl⟩
theorem sup_inv {CX : CXT} {P : Program} {w : World} {K : PySem.W.Frag} {mg : Str → Option Value} {base : Heap} {N ps : List Str} {qual : Str} {scope : Scope} {f cc D : Addr} {cd : Value} {A : Around} {outer : List Env} {s : Shared} {H : Hp} {E : XK} {us : List Value} {vs : List V} {h₁ : Heap} {tk : Nat}
    (S : FnSup N ps scope) (hd : A.handled = none) (e0 : Env0 P w K mg base A outer s H) (hl : vs.length = ps.length) (r : Vals vs us) (C : ClsCell K cc D)
    (hns : h₁.Ns s.heap.objs.size fun y => (ps.zip us).reverse.lookup y) (kp : ∀ b o, s.heap.get? b = some o → h₁.get? b = some o) :
    Inv (supCx CX P w K mg base N qual scope f cd cc A outer s H E) [] (L2.start N vs) H { s with heap := h₁, toks := tk } := by
  have hpl : ps.length ≤ N.length := by have := congrArg List.length S.pre; rw [List.length_take] at this; omega
  obtain ⟨cl, cld, csl, hc⟩ := C
  have hb : base.get? cc = some ⟨cl, cld, .cell (some (.ref D)), csl⟩ := e0.mod.kin _ _ hc
  have hs := (e0.bs _ _ hb).1
  have hcl : ∀ x c, (supCx CX P w K mg base N qual scope f cd cc A outer s H E).env.cells.lookup x = some c → x = ("__class__" : Str) ∧ c = cc := fun x c h => by
    have h' : List.lookup x [(("__class__" : Str), cc)] = some c := h
    by_cases e : x = ("__class__" : Str)
    · subst e
      simp [List.lookup] at h'
      exact ⟨rfl, h'.symm⟩
    · have q : (x == ("__class__" : Str)) = false := by simpa using e
      simp [List.lookup, q] at h'
  have noA : ∀ b : Addr, b ∉ (supCx CX P w K mg base N qual scope f cd cc A outer s H E).ex := fun b z => absurd (show b ∈ ([] : List Addr) from z) (by simp)
  refine ⟨⟨e0.mod, S.kind, rfl, rfl, Nat.le_refl _, fun y z c h1 h2 => ?_, fun y hy => ?_, fun y c h _ => ?_, fun _ => hd, Around.frames_deeper e0.frames, .inr ⟨rfl, rfl⟩, fun b z => absurd z (noA b), e0.bs, e0.bsz, fun b _ _ => noA b, fun b z => absurd z (noA b), e0.funs, e0.frf⟩,
    rfl, e0.bare, Un.kept kp, ⟨_, hns, fun i y v h1 h2 h3 => ?_⟩, fun y c h => ?_, e0.hok.fresh (Nat.le_refl _), fun y c h => ?_, fun p hp => absurd (show p ∈ ([] : List (Addr × Obj)) from hp) (by simp), e0.hok.kept kp, ?_⟩
  · exact (hcl _ _ h1).1.trans (hcl _ _ h2).1.symm
  · have hy : scope.names.lookup y = some .cell ∨ scope.names.lookup y = some .free := hy
    rcases hy with hy | hy
    · exact absurd rfl (S.nocell _ (PySem.mem_of_lookup hy))
    · have e := S.free _ (PySem.mem_of_lookup hy) rfl
      have e : y = ("__class__" : Str) := e
      subst e
      exact ⟨cc, by show List.lookup _ [_] = _; simp [List.lookup]⟩
  · exact Bool.noConfusion (show false = true from h)
  · have hi : i < vs.length := by
      unfold L2.start at h2
      by_cases hi : i < vs.length
      · exact hi
      · rw [List.getElem?_append_right (by simpa using hi)] at h2
        rw [List.getElem?_replicate] at h2
        split at h2 <;> cases h2
    have ha : vs[i]? = some v := by
      unfold L2.start at h2
      rw [List.getElem?_append_left (by simpa using hi), List.getElem?_map] at h2
      cases e : vs[i]? with
      | none => rw [e] at h2; cases h2
      | some a => rw [e] at h2; cases h2; rfl
    obtain ⟨u, hu, rv⟩ := r.get ha
    have hp : ps[i]? = some y := by
      rw [← S.pre, List.getElem?_take_of_lt (by omega)]; exact h1
    have ndP : ps.Nodup := by rw [← S.pre]; exact S.nd.sublist (List.take_sublist _ _)
    refine ⟨u, rv, .inl ⟨S.par y (List.mem_of_getElem? hp), ?_⟩⟩
    show (ps.zip us).reverse.lookup y = some u
    have hz : (ps.zip us)[i]? = some (y, u) := by rw [List.getElem?_zip_eq_some]; exact ⟨hp, hu⟩
    have hm : (y, u) ∈ ps.zip us := List.mem_of_getElem? hz
    clear hz
    have key : ∀ (ps : List Str) (us : List Value), ps.Nodup → (y, u) ∈ ps.zip us → (ps.zip us).reverse.lookup y = some u := by
      intro ps
      induction ps with
      | nil => intro us _ h; simp at h
      | cons p ps ih =>
        intro us nd h
        cases us with
        | nil => simp at h
        | cons w us =>
          rw [List.zip_cons_cons] at h ⊢
          rw [List.reverse_cons, List.lookup_append]
          rcases List.mem_cons.mp h with e | h
          · cases e
            have hn : (ps.zip us).reverse.lookup y = none := by
              rw [List.lookup_eq_none_iff]
              intro q hq
              have hq' : q ∈ ps.zip us := by simpa using hq
              have : q.1 ∈ ps := (List.of_mem_zip hq').1
              have ne : y ≠ q.1 := fun e => (List.nodup_cons.mp nd).1 (by rw [e]; exact this)
              simpa using ne
            rw [hn]
            simp [List.lookup]
          · rw [ih us (List.nodup_cons.mp nd).2 h]
            rfl
    exact key ps us ndP hm
  · obtain ⟨_, e⟩ := hcl y c h
    subst e
    exact ⟨_, _, kp _ _ hs, rfl⟩
  · obtain ⟨_, e⟩ := hcl y c h
    subst e
    exact (e0.bs _ _ hb).2
  · unfold L2.start
    show _ = N.length
    rw [List.length_append, List.length_map, List.length_replicate]
    omega
theorem fn_sup {CX : CXT} {P : Program} {w : World} {K : PySem.W.Frag} {mg : Str → Option Value} {base : Heap} {k : Nat} {f cc D : Addr} {name qual : Str} {params : Arguments} {body : List Stmt} {scope : Scope} {dV kV doc pm cdv ct oc : Value} {an od : Option Addr}
    {osl : Array (Option Value)} {N ps : List Str} {sp : Sp} (lk : K.lookup f = some ⟨oc, od, .func (PySem.W.ksFn name qual params body scope dV kV doc pm an cdv ct cc), osl⟩) (hcd : PySem.W.codeIn K cdv qual = true) (C : ClsCell K cc D) (S : FnSup N ps scope)
    (len : ∀ vs H Q E, sp vs H Q E → vs.length = ps.length)
    (hbody : ∀ (A : Around) (outer : List Env) (s : Shared) (H : Hp) (vs : List V) (Q : VK) (E : XK), Room k (A.deeper (supEnv qual scope s.heap.objs.size f cdv cc)) → sp vs H Q E →
      ∃ t, PScs (supCx CX P w K mg base N qual scope f cdv cc A outer s H E) (.func body (supEnv qual scope s.heap.objs.size f cdv cc)) body t ∧ t { nx := fun _ H' => Q .non H', rt := Q } (L2.start N vs) H) :
    FnOk P w K mg base CX (k + 1) f (PySem.W.ksFn name qual params body scope dV kV doc pm an cdv ct cc) ps sp := by
  refine ⟨len, fun A outer s H args us vs Q E hr e0 hb r hsp => ?_⟩
  have hl := len _ _ _ _ hsp
  have KX : K.In s.heap := e0.mod.kin.keeps fun b o e => (e0.bs b o e).1
  have lim : s.heap.NoLimit := e0.mod.nolimit.keeps fun b o e => (e0.bs b o e).1
  refine ks_codeAny_call_defAt (binds := ps.zip us) hr.depth (KX _ _ lk) rfl lim (PySem.W.codeRec_of KX hcd) rfl hb S.nocell (fun x hx => S.par _ (List.of_mem_zip (show (x.1, x.2) ∈ ps.zip us from hx)).1) (fun h₁ hns kp => ?_) S.co S.gen S.kind
  obtain ⟨t, ht, hq⟩ := hbody A outer s H vs Q E (hr.deeper _) hsp
  have I : Inv (supCx CX P w K mg base N qual scope f cdv cc A outer s H E) [] (L2.start N vs) H { s with heap := h₁, toks := s.toks + (ps.zip us).length } := sup_inv S hr.hd e0 hl r C hns kp
  refine ks_wpAt_mono (ht.run [] _ (L2.start N vs) H _ I hq) (fun fl s' hs => ?_) fun e s' hs => hs
  have fin : ∀ {σ' : L2.St} {H' : Hp} {v : V} {u : Value}, Inv (supCx CX P w K mg base N qual scope f cdv cc A outer s H E) [] σ' H' s' → RelV v u → Q v H' → CE outer P w H s Q u s' :=
    fun {σ' H' v u} J rv q => ⟨v, H', J.os, J.bare, J.base, J.hok, rv, q⟩
  cases fl with
  | ret u =>
    obtain ⟨v, σ', H', J, rv, q⟩ := hs
    exact fin J rv q
  | next =>
    obtain ⟨σ', H', J, q⟩ := hs
    exact fin (v := V.non) (u := Value.none) J rfl q
  | brk =>
    obtain ⟨_, _, _, q⟩ := hs
    exact False.elim q
  | cont =>
    obtain ⟨_, _, _, q⟩ := hs
    exact False.elim q
structure SupAt (X : Cx) (f cc D : Addr) (sf : Str) : Prop where
  fn : ∃ oc od fd osl ar, X.K.lookup f = some ⟨oc, od, .func fd, osl⟩ ∧ (fd.params.posonlyargs ++ fd.params.args).head? = some ar ∧ ar.arg = sf
  code : ∃ cda ccl cdd vs ccs file tf, X.env.code = .ref cda ∧ X.K.lookup cda = some ⟨ccl, cdd, .fields vs, ccs⟩ ∧ vs[2]? = some (.str file tf) ∧ ((X.prog.main.file : Str) == file) = true
  top : (X.prog.main.scope.names.lookup ("super" : Str)).isSome = false
  mgs : X.mg "super" = none
  func : X.env.func = some f
  cell : ClsCell X.K cc D
  cells : X.env.cells.lookup ("__class__" : Str) = some cc
  sS : X.env.scope.names.lookup ("super" : Str) = some .globalImplicit
  sC : X.env.scope.names.lookup ("__class__" : Str) = some .free
  sX : X.env.scope.names.lookup sf = some .local
  n0 : X.N[0]? = some sf
  D : ∃ cd, PySem.W.clsIn X.K D = some cd
theorem cls_at {K : PySem.W.Frag} {h : Heap} {D : Addr} {cdD : ClassData} (X : K.In h) (hD : PySem.W.clsIn K D = some cdD) : ∃ oD, h.get? D = some oD ∧ oD.data = .cls cdD := by
  unfold PySem.W.clsIn at hD
  split at hD
  · rename_i c d cd' sl ho
    cases hD
    exact ⟨_, X _ _ ho, rfl⟩
  · cases hD
theorem super_base {X : Cx} {f cc D x C : Addr} {sf : Str} {pins : List (Addr × Obj)} {σ : L2.St} {H : Hp} {s : Shared} {Q : Value → Shared → Prop} {body : List Stmt} {p0 p1 : Pos} {attr : Str} {whole : Sem Value} {ox : Obj}
    (S : SupAt X f cc D sf) (I : Inv X pins σ H s) (h0 : σ[0]? = some (some (.ref x))) (hx : s.heap.get? x = some ox) (hcls : ox.cls = .ref C) (hno : ∀ c, ox.data ≠ .cls c) (hsub : PySem.W.mroIn X.K C (.ref D) = some true) (hat : (attr == ("__class__" : Str)) = false)
    (h : ∀ so s', Inv X pins σ H s' → s'.heap.get? so = some (PySem.W.ks_superObj D x C) → (∀ b o, s.heap.get? b = some o → s'.heap.get? b = some o) → H so = none → Q (.ref so) s') :
    _root_.PySem.wpAt (model X.prog X.w) X.A (.func body X.env) (attributeBase (.Call (.Name "super" p0) [] [] p1) attr X.env whole) Q X.xe s := by
  obtain ⟨oc, od, fd, osl, ar, hf, hp, ea⟩ := S.fn
  obtain ⟨cda, ccl, cdd, vs, ccs, file, tf, hco, hcc, hvs, hfile⟩ := S.code
  obtain ⟨cl, cld, csl, hcell⟩ := S.cell
  obtain ⟨cdD, hD⟩ := S.D
  obtain ⟨oD, hD1, hD2⟩ := cls_at I.kIn hD
  have KX := I.kIn
  refine ks_wpAt_super_base (env := X.env) S.sS S.sC hat S.func (KX _ _ hf) rfl hp hco (KX _ _ hcc) rfl hvs hfile S.top ?_
  obtain ⟨mb, b1, b2⟩ := I.mod.blt
  refine PySem.W.ks_loadName_global I.ok.kind S.sS (Calls.loadGlobal_builtin (by rw [I.ok.glob]; exact I.mod.glob.keeps I.bk) S.mgs (by rw [I.ok.blt]; exact b1.keeps I.bk) ((b2 "super" (by decide)).trans PyProof.Rows.Boot.«super») ⟨rfl, ?_⟩)
  refine wpAny_loadName_free I.ok.kind S.sC S.cells ⟨_, KX _ _ hcell, rfl⟩ ?_
  obtain ⟨m, hn, hl⟩ := I.loc
  obtain ⟨u, ru, lk⟩ := hl 0 sf (.ref x) S.n0 h0 (.inl S.sX)
  have hu : m sf = some (.ref x) := by
    have e : u = .ref x := ru
    rcases lk with ⟨_, e2⟩ | ⟨k, _⟩
    · rw [e2, e]
    · have k1 : X.env.scope.names.lookup sf = some .cell ∨ X.env.scope.names.lookup sf = some .free := k
      rw [S.sX] at k1
      rcases k1 with k1 | k1 <;> cases k1
  subst ea
  refine wpAny_loadName_local I.ok.kind S.sX hn hu ?_
  refine ks_wpAny_isType_cls hD1 hD2 ⟨rfl, ?_⟩
  obtain ⟨hh, g, d, t, os⟩ := s
  refine ks_wpAny_call_super hD1 hD2 hx hcls hno (PySem.W.looks_mroIn KX hsub) fun h' e k => ?_
  exact h _ _ (I.kept (h' := h') (t' := t) k) e k (I.hok.fresh (Nat.le_refl _))
def tSupX (C : Addr) (K : PySem.W.Frag) (ta : TA) : TS := fun D σ H => ∃ a, σ[0]? = some (some (.ref a)) ∧ H a = some (exo a C none) ∧ ta σ H fun vs H1 => vs.length ≤ 1000 ∧ H1 a = some (exo a C none) ∧ D.nx σ H1
structure SupX (K : PySem.W.Frag) (C : Addr) : Prop where
  T : OexC K C
  sup : PySem.W.ks_superIn K C C "__init__" = some (some (.builtin "ValueError.__init__"))
  sub : PySem.W.mroIn K C (.ref C) = some true
  ve : PySem.W.subIn K (.ref C) (.type "ValueError") = some true
  op : PySem.W.nsIn K cStatics "thirdparty.any" = some none
theorem psc_superX {X : Cx} {f cc C : Addr} {sf : Str} {body : List Stmt} {e : Expr} {es : List Expr} {p0 p1 p2 p3 p4 : Pos} {ta : TA} {pl : Sem Bool} (S : SupAt X f cc C sf) (T : SupX X.K C) (ha : PA X (e :: es) ta)
    (hev : eval (.Call (.Attribute (.Call (.Name "super" p0) [] [] p1) "__init__" p2) (e :: es) [] p3) X.env = (do
      let ov ← attributeBase (.Call (.Name "super" p0) [] [] p1) "__init__" X.env (eval (.Call (.Name "super" p0) [] [] p1) X.env)
      standAt p2.atName
      let (f, first) ← holding [ov] (getMethod ov "__init__" pl)
      callWith p3 f first (backTo p3 (starEach (e :: es) X.env)) []) := by rfl)
    (hsw : swapsWith (.Call (.Attribute (.Call (.Name "super" p0) [] [] p1) "__init__" p2) (e :: es) [] p3) none p4.line X.env = pure false := by rfl)
    (hst : starEach (e :: es) X.env = (false, eval e X.env) :: starEach es X.env := by rfl) (hpl : (backTo p3 (starEach es X.env)).any (·.1) = false := by rfl) :
    PSc X (.func body X.env) (.Expr (.Call (.Attribute (.Call (.Name "super" p0) [] [] p1) "__init__" p2) (e :: es) [] p3) p4) (tSupX C X.K ta) := by
  refine ⟨fun pins s σ H D I h => ?_⟩
  obtain ⟨a, h0, ea, h⟩ := h
  obtain ⟨nm, q, N, bs, bm, sn, sub, ab, col, dd, k0, k1, k2, k3, k5, hC, hbm⟩ := T.T.cls
  have hcl : PySem.W.clsIn X.K C = some { name := nm, bases := bs, mro := .ref C :: bm, ns := N, qualname := q, hasDict := true, slotNames := sn, subclasses := sub, abstract := ab, collection := col, hasDel := false } := by unfold PySem.W.clsIn; rw [hC] <;> rfl
  obtain ⟨t1, ho⟩ := exo_at I.hok ea
  refine ks_wpAt_Expr_any (ks_wpAt_MethodCall ?_ hev) I.quiet hsw
  refine super_base S I h0 ho rfl (fun c z => by cases z) T.sub (by decide) fun so s1 I1 hso kp _ => ?_
  have hoa := kp _ _ ho
  -- the method
  have hm := T.sup
  unfold PySem.W.ks_superIn at hm
  rw [hcl] at hm
  have hin : PySem.W.InstAt s1.heap a { cls := .ref C, dict := none, data := .fields #[.ref t1, .none, .none, .none, .bool false, .none] } C none := ⟨hoa, rfl, rfl, trivial⟩
  have hI : PySem.W.Looks (model X.prog X.w) s1.heap (isInstance (.ref a) (.type "ValueError")) true := hin.type.andThen (PySem.W.looks_subIn I1.kIn T.ve)
  obtain ⟨hh, g, d, t, os⟩ := s1
  refine PySem.W.kxs_getMethod PySem.W.kxs_ValueError hso (PySem.W.looks_opaque I1.kIn T.op) (l₀ := .ref C :: bm) (fun A Q E s k q => wpAny_bind ((PySem.W.looks_clsIn I1.kIn hcl) A _ E s k (wpAny_pure q))) rfl I1.kIn hm hI (PySem.W.ks_ne I1.kIn hin hcl) (by decide) ?_
  have hkp : ∀ b u, hh.get? b = some u → (hh.push (PySem.W.kxs_mw "ValueError.__init__" a)).get? b = some u := fun b u e => Heap.get?_push_of_some _ e
  have I2 : Inv X pins σ H ⟨hh.push (PySem.W.kxs_mw "ValueError.__init__" a), g, d, t + 1, os⟩ := I1.kept hkp
  have hu : (hh.push (PySem.W.kxs_mw "ValueError.__init__" a)).get? hh.objs.size = some (PySem.W.kxs_mw "ValueError.__init__" a) := Heap.get?_push_size _ rfl
  -- the wrapper is pinned
  have ne_loc : hh.objs.size ≠ X.env.locals := Nat.ne_of_gt I1.lt
  have ne_fs : hh.objs.size ∉ X.fs := I1.nofs (Nat.le_refl _)
  have fresh : H hh.objs.size = none := I1.hok.fresh (Nat.le_refl _)
  have I3 : Inv X ((hh.objs.size, PySem.W.kxs_mw "ValueError.__init__" a) :: pins) σ H ⟨hh.push (PySem.W.kxs_mw "ValueError.__init__" a), g, d, t + 1, os⟩ := I2.pins_of fun p hp => by
    rcases List.mem_cons.mp hp with e | hp
    · subst e
      exact ⟨hu, fresh, ne_loc, ne_fs, fun v z => by cases z⟩
    · exact I2.pin p (List.mem_append_right _ hp)
  refine PySem.W.kxs_callWith (i := "ValueError.__init__") (x := a) (by rw [hst]; exact (show (false || (backTo p3 (starEach es X.env)).any (·.1)) = false by rw [hpl]; rfl)) ?_
  rw [hst]
  refine Calls.evalArgs_plain ?_
  have hrun := ha.run p3 _ _ σ H _ I3 h
  rw [hst] at hrun
  refine thn hrun fun us s2 ⟨vs, H2, I4, r, hl, ea2, q⟩ => ?_
  obtain ⟨hpin, hpn, _, _, _⟩ := I4.pin (hh.objs.size, PySem.W.kxs_mw "ValueError.__init__" a) (List.mem_append_right _ List.mem_cons_self)
  refine ⟨hpin, ?_⟩
  show wpAny _ _ (call (.ref hh.objs.size) us) _ _ _
  have I5 : Inv X pins σ H2 s2 := I4.pins_of fun p hp => I4.pin p (List.mem_append_right _ (List.mem_cons_of_mem _ hp))
  obtain ⟨t2, ho2⟩ := exo_at I5.hok ea2
  obtain ⟨hp2, g2, d2, tk2, os2⟩ := s2
  refine wpAny_call (codeAny_of_tree ?_)
  show wpAny _ X.A.in1 (callAny (.ref hh.objs.size) ⟨us, []⟩) _ _ _
  simp only [callAny]
  refine wpAny_bind (wpAny_load hpin ?_)
  simp only [PySem.W.kxs_mw, show (Value.type "method-wrapper" == Value.type "method" || Value.type "method-wrapper" == Value.type "builtin_function_or_method" || Value.type "method-wrapper" == Value.type "method-wrapper") = true by decide, if_true]
  refine PySem.W.KFB.if_so (by decide) ?_
  refine wpAny_bind (PySem.W.check_bound_init F.excBase_ValueError.toExcCallFacts (I5.kIn _ _ hC) ho2 rfl ?_)
  refine wpAny_bind (wpAny_pure (wpAny_pure ?_))
  refine ⟨plainId_quiet F.excBase_ValueError.init.plain _, codeAny_builtin F.excBase_ValueError.initEntry ?_⟩
  refine PySem.W.exc_init_tree (cls := .ref C) (t0 := t2) (dv := none) (c2 := .none) (c3 := .none) (b4 := .bool false) ho2 (by rw [← Paired.length r, sizeLine_eq]; omega) fun h' k hx _ => ?_
  have J := I5.write (t' := tk2) (x := a) (e := a) (o := exo a C none) (by rw [ea2]; exact True.intro) (.inl rfl) k ⟨_, hx⟩ (exo_ok hx)
  have eu : upd H2 a (exo a C none) = H2 := by
    funext b
    by_cases hb : b = a
    · rw [hb, upd_same, ea2]
    · rw [upd_ne hb]
  rw [eu] at J
  exact ⟨σ, H2, J, q⟩
end Nk
namespace Nk
open PySem PySem.Spec PyProof.Rows L2
def Df (P : Program) (w : World) (K : PySem.W.Frag) (mg : Str → Option Value) (base : Heap) (x : Str) (k : Nat) (ps : List Str) (sp : Sp) : Prop :=
  ∃ (f : Addr) (fd : FuncData), FnOk P w K mg base (L2.CX P w) k f fd ps sp ∧ mg x = some (.ref f) ∧ PySem.W.keepIn K (.ref f) = true ∧ Binds K fd ps []
def tDf (sp : Sp) (W : WX) (t : TA) : TE := fun σ H Q => t σ H fun vs H1 => sp vs H1 Q (fun cls d H' => W cls d σ H')
section
variable {X : Cx} {k j : Nat} {ps : List Str} {sp : Sp} {x : Str} {p pos : Pos} {e : Expr} {es : List Expr} {t : TA} {W : WX}
theorem pe_df (c : Df X.prog X.w X.K X.mg X.base x k ps sp) (hr : Room j X.A) (hk : k ≤ j) (hg : Gl X x) (tk : Takes X W) (ha : PA X (e :: es) t)
    (hdb : (x == ("__debug__" : Str)) = false := by decide) (he : starEach (e :: es) X.env = (false, eval e X.env) :: starEach es X.env := by rfl) (hpl : (backTo pos (starEach es X.env)).any (·.1) = false := by rfl) :
    PE X (.Call (.Name x p) (e :: es) [] pos) (tDf sp W t) := by
  obtain ⟨f, fd, F, hm, hkp, hb⟩ := c
  exact pe_callS (E := WE W) F (hr.mono hk) hg hm hkp hb (fun σ => passAt tk σ) ha hdb he hpl
end
theorem pe_gc {X : Cx} {x : Str} {v : V} {pos : Pos} (hg : Gl X x) (h : ∃ u, X.mg x = some u ∧ RelV v u) (hd : (x == ("__debug__" : Str)) = false := by decide) : PE X (.Name x pos) (tC v) := by
  obtain ⟨u, hm, r⟩ := h
  exact pe_glob hg hm r hd
section
variable {σ : L2.St} {H : Hp} {Q : VK} {D : Ends} {i : Nat} {v x y : V} {ta tb tc te : TE} {tt tu : TT} {K : PySem.W.Frag} {ts tv : TS} {tA tB' : TA}
theorem r_seq (h : ts { D with nx := tv D } σ H) : tSeq ts tv D σ H := h
theorem r_next (h : D.nx σ H) : tNext D σ H := h
theorem r_asgN (h : te σ H fun v H' => D.nx (σ.set i (some v)) H') : tAsg te (gName i) D σ H := h
theorem r_asg {g : TG} (h : te σ H fun v H' => g v σ H' D.nx) : tAsg te g D σ H := h
theorem r_ret (h : te σ H D.rt) : tRet te D σ H := h
theorem r_retN (h : D.rt .non H) : tRetN D σ H := h
theorem r_drop (h : te σ H fun _ H1 => D.nx σ H1) : tDrop te D σ H := h
theorem r_ifS (h : tt σ H fun b H1 => if b = true then ts D σ H1 else tv D σ H1) : tIfS tt ts tv D σ H := h
theorem r_var (h : σ[i]? = some (some v)) (q : Q v H) : tVar i σ H Q := ⟨v, h, q⟩
theorem r_c (q : Q v H) : tC v σ H Q := q
theorem r_op {r : R2} (h : ta σ H fun x H1 => tb σ H1 fun y H2 => r x y H2 Q) : tOp r ta tb σ H Q := h
theorem r_un {r : V → Hp → VK → Prop} (h : ta σ H fun x H1 => r x H1 Q) : tUn r ta σ H Q := h
theorem r_I0 {g : Int → Int → V} {a b : Int} (q : Q (g a b) H) : rI0 g (.int a) (.int b) H Q := ⟨a, b, rfl, rfl, q⟩
theorem r_I {C : Int → Int → Prop} {g : Int → Int → V} {a b : Int} (hc : C a b) (q : Q (g a b) H) : rI C g (.int a) (.int b) H Q := ⟨a, b, rfl, rfl, hc, q⟩
theorem r_eq (h : scal x y = true) (q : Q (.bl (decide (x = y))) H) : rEq x y H Q := ⟨h, q⟩
theorem r_ne (h : scal x y = true) (q : Q (.bl (!decide (x = y))) H) : rNe x y H Q := ⟨h, q⟩
theorem r_test {Q : Bool → Hp → Prop} (h : te σ H fun x H' => ∃ k, x = .bl k ∧ Q k H') : tTest te σ H Q := h
theorem r_B {Q : Bool → Hp → Prop} (h : te σ H fun x H' => ∃ k, x = .bl k ∧ Q k H') : L2.tB te σ H Q := h
theorem r_k {b : Bool} {R : Bool → Prop} (h : R b) : ∃ k, V.bl b = .bl k ∧ R k := ⟨b, rfl, h⟩
theorem r_not {Q : Bool → Hp → Prop} (h : tt σ H fun c H1 => Q (!c) H1) : tNot tt σ H Q := h
theorem r_and {Q : Bool → Hp → Prop} (h : tt σ H fun c H1 => if c = true then tu σ H1 Q else Q false H1) : tAnd tt tu σ H Q := h
theorem r_or {Q : Bool → Hp → Prop} (h : tt σ H fun c H1 => if c = true then Q true H1 else tu σ H1 Q) : tOr tt tu σ H Q := h
theorem r_andV (h : ta σ H fun x H1 => ∃ c, x = .bl c ∧ if c = true then tb σ H1 Q else Q (.bl false) H1) : tAndV ta tb σ H Q := h
theorem r_orV (h : ta σ H fun x H1 => ∃ c, x = .bl c ∧ if c = true then Q (.bl true) H1 else tb σ H1 Q) : tOrV ta tb σ H Q := h
theorem r_notV (h : ta σ H fun x H1 => ∃ c, x = .bl c ∧ Q (.bl (!c)) H1) : tNotV ta σ H Q := h
theorem r_if (h : tt σ H fun c H1 => if c = true then ta σ H1 Q else tb σ H1 Q) : tIf tt ta tb σ H Q := h
theorem r_nil {Q : List V → Hp → Prop} (q : Q [] H) : tNil σ H Q := q
theorem r_cons {Q : List V → Hp → Prop} (h : te σ H fun x H1 => tA σ H1 fun xs H2 => Q (x :: xs) H2) : tCons te tA σ H Q := h
theorem r_cb {r : List V → Hp → VK → Prop} (h : tA σ H fun vs H1 => r vs H1 Q) : tCB r tA σ H Q := h
theorem r_df {sp : Sp} {W : WX} (h : tA σ H fun vs H1 => sp vs H1 Q (fun cls d H' => W cls d σ H')) : tDf sp W tA σ H Q := h
theorem r_lst (h : tA σ H fun xs H1 => xs.length ≤ sizeLine ∧ ∀ p, H1 p = none → Q (.ref p) (upd H1 p (.lst xs))) : tLst tA σ H Q := h
theorem r_tup (h : tA σ H fun xs H1 => xs.length ≤ sizeLine ∧ ∀ p, H1 p = none → Q (.ref p) (upd H1 p (.tup xs))) : tTup tA σ H Q := h
theorem r_gsub {to ti : TE} {t : TSet} {Qs : L2.St → Hp → Prop} (h : to σ H fun o H1 => ti σ H1 fun i H2 => t o i v H2 fun H3 => Qs σ H3) : gSub to ti t v σ H Qs := h
theorem r_chain {r r' : R2} (h : ta σ H fun x H1 => tb σ H1 fun y H2 => r x y H2 fun z H3 => ∃ k, z = .bl k ∧ (if k = true then tc σ H3 fun w' H4 => r' y w' H4 Q else Q (.bl false) H3)) : tChain r r' ta tb tc σ H Q := h
theorem r_ixL {p : Addr} {xs : List V} {k : Int} (h : SqL K H p xs) (ha : atI xs k = some v) (q : Q v H) : rIxL K (.ref p) (.int k) H Q := ⟨p, xs, k, v, rfl, rfl, h, ha, q⟩
theorem r_iteT {A B : Prop} (h : A) : if true = true then A else B := iteT h
theorem r_iteF {A B : Prop} (h : B) : if false = true then A else B := iteF h
theorem r_iteNF {A B : Prop} (h : A) : if (!false) = true then A else B := iteT h
theorem r_iteNT {A B : Prop} (h : B) : if (!true) = true then A else B := iteF h
theorem r_lenL {a : Addr} {xs : List V} {R : Nat → Prop} (h : SqL K H a xs) (q : R xs.length) : ∃ (x : V) (n : Nat), [V.ref a] = [x] ∧ LenV K x H n ∧ R n := ⟨_, _, rfl, .inl ⟨xs, h, rfl⟩, q⟩
theorem r_gN {R : L2.St → Hp → Prop} (h : R (σ.set i (some v)) H) : gName i v σ H R := h
theorem r_yes {R : Bool → Hp → Prop} (h : R true H) : tYes σ H R := h
theorem r_lc {wi : TI} {g : TG} {vs : List Nat} (h : wi σ H fun J H1 => ∀ D, H1 D = none → ∃ W : Nat → Nat → Hp → Prop, (∃ m, W 0 m (upd H1 D (.lst []))) ∧ ∀ i m H, W i m H →
      (J.stop i H ∧ Q (.ref D) H) ∨ (J.go i H ∧ ∃ Nx : Hp → Prop, (∀ H', Nx H' → ∃ m', m' < m ∧ W (i + 1) m' H') ∧ ∀ x H', J.yld i H x H' → g x (wipe σ vs) H' fun σ2 H2 => wipe σ2 vs = wipe σ vs ∧ tt σ2 H2 fun b H3 =>
        if b = true then te σ2 H3 fun y H4 => ∃ acc, H4 D = some (.lst acc) ∧ acc.length < sizeLine ∧ Nx (upd H4 D (.lst (acc ++ [y]))) else Nx H3)) : tLc wi g tt te vs σ H Q := h
theorem r_for {wi : TI} {g : TG} (h : wi σ H fun J H1 => ∃ W : Nat → Nat → L2.St → Hp → Prop, (∃ m, W 0 m σ H1) ∧ ∀ i m σ H, W i m σ H →
      (J.stop i H ∧ D.nx σ H) ∨ (J.go i H ∧ ∃ N : L2.St → Hp → Prop, (∀ σ' H', N σ' H' → ∃ m', m' < m ∧ W (i + 1) m' σ' H') ∧ ∀ x H', J.yld i H x H' → g x σ H' fun σ2 H2 => ts { D with nx := N, ct := N, bk := D.nx } σ2 H2)) : tFor wi g ts D σ H := h
theorem r_iStr {R : It → Hp → Prop} (h : te σ H fun v H1 => ∃ x, v = .str x ∧ R (Its x) H1) : iStr te σ H R := h
theorem r_iList {R : It → Hp → Prop} (h : te σ H fun x H1 => ∃ a, x = .ref a ∧ (∃ xs, SqL K H1 a xs) ∧ R (Itl K a) H1) : iList K te σ H R := h
theorem r_iTup {R : It → Hp → Prop} (h : te σ H fun x H1 => ∃ a, x = .ref a ∧ (∃ xs, SqT K H1 a xs) ∧ R (Itt K a) H1) : iTup K te σ H R := h
theorem r_iRng1 {R : It → Hp → Prop} (h : tA σ H fun vs H1 => ∃ j : Int, vs = [.int j] ∧ -(2 ^ 62) ≤ j ∧ j < 2 ^ 62 ∧ R (Itr 0 j.toNat) H1) : iRng1 tA σ H R := h
theorem r_xstr {z : Str} {R : Str → Prop} (h : R z) : ∃ x, V.str z = .str x ∧ R x := ⟨z, rfl, h⟩
theorem r_xref {a : Addr} {R : Addr → Prop} (h : R a) : ∃ x, V.ref a = .ref x ∧ R x := ⟨a, rfl, h⟩
theorem r_xint {k : Int} {R : Int → Prop} (h : R k) : ∃ x, V.int k = .int x ∧ R x := ⟨k, rfl, h⟩
theorem r_xints {k : Int} {R : Int → Prop} (h : R k) : ∃ x, [V.int k] = [.int x] ∧ R x := ⟨k, rfl, h⟩
theorem r_int1 {k : Int} {R : Int → Prop} {S : Prop} (h : R k) : (∃ x, [V.int k] = [.int x] ∧ R x) ∨ S := .inl ⟨k, rfl, h⟩
theorem r_intb {b : Bool} {R : Bool → Prop} {S : Prop} (h : R b) : S ∨ ∃ x, [V.bl b] = [.bl x] ∧ R x := .inr ⟨b, rfl, h⟩
theorem c_mulL {a b : Int} (h : -(2 ^ 64) < a ∧ a < 2 ^ 64) : CMul a b := .inl h
theorem c_mulR {a b : Int} (h : -(2 ^ 64) < b ∧ b < 2 ^ 64) : CMul a b := .inr h
theorem c_pow {a b : Int} (h : 0 ≤ b ∧ b ≤ 1000000) (ha : -(2 ^ 63) ≤ a ∧ a < 2 ^ 63) : CPow a b := ⟨h.1, h.2, by omega⟩
theorem c_divW {a b : Int} (h : 0 < b) (hb : b < 2 ^ 1000) : CDivW a b := wide_div (b := 1000) h (by omega) (by decide) (by decide)
theorem r_sl {r : V → Option Int → Option Int → Hp → VK → Prop} {tl th : TO} (h : te σ H fun x H1 => tl σ H1 fun l H2 => th σ H2 fun u H3 => r x l u H3 Q) : tSl r te tl th σ H Q := h
theorem r_nop {R : Option Int → Hp → Prop} (h : R none H) : tNoPart σ H R := h
theorem r_part {R : Option Int → Hp → Prop} (h : te σ H fun x H1 => ∃ i, x = .int i ∧ R (some i) H1) : tPart te σ H R := h
theorem r_slL {a : Addr} {xs : List V} {lo hi : Option Int} (h : SqL K H a xs) (q : ∀ p, H p = none → Q (.ref p) (upd H p (.lst (cutV xs lo hi)))) : rSlL K (.ref a) lo hi H Q := ⟨a, xs, rfl, h, q⟩
theorem r_m1 {r : V → List V → Hp → VK → Prop} (h : ta σ H fun x H1 => (∃ a, x = .str a) ∧ te σ H1 fun y H2 => r x [y] H2 Q) : tM1 r ta te σ H Q := h
theorem r_isS {a : Str} {R : Prop} (h : R) : (∃ b, V.str a = .str b) ∧ R := ⟨⟨a, rfl⟩, h⟩
theorem r_size {n : Nat} (h : n ≤ 100000) : n ≤ sizeLine := Nat.le_trans h (by decide)
theorem r_bm {T : String} {r : V → List V → Hp → VK → Prop} (h : te σ H fun x H1 => tyV K T x H1 ∧ tA σ H1 fun xs H2 => r x xs H2 Q) : tBM K T r te tA σ H Q := h
end
theorem new_facts {H H' : Hp} {p : Addr} {o : HO} (hp : H p = none) (e : upd H p o = H') : Same H H' ∧ H' p = some o ∧ ∀ b, b ≠ p → H' b = H b := by
  subst e
  exact ⟨fun b u e => by rw [upd_ne (ne_of_none e hp)]; exact e, upd_same, fun b hb => upd_ne hb⟩
def Kp (p : Addr) (H H' : Hp) : Prop := ∀ b o, H b = some o → b ≠ p → H' b = some o
theorem Kp.refl (p : Addr) (H : Hp) : Kp p H H := fun _ _ h _ => h
theorem Kp.trans {p : Addr} {H H1 H2 : Hp} (a : Kp p H H1) (b : Kp p H1 H2) : Kp p H H2 := fun c o h n => b c o (a c o h n) n
theorem Kp.same {p : Addr} {H H' : Hp} (s : Same H H') : Kp p H H' := fun b o h _ => s b o h
theorem Kp.upd {p : Addr} {H H' : Hp} {o : HO} (s : Kp p H H') : Kp p H (upd H' p o) := fun b u h n => by rw [upd_ne n]; exact s b u h n
theorem Kp.seq {p a : Addr} {H H' : Hp} {K : PySem.W.Frag} {xs : List V} (k : Kp p H H') (h : SqL K H a xs) (n : a ≠ p) : SqL K H' a xs := by
  rcases h with (h | ⟨o, h⟩) | h
  · exact .inl (.inl (k _ _ h n))
  · exact .inl (.inr ⟨o, k _ _ h n⟩)
  · exact .inr h
structure Pen (H : Hp) (p c : Addr) (ns : List Int) (n : Nat) : Prop where
  at_ : ∃ (i : Nat) (g : Int), H p = some (.lst [.ref c, .int i, .int g]) ∧ i ≤ n
  cells : H c = some (.lst (ns.map V.int))
  len : ns.length ≤ 63
theorem Pen.mono {H : Hp} {p c : Addr} {ns : List Int} {n m : Nat} (h : Pen H p c ns n) (l : n ≤ m) : Pen H p c ns m := by
  obtain ⟨⟨i, g, a, b⟩, d, e⟩ := h
  exact ⟨⟨i, g, a, Nat.le_trans b l⟩, d, e⟩
theorem Pen.same {H H' : Hp} {p c : Addr} {ns : List Int} {n : Nat} (h : Pen H p c ns n) (s : Same H H') : Pen H' p c ns n := by
  obtain ⟨⟨i, g, a, b⟩, d, e⟩ := h
  exact ⟨⟨i, g, s _ _ a, b⟩, s _ _ d, e⟩
theorem Pen.ne {H : Hp} {p c : Addr} {ns : List Int} {n : Nat} (h : Pen H p c ns n) : c ≠ p := fun e => by
  obtain ⟨⟨i, g, a, b⟩, d, _⟩ := h
  rw [e, a] at d
  cases ns with
  | nil => cases d
  | cons z r => cases d
theorem Pen.off {H : Hp} {p c b : Addr} {ns : List Int} {n : Nat} {o : HO} (h : Pen H p c ns n) (hb : H b = some o) (ho : ∀ xs, o ≠ .lst xs) : b ≠ p := fun e => by
  obtain ⟨⟨i, g, a, _⟩, _, _⟩ := h
  rw [e, a] at hb
  exact ho _ (Option.some.inj hb).symm
theorem same_mut {H H' : Hp} {p : Addr} {o : HO} (e : Same H H') (h : H p = none) : Same H (upd H' p o) := fun a u ha => by
  rw [upd_ne (ne_of_none ha h)]
  exact e a u ha
theorem df_mk {P : Program} {w : World} {K : PySem.W.Frag} {mg : Str → Option Value} {base : Heap} {x qual : Str} {st : Stmt} {f : Addr} {N ps : List Str} {k : Nat} {sp : Sp} (F : ∃ fd, FunD K x qual (defArgs st) (defBody st) (defScope st) [] [] f fd) (hm : mg x = some (.ref f)) (S : FnScope N ps (defScope st))
    (hb : ∀ (kV doc pm : Value) (an : Option Addr) (cdv ct : Value) (us : List Value), us.length = ps.length → bindArgs (PySem.W.fnOf x qual (defArgs st) (defBody st) (defScope st) .none kV doc pm an cdv ct) ⟨us, []⟩ = pure (ps.zip us))
    (len : ∀ vs H Q E, sp vs H Q E → vs.length = ps.length)
    (hbody : ∀ (cdv : Value) (A : Around) (outer : List Env) (s : Shared) (H : Hp) (vs : List V) (Q : VK) (E : XK), Room k (A.deeper (envOfC qual (defScope st) s.heap.objs.size f cdv)) → sp vs H Q E →
      ∃ t, PSs (cxOf (L2.CX P w) P w K mg base N qual (defScope st) f cdv A outer s H E) (defBody st) t ∧ t { nx := fun _ H' => Q .non H', rt := Q } (L2.start N vs) H) : Df P w K mg base x (k + 1) ps sp := by
  obtain ⟨fd, F⟩ := F
  exact ⟨f, fd, F.ok S len hbody, hm, F.kp, F.bindsN hb⟩
theorem at_nat {α : Type} {xs : List α} {r : Int} (h0 : 0 ≤ r) (h1 : r < (xs.length : Int)) : ∃ v, atI xs r = some v ∧ v ∈ xs := by
  obtain ⟨j, rfl⟩ := Int.eq_ofNat_of_zero_le h0
  have hj : j < xs.length := by omega
  exact ⟨xs[j], atI_nat (List.getElem?_eq_getElem hj), List.getElem_mem hj⟩
inductive Row (K : PySem.W.Frag) (H : Hp) (p : Addr) : V → List V → Prop
  | lst {a : Addr} {xs : List V} (h : SqL K H a xs) (n : a ≠ p) : Row K H p (.ref a) xs
  | tup {a : Addr} {xs : List V} (h : SqT K H a xs) (n : a ≠ p) : Row K H p (.ref a) xs
  | str (z : Str) : Row K H p (.str z) (z.cps.toList.map fun c => .str ⟨#[c]⟩)
theorem Kp.seqT {p a : Addr} {H H' : Hp} {K : PySem.W.Frag} {xs : List V} (k : Kp p H H') (h : SqT K H a xs) (n : a ≠ p) : SqT K H' a xs := by
  rcases h with (h | ⟨o, h⟩) | h
  · exact .inl (.inl (k _ _ h n))
  · exact .inl (.inr ⟨o, k _ _ h n⟩)
  · exact .inr h
theorem Row.kp {K : PySem.W.Frag} {H H' : Hp} {p : Addr} {v : V} {xs : List V} (r : Row K H p v xs) (k : Kp p H H') : Row K H' p v xs := by
  cases r with
  | lst h n => exact .lst (k.seq h n) n
  | tup h n => exact .tup (k.seqT h n) n
  | str z => exact .str z
theorem Row.len {K : PySem.W.Frag} {H : Hp} {p : Addr} {v : V} {xs : List V} (r : Row K H p v xs) (h : xs.length ≤ 90000) : LenV K v H xs.length := by
  cases r with
  | lst h n => exact .inl ⟨xs, h, rfl⟩
  | tup h n => exact .inr ⟨xs, h, rfl⟩
  | str z =>
    rw [List.length_map] at h
    refine ⟨?_, by rw [List.length_map]; simp [Str.length]⟩
    unfold Str.length
    exact r_size (by simpa using Nat.le_trans h (by decide))
theorem Row.ix {K : PySem.W.Frag} {H : Hp} {p : Addr} {v : V} {xs : List V} (r : Row K H p v xs) {k : Int} {Q : VK} (h : xs.length ≤ 90000) (h0 : 0 ≤ k) (h1 : k < (xs.length : Int)) (q : ∀ y, y ∈ xs → Q y H) : rIx K v (.int k) H Q := by
  cases r with
  | lst hs n =>
    obtain ⟨y, ey, hm⟩ := at_nat h0 h1
    exact .inl ⟨_, xs, k, y, rfl, rfl, hs, ey, q y hm⟩
  | tup hs n =>
    obtain ⟨y, ey, hm⟩ := at_nat h0 h1
    exact .inr (.inl ⟨_, xs, k, y, rfl, rfl, hs, ey, q y hm⟩)
  | str z =>
    rw [List.length_map] at h h1
    obtain ⟨c, ey, hm⟩ := at_nat (xs := z.cps.toList) h0 h1
    exact .inr (.inr ⟨z, k, c, rfl, rfl, by unfold Str.length; exact r_size (by simpa using Nat.le_trans h (by decide)), ey, q _ (List.mem_map.mpr ⟨c, hm, rfl⟩)⟩)
def inClass (st : Stmt) (j : Nat) : Stmt := match st with
  | .ClassDef _ _ _ b _ _ _ _ _ _ _ => b.getD j (.Pass ⟨0, 0, 0, 0⟩)
  | _ => .Pass ⟨0, 0, 0, 0⟩
theorem Df.imp {P : Program} {w : World} {K : PySem.W.Frag} {mg : Str → Option Value} {base : Heap} {x : Str} {k : Nat} {ps : List Str} {sp sp' : Sp} (c : Df P w K mg base x k ps sp) (h : ∀ vs H Q E, sp' vs H Q E → sp vs H Q E) : Df P w K mg base x k ps sp' := by
  obtain ⟨f, fd, F, r⟩ := c
  exact ⟨f, fd, F.imp h, r⟩
theorem str_nil (x : Str) : Str.empty ++ x = x := TL.ext_tl (by rw [TL.tl_append]; rfl)
theorem str_len (x y : Str) : (x ++ y).length = x.length + y.length := by
  have h := congrArg List.length (TL.tl_append x y)
  rw [List.length_append] at h
  unfold TL.tl at h
  unfold Str.length
  simpa using h
def rEqP (K : PySem.W.Frag) : R2 := fun x y H Q => ∃ d e, Dp K H x d ∧ Dp K H y e ∧ d.plain = true ∧ e.plain = true ∧ d.depth ≤ 60 ∧ Q (.bl (PyData.eqv d e)) H
def rNeP (K : PySem.W.Frag) : R2 := fun x y H Q => ∃ d e, Dp K H x d ∧ Dp K H y e ∧ d.plain = true ∧ e.plain = true ∧ d.depth ≤ 60 ∧ Q (.bl (!PyData.eqv d e)) H
theorem op_eqP {X : Cx} (hu : X.A.units + 64 < cLine) : OpR X (compareOp .Eq) (rEqP X.K) := by
  intro pins s σ H x y v u Q I rx ry h
  obtain ⟨d, e, hd, he, pd, pe, h60, q⟩ := h
  obtain ⟨as, r1⟩ := Dp.reads I d x v hd rx
  obtain ⟨bs, r2⟩ := Dp.reads I e y u he ry
  exact SeqAt.eq_plain r1 r2 pd pe (by omega) ⟨.bl _, H, I, rfl, q⟩
theorem op_neP {X : Cx} (hu : X.A.units + 64 < cLine) : OpR X (compareOp .NotEq) (rNeP X.K) := by
  intro pins s σ H x y v u Q I rx ry h
  obtain ⟨d, e, hd, he, pd, pe, h60, q⟩ := h
  obtain ⟨as, r1⟩ := Dp.reads I d x v hd rx
  obtain ⟨bs, r2⟩ := Dp.reads I e y u he ry
  exact SeqAt.ne_plain r1 r2 pd pe (by omega) ⟨.bl _, H, I, rfl, q⟩
theorem Pen.new {H : Hp} {p c q : Addr} {ns : List Int} {n : Nat} (h : Pen H p c ns n) (hq : H q = none) : q ≠ p := fun e => by
  obtain ⟨⟨i, g, a, _⟩, _, _⟩ := h
  rw [e, a] at hq
  cases hq
theorem Kp.free {p D : Addr} {H H' : Hp} (k : Kp p H H') (h : H' D = none) (n : D ≠ p) : H D = none := by
  cases e : H D with
  | none => rfl
  | some o => rw [k _ _ e n] at h; cases h
theorem Pen.upd {H : Hp} {p c D : Addr} {ns : List Int} {n : Nat} {o : HO} (h : Pen H p c ns n) (h1 : D ≠ p) (h2 : D ≠ c) : Pen (upd H D o) p c ns n := by
  obtain ⟨⟨i, g, a, b⟩, d, e⟩ := h
  exact ⟨⟨i, g, by rw [upd_ne (Ne.symm h1)]; exact a, b⟩, by rw [upd_ne (Ne.symm h2)]; exact d, e⟩
end Nk
namespace Nk
open PySem PySem.Spec PyProof.Rows L2
structure FnG (P : Program) (w : World) (K : PySem.W.Frag) (mg : Str → Option Value) (base : Heap) (CX : CXT) (k : Nat) (f : Addr) (fd : FuncData) (ps : List Str) (sp : Sp) : Prop where
  len : ∀ vs H Q E, sp vs H Q E → vs.length = ps.length
  run : ∀ (A : Around) (outer : List Env) (s : Shared) (H : Hp) (args : Args) (us : List Value) (vs : List V) (Q : VK) (E : XK), A.guards = some [] → Room k A → Env0 P w K mg base A outer s H → BindsTo s fd args (ps.zip us) → Vals vs us → sp vs H Q E →
    codeAny (model P w) A (.call (.ref f) args) (CR CX outer P w H s Q E) s
theorem fng_of {CX : CXT} {P : Program} {w : World} {K : PySem.W.Frag} {mg : Str → Option Value} {base : Heap} {k : Nat} {x qual : Str} {params : Arguments} {body : List Stmt} {scope : Scope} {f : Addr} {fd : FuncData} {N ps : List Str} {sp : Sp}
    (F : FunD K x qual params body scope [] [] f fd) (S : FnScope N ps scope) (len : ∀ vs H Q E, sp vs H Q E → vs.length = ps.length)
    (hbody : ∀ (cdv : Value) (A : Around) (outer : List Env) (s : Shared) (H : Hp) (vs : List V) (Q : VK) (E : XK), A.guards = some [] → Room k (A.deeper (envOfC qual scope s.heap.objs.size f cdv)) → sp vs H Q E →
      ∃ t, PSs (cxOf CX P w K mg base N qual scope f cdv A outer s H E) body t ∧ t { nx := fun _ H' => Q .non H', rt := Q } (L2.start N vs) H) : FnG P w K mg base CX (k + 1) f fd ps sp := by
  refine ⟨len, fun A outer s H args us vs Q E hg hr e0 hb r hsp => ?_⟩
  obtain ⟨oc, od, dV, kV, doc, pm, an, cdv, ct, osl, rfl, lk, hcd, _, _⟩ := F.ex
  exact LamX.run_ofS lk hcd S hr e0 hb r (len _ _ _ _ hsp) fun hr' => hbody cdv A outer s H vs Q E hg hr' hsp
theorem fngC_of {CX : CXT} {P : Program} {w : World} {K : PySem.W.Frag} {mg : Str → Option Value} {base : Heap} {k : Nat} {x qual : Str} {params : Arguments} {body : List Stmt} {scope : Scope} {p : He.Defn} {fd : FuncData} {N ps : List Str} {sp : Sp}
    (F : FunD K x qual params body scope [] [] (He.fAd K p) fd) (S : FnScope N ps scope) (len : ∀ vs H Q E, sp vs H Q E → vs.length = ps.length)
    (hbody : ∀ (cdv : Value), cdv = .ref (He.codeOf K p) → ∀ (A : Around) (outer : List Env) (s : Shared) (H : Hp) (vs : List V) (Q : VK) (E : XK), A.guards = some [] → Room k (A.deeper (envOfC qual scope s.heap.objs.size (He.fAd K p) cdv)) → sp vs H Q E →
      ∃ t, PSs (cxOf CX P w K mg base N qual scope (He.fAd K p) cdv A outer s H E) body t ∧ t { nx := fun _ H' => Q .non H', rt := Q } (L2.start N vs) H) : FnG P w K mg base CX (k + 1) (He.fAd K p) fd ps sp := by
  refine ⟨len, fun A outer s H args us vs Q E hg hr e0 hb r hsp => ?_⟩
  obtain ⟨oc, od, dV, kV, doc, pm, an, cdv, ct, osl, rfl, lk, hcd, _, _⟩ := F.ex
  obtain ⟨c, rfl⟩ := He.codeIn_ref hcd
  have e := He.codeOf_eq lk rfl
  exact LamX.run_ofS lk hcd S hr e0 hb r (len _ _ _ _ hsp) fun hr' => hbody (.ref c) (by rw [e]) A outer s H vs Q E hg hr' hsp
def Dg (P : Program) (w : World) (K : PySem.W.Frag) (mg : Str → Option Value) (base : Heap) (x : Str) (k : Nat) (ps : List Str) (sp : Sp) : Prop :=
  ∃ (f : Addr) (fd : FuncData), FnG P w K mg base (L2.CX P w) k f fd ps sp ∧ mg x = some (.ref f) ∧ PySem.W.keepIn K (.ref f) = true ∧ Binds K fd ps []
theorem dg_mk {P : Program} {w : World} {K : PySem.W.Frag} {mg : Str → Option Value} {base : Heap} {x qual : Str} {st : Stmt} {f : Addr} {N ps : List Str} {k : Nat} {sp : Sp} (F : ∃ fd, FunD K x qual (defArgs st) (defBody st) (defScope st) [] [] f fd) (hm : mg x = some (.ref f)) (S : FnScope N ps (defScope st))
    (hb : ∀ (kV doc pm : Value) (an : Option Addr) (cdv ct : Value) (us : List Value), us.length = ps.length → bindArgs (PySem.W.fnOf x qual (defArgs st) (defBody st) (defScope st) .none kV doc pm an cdv ct) ⟨us, []⟩ = pure (ps.zip us))
    (len : ∀ vs H Q E, sp vs H Q E → vs.length = ps.length)
    (hbody : ∀ (cdv : Value) (A : Around) (outer : List Env) (s : Shared) (H : Hp) (vs : List V) (Q : VK) (E : XK), A.guards = some [] → Room k (A.deeper (envOfC qual (defScope st) s.heap.objs.size f cdv)) → sp vs H Q E →
      ∃ t, PSs (cxOf (L2.CX P w) P w K mg base N qual (defScope st) f cdv A outer s H E) (defBody st) t ∧ t { nx := fun _ H' => Q .non H', rt := Q } (L2.start N vs) H) : Dg P w K mg base x (k + 1) ps sp := by
  obtain ⟨fd, F⟩ := F
  exact ⟨f, fd, fng_of F S len hbody, hm, F.kp, F.bindsN hb⟩
section
variable {X : Cx} {k j : Nat} {ps : List Str} {sp : Sp} {x : Str} {p pos : Pos} {e : Expr} {es : List Expr} {t : TA} {W : WX}
theorem pe_dg (c : Dg X.prog X.w X.K X.mg X.base x k ps sp) (hgd : X.A.guards = some []) (hr : Room j X.A) (hk : k ≤ j) (hg : Gl X x) (tk : Takes X W) (ha : PA X (e :: es) t)
    (hdb : (x == ("__debug__" : Str)) = false := by decide) (he : starEach (e :: es) X.env = (false, eval e X.env) :: starEach es X.env := by rfl) (hpl : (backTo pos (starEach es X.env)).any (·.1) = false := by rfl) :
    PE X (.Call (.Name x p) (e :: es) [] pos) (tDf sp W t) := by
  obtain ⟨f, fd, F, hm, hkp, hb⟩ := c
  refine ⟨fun pins s σ H Q I h => ?_⟩
  refine wpAny_Call_Name_kw (ld_glob I hg hm ?_ hdb)
  refine PySem.W.callWith_K (h₀ := X.base) I.ok.mod.kin hkp (thn (ha.run pos pins s σ H _ I h) fun us s1 ⟨vs, H1, I1, r, q⟩ => ⟨I1.kIn, ?_⟩) he hpl
  have hl : us.length = ps.length := by rw [← r.length]; exact F.len _ _ _ _ q
  have b := hb s1 us I1.kIn (by rw [List.append_nil]; exact hl)
  rw [List.append_nil] at b
  refine wpAny_call (codeAny_mono (F.run X.A X.stack s1 H1 ⟨us, []⟩ us vs Q (WE W σ) hgd (hr.mono hk) I1.env0 b r q) fun r s' hq => ?_)
  match r, hq with
  | .error e, hq => exact passAt tk σ pins H1 s1 e s' I1 hq
  | .ok (.ret u), hq => exact I1.after hq
  | .ok .next, hq => exact False.elim hq
  | .ok .brk, hq => exact False.elim hq
  | .ok .cont, hq => exact False.elim hq
end
inductive Dq (K : PySem.W.Frag) (H : Hp) : V → PyData → Prop
  | of {v : V} {d : PyData} (h : Dp K H v d) : Dq K H v d
  | dic {a : Addr} (h : H a = some (.dK [])) : Dq K H (.ref a) (.dict [])
mutual
theorem dp_nodict {K : PySem.W.Frag} {H : Hp} : ∀ (d : PyData) (v : V), Dp K H v d → d.hasDict = false
  | .none, _, _ => rfl
  | .bool _, _, _ => rfl
  | .int _, _, _ => rfl
  | .str _, _, _ => rfl
  | .list ds, _, h => by
    cases h with
    | lst _ ha => exact dp_nodicts ds _ ha
  | .tuple ds, _, h => by
    cases h with
    | tup _ ha => exact dp_nodicts ds _ ha
  | .dict _, _, h => by cases h
theorem dp_nodicts {K : PySem.W.Frag} {H : Hp} : ∀ (ds : List PyData) (vs : List V), DpAll K H vs ds → PyData.hasDictAll ds = false
  | [], _, _ => rfl
  | d :: ds, _, h => by
    cases h with
    | cons h1 h2 =>
      show (PyData.hasDict d || PyData.hasDictAll ds) = false
      rw [dp_nodict d _ h1, dp_nodicts ds _ h2]
      rfl
end
theorem Dq.reads {X : Cx} {pins : List (Addr × Obj)} {σ : L2.St} {H : Hp} {s : Shared} (I : Inv X pins σ H s) {v : V} {u : Value} {d : PyData} (h : Dq X.K H v d) (r : RelV v u) : ∃ as, Reads s.heap u d as ∧ (d.hasDict = true → sysModules ∉ as) := by
  cases h with
  | of h =>
    obtain ⟨as, q⟩ := Dp.reads I d v u h r
    exact ⟨as, q, fun z => by rw [dp_nodict d v h] at z; cases z⟩
  | dic h =>
    cases r
    obtain ⟨_, hne, vs, kv, dd⟩ := dk_of I.hok h
    cases kv
    obtain ⟨o, es, ep, ho, hx, hd, _, hes, _⟩ := dd
    have e0 : es.toList = [] := by cases hp : es.toList with | nil => rfl | cons e r => rw [hp] at hes; cases hes
    refine ⟨_, .dict (kvs := []) ho hx.1 hd (by rw [e0]; exact .nil) (by rw [e0]; exact .nil), fun _ hm => ?_⟩
    have hm := List.mem_singleton.mp hm
    rw [← hm] at hne
    simp at hne
def rRepr (K : PySem.W.Frag) : List V → Hp → VK → Prop := fun xs H Q => ∃ v d, xs = [v] ∧ Dq K H v d ∧ d.showable = true ∧ d.depth ≤ 60 ∧ d.shown.length ≤ sizeLine ∧ Q (.str d.shown) H
theorem call_reprG {X : Cx} (hgd : X.A.guards = some []) (hu : X.A.units + 64 < cLine) : CallR X (.builtin "repr") (rRepr X.K) := by
  intro pins s σ H xs us Q I r h
  obtain ⟨v, d, rfl, hd, hs, h60, hz, q⟩ := h
  obtain ⟨u, rfl, ru⟩ := vals1 r
  obtain ⟨as, rd, hm⟩ := hd.reads I ru
  have fin : ∀ h' t tk, (∀ b o, s.heap.get? b = some o → h'.get? b = some o) → EP X pins σ Q (.str d.shown t) { s with heap := h', toks := tk } := fun h' t tk k => ⟨.str _, H, I.kept k, ⟨_, rfl⟩, q⟩
  cases v with
  | ref a =>
    cases ru
    exact repr_of_reads' rd hs hm hgd (by omega) (fun _ _ e => e) fin hz
  | non =>
    cases ru
    cases rd
    exact PySem.P.repr_of_none (fin s.heap _ _ fun _ _ e => e)
  | bl b =>
    cases ru
    cases rd
    exact PySem.P.repr_of_bool (fin s.heap _ _ fun _ _ e => e)
  | int i =>
    obtain ⟨t, rfl⟩ := ru
    cases rd
    exact PySem.P.repr_of_int (of_decide_eq_true hs) (fin s.heap _ _ fun _ _ e => e)
  | str x =>
    obtain ⟨t, rfl⟩ := ru
    cases rd
    exact PySem.P.repr_of_str (fin s.heap _ _ fun _ _ e => e) hz
  | _ =>
    cases hd with
    | of h => cases h
end Nk
namespace PySem.W
open PySem PySem.Spec PySem.Calls PyProof.Rows
section
variable {prog : Program} {w : World} {A : Around} {E : Value → Shared → Prop} {s : Shared} {K : Frag} {x C L f : Addr} {h₀ : Heap} {m : Str → Option Value} {ox : Obj} {od : Option Obj} {b tb : Value}
theorem nk_ifBound_B {M : Model} {T id : String} {name : Str} {args : List Value} {Q : Option Value → Shared → Prop} (X : K.In s.heap) (I : InstAt s.heap x ox C od) (hs : findIn K (.ref C) name = some (some (.builtin id))) (S : Slot T name id)
    (h : wpAny M A (call (.builtin id) (.ref x :: args)) (fun v => Q (some v)) E s) : wpAny M A (callSpecialIfBound? (.ref x) name args) Q E s := by
  simp only [callSpecialIfBound?, bindSpecialIfBound?]
  refine wpAny_holding (wpAny_bind (wpAny_bind (wpAny_bind (I.type.here ((looks_findIn X hs).here ?_)))))
  simp only [S.bind]
  refine wpAny_bind (wpAny_askSetting (wpAny_ite ?_))
  have fin : wpAny M A (call (.builtin id) ([.ref x] ++ args) >>= fun v => pure (some v)) Q E s := wpAny_bind (wpAny_mono h (fun v s' h' => wpAny_pure h') fun _ _ h' => h')
  split
  · exact wpAny_bind (wpAny_pure (wpAny_pure fin))
  · exact wpAny_tryCatch (wpAny_bind (wpAny_pure (wpAny_pure fin)))
theorem nk_objNe (hu : A.units < cLine) {Q : Fin → Shared → Prop} (X : K.In s.heap) (I : InstAt s.heap x ox C od) (he : findIn K (.ref C) "__eq__" = some (some (.ref f))) (hf : isFn K (.ref f) = true)
    (h : wpAny (model prog w) A (call (.ref f) [.ref x, b]) (fun v s' => ∃ r, v = .bool r ∧ Q (.done (.ret (.bool (!r)))) s') E s) : wpAny (model prog w) A (Builtin.«object.__ne__» ⟨[.ref x, b], []⟩) Q E s := by
  obtain ⟨hp, g, d, t, os⟩ := s
  unfold Builtin.«object.__ne__»
  repeat (first
    | with_reducible refine wpAny_cRoomFor hu ?_
    | (refine wpAny_bind (m := callSpecialIfBound? (.ref x) (Str.ofString "__eq__") [b])
        (ifBound_K X I he hf (wpAny_mono h (fun r s' hr => by
          obtain ⟨b, rfl, hq⟩ := hr
          repeat (first | exact hq | exact wpAny_pure hq | exact wpAny_truthy_bool hq | (refine wpAny_bind (m := truthy (.bool _)) (wpAny_truthy_bool ?_)) | wp_step)) fun _ _ e => e)))
    | wp_step)
theorem nk_ne {Q : Value → Shared → Prop} (hu : A.units + 1 < cLine) (X : K.In s.heap) (I : InstAt s.heap x ox C od) (hb : Looks (model prog w) s.heap (typeOf b) tb) (hn : notFirst K C tb = true)
    (hs : findIn K (.ref C) "__ne__" = some (some (.builtin "object.__ne__"))) (ho : subIn K (.ref C) (.type "object") = some true) (he : findIn K (.ref C) "__eq__" = some (some (.ref f))) (hf : isFn K (.ref f) = true)
    (h : wpAny (model prog w) A.in1 (call (.ref f) [.ref x, b]) (fun v s' => ∃ r, v = .bool r ∧ Q (.bool (!r)) s') E s) : wpAny (model prog w) A (richCompare .NotEq (.ref x) b) Q E s := by
  have one : wpAny (model prog w) A (tryCompare (.ref x) (cmpInfo .NotEq).2.1 b) (fun r s' => ∃ v, r = some v ∧ Q v s') E s := by
    unfold tryCompare
    refine wpAny_bind (nk_ifBound_B X I hs F.cmp_object.ne (wpAny_call (codeAny_call_builtin F.cmp_object.ne.plain F.cmpEntry_ne
      (check_slot F.cmpKind_ne F.cmpSplit_ne (I.type.andThen (looks_subIn X ho)) (F.cmpArgs_ne _ _) (nk_objNe (A := A.in1) hu X I he hf (wpAny_mono h (fun v s' hv => ?_) fun _ _ e => e))))))
    obtain ⟨r, rfl, hq⟩ := hv
    exact ⟨r, rfl, wpAny_pure ⟨_, rfl, hq⟩⟩
  unfold richCompare
  simp only [oneThing_ref]
  refine wpAny_holding (wpAny_bind (wpAny_cRoomFor (by omega) ?_))
  refine wpAny_bind (I.type.here (wpAny_bind (hb.here ?_)))
  split
  · rename_i q
    have e : subIn K tb (.ref C) = some false := by
      rcases Bool.or_eq_true_iff.mp hn with e | e
      · rw [beq_iff_eq.mp e] at q; simp at q
      · exact beq_iff_eq.mp e
    refine wpAny_bind ((looks_subIn X e).here ?_)
    simp only [Bool.false_eq_true, if_false]
    refine wpAny_bind (wpAny_mono one (fun r s' z => ?_) fun _ _ e => e)
    obtain ⟨v, rfl, hq⟩ := z
    exact wpAny_pure hq
  · refine wpAny_bind (wpAny_pure ?_)
    simp only [Bool.false_eq_true, if_false]
    refine wpAny_bind (wpAny_mono one (fun r s' z => ?_) fun _ _ e => e)
    obtain ⟨v, rfl, hq⟩ := z
    exact wpAny_pure hq
end
end PySem.W
namespace Nk
open PySem PySem.Spec PyProof.Rows L2
structure EqC (K : PySem.W.Frag) (C f : Addr) : Prop where
  eq : PySem.W.findIn K (.ref C) "__eq__" = some (some (.ref f))
  ne : PySem.W.findIn K (.ref C) "__ne__" = some (some (.builtin "object.__ne__"))
  fn : PySem.W.isFn K (.ref f) = true
  obj : PySem.W.subIn K (.ref C) (.type "object") = some true
def noE : XK := fun _ _ _ => False
def rOwn (neg : Bool) (K : PySem.W.Frag) (C : Addr) (sp : Sp) : R2 := fun x y H Q => ∃ a dx fs tb, x = .ref a ∧ H a = some (.ins C dx fs) ∧ TyX K H y tb ∧ PySem.W.notFirst K C tb = true ∧ sp [x, y] H (fun v H' => ∃ b, v = .bl b ∧ Q (.bl (if neg then !b else b)) H') noE
section
variable {X : Cx} {k : Nat} {C f : Addr} {fd : FuncData} {ps : List Str} {sp : Sp}
theorem Env0.within {P : Program} {w : World} {K : PySem.W.Frag} {mg : Str → Option Value} {base : Heap} {A A' : Around} {outer : List Env} {s : Shared} {H : Hp} (e : Env0 P w K mg base A outer s H) (h : A'.frames = A.frames) : Env0 P w K mg base A' outer s H :=
  ⟨by rw [h]; exact e.frames, e.mod, e.bs, e.bsz, e.funs, e.frf, e.hok, e.bare⟩
theorem own_run {A : Around} {pins : List (Addr × Obj)} {σ : L2.St} {H : Hp} {s : Shared} {Q : VK} {vs : List V} {us : List Value} (F : FnOk X.prog X.w X.K X.mg X.base (L2.CX X.prog X.w) k f fd ps sp) (hb : Binds X.K fd ps []) (hr : Room k A) (hfr : A.frames = X.A.frames)
    (I : Inv X pins σ H s) (r : Vals vs us) (h : sp vs H Q noE) : wpAny (model X.prog X.w) A (call (.ref f) us) (EP X pins σ Q) X.xe s := by
  have hl : (us ++ []).length = ps.length := by rw [List.append_nil, ← r.length]; exact F.len _ _ _ _ h
  have b := hb s us I.kIn hl
  rw [List.append_nil] at b
  refine wpAny_call (codeAny_mono (F.run A X.stack s H ⟨us, []⟩ us vs Q noE hr (Env0.within I.env0 hfr) b r h) fun r s' hq => ?_)
  match r, hq with
  | .error e, hq => exact passes_call (W := fun _ _ _ _ => False) LamX.takes0 (fun _ _ _ _ z => z) pins σ H s e s' I hq
  | .ok (.ret u), hq => exact I.after hq
  | .ok .next, hq => exact False.elim hq
  | .ok .brk, hq => exact False.elim hq
  | .ok .cont, hq => exact False.elim hq
theorem op_eqO (T : EqC X.K C f) (F : FnOk X.prog X.w X.K X.mg X.base (L2.CX X.prog X.w) k f fd ps sp) (hb : Binds X.K fd ps []) (hr : Room k X.A) : OpR X (compareOp .Eq) (rOwn false X.K C sp) := by
  intro pins s σ H x y v u Q I rx ry h
  obtain ⟨a, dx, fs, tb, rfl, ea, ty, hn, hsp⟩ := h
  cases rx
  obtain ⟨mA, O, _⟩ := ins_get I.hok ea
  obtain ⟨od, J, _⟩ := O.look
  obtain ⟨φ, Z, p, _⟩ := kit_of I ry ty
  obtain ⟨m, hF⟩ := I.fr
  refine PySem.W.cmp_ofEq (PySem.W.cmp_K (op := .Eq) (tb := tb) hr.units0 hF I.ok.mod.kin J (Z.ty _ _ I.kIn p) hn T.eq T.fn ?_)
  refine wpAny_mono (own_run (vs := [.ref a, y]) F hb hr rfl I (.cons rfl (.cons ry .nil)) hsp) (fun v s' hv => ?_) fun _ _ z => z
  obtain ⟨z, H', I', rz, b, rfl, q⟩ := hv
  cases rz
  exact ⟨.bl b, H', I', rfl, q⟩
theorem op_neO (T : EqC X.K C f) (F : FnOk X.prog X.w X.K X.mg X.base (L2.CX X.prog X.w) k f fd ps sp) (hb : Binds X.K fd ps []) (hr : Room (k + 1) X.A) : OpR X (compareOp .NotEq) (rOwn true X.K C sp) := by
  intro pins s σ H x y v u Q I rx ry h
  obtain ⟨a, dx, fs, tb, rfl, ea, ty, hn, hsp⟩ := h
  cases rx
  obtain ⟨mA, O, _⟩ := ins_get I.hok ea
  obtain ⟨od, J, _⟩ := O.look
  obtain ⟨φ, Z, p, _⟩ := kit_of I ry ty
  refine PySem.W.cmp_ofNotEq (PySem.W.nk_ne (by have := hr.units; omega) I.kIn J (Z.ty _ _ I.kIn p) hn T.ne T.obj T.eq T.fn ?_)
  refine wpAny_mono (own_run (vs := [.ref a, y]) F hb hr.in1 rfl I (.cons rfl (.cons ry .nil)) hsp) (fun v s' hv => ?_) fun _ _ z => z
  obtain ⟨z, H', I', rz, b, rfl, q⟩ := hv
  cases rz
  exact ⟨b, rfl, .bl (!b), H', I', rfl, q⟩
def rStrO (C : Addr) (sp : Sp) : List V → Hp → VK → Prop := fun xs H Q => ∃ a dx fs, xs = [.ref a] ∧ H a = some (.ins C dx fs) ∧ sp [.ref a] H (fun v H' => ∃ z, v = .str z ∧ Q (.str z) H') noE
theorem call_strO (hs : PySem.W.findIn X.K (.ref C) "__str__" = some (some (.ref f))) (hf : PySem.W.isFn X.K (.ref f) = true) (F : FnOk X.prog X.w X.K X.mg X.base (L2.CX X.prog X.w) k f fd ps sp) (hb : Binds X.K fd ps []) (hr : Room (k + 2) X.A) : CallR X (.type "str") (rStrO C sp) := by
  intro pins s σ H xs us Q I r h
  obtain ⟨a, dx, fs, rfl, ea, hsp⟩ := h
  obtain ⟨u, rfl, ru⟩ := vals1 r
  cases ru
  obtain ⟨mA, O, _⟩ := ins_get I.hok ea
  obtain ⟨od, J, _⟩ := O.look
  refine PySem.W.kso_call (by have := hr.units; show X.A.units + 1 + 1 < cLine; omega) I.kIn J hs hf ?_
  refine wpAny_mono (own_run (vs := [.ref a]) F hb hr.in1.in1 rfl I (.cons rfl .nil) hsp) (fun v s' hv => ?_) fun _ _ z => z
  obtain ⟨z, H', I', rz, x, rfl, q⟩ := hv
  obtain ⟨t, rfl⟩ := rz
  exact ⟨.str x, H', I', ⟨t, rfl⟩, q⟩
end
end Nk
namespace Nk
open PySem PySem.Spec PyProof.Rows L2
def Fo (P : Program) (w : World) (K : PySem.W.Frag) (mg : Str → Option Value) (base : Heap) (f : Addr) (k : Nat) (ps : List Str) (sp : Sp) : Prop :=
  ∃ fd : FuncData, FnOk P w K mg base (L2.CX P w) k f fd ps sp ∧ Binds K fd ps []
theorem fo_mk {P : Program} {w : World} {K : PySem.W.Frag} {mg : Str → Option Value} {base : Heap} {x qual : Str} {st : Stmt} {f : Addr} {N ps : List Str} {k : Nat} {sp : Sp} (F : ∃ fd, FunD K x qual (defArgs st) (defBody st) (defScope st) [] [] f fd) (S : FnScope N ps (defScope st))
    (hb : ∀ (kV doc pm : Value) (an : Option Addr) (cdv ct : Value) (us : List Value), us.length = ps.length → bindArgs (PySem.W.fnOf x qual (defArgs st) (defBody st) (defScope st) .none kV doc pm an cdv ct) ⟨us, []⟩ = pure (ps.zip us))
    (len : ∀ vs H Q E, sp vs H Q E → vs.length = ps.length)
    (hbody : ∀ (cdv : Value) (A : Around) (outer : List Env) (s : Shared) (H : Hp) (vs : List V) (Q : VK) (E : XK), Room k (A.deeper (envOfC qual (defScope st) s.heap.objs.size f cdv)) → sp vs H Q E →
      ∃ t, PSs (cxOf (L2.CX P w) P w K mg base N qual (defScope st) f cdv A outer s H E) (defBody st) t ∧ t { nx := fun _ H' => Q .non H', rt := Q } (L2.start N vs) H) : Fo P w K mg base f (k + 1) ps sp := by
  obtain ⟨fd, F⟩ := F
  exact ⟨fd, F.ok S len hbody, F.bindsN hb⟩
def FoK (P : Program) (w : World) (K : PySem.W.Frag) (mg : Str → Option Value) (base : Heap) (f : Addr) (k : Nat) (ps : List Str) (sp : Sp) (n : Nat) (ks : List Str) (gV : List V → List V → List V) : Prop :=
  ∃ (fd : FuncData) (g : List Value → List Value → List Value), FnOk P w K mg base (L2.CX P w) k f fd ps sp ∧ KBn K fd ps n ks g gV
theorem fok_mk {P : Program} {w : World} {K : PySem.W.Frag} {mg : Str → Option Value} {base : Heap} {x qual : Str} {st : Stmt} {f : Addr} {ps ks : List Str} {k n : Nat} {sp : Sp} (g : {α : Type} → List α → List α → List α) (F : ∃ fd, FunD K x qual (defArgs st) (defBody st) (defScope st) [] [] f fd)
    (hrel : ∀ {vs zs : List V} {us ws : List Value}, Vals vs us → Vals zs ws → Vals (g vs zs) (g us ws))
    (hb : ∀ (kV doc pm : Value) (an : Option Addr) (cdv ct : Value) (us ws : List Value), us.length = n → ws.length = ks.length → bindArgs (PySem.W.fnOf x qual (defArgs st) (defBody st) (defScope st) .none kV doc pm an cdv ct) ⟨us, ks.zip ws⟩ = pure (ps.zip (g us ws)))
    (hfd : ∀ fd, FunD K x qual (defArgs st) (defBody st) (defScope st) [] [] f fd → FnOk P w K mg base (L2.CX P w) k f fd ps sp) : FoK P w K mg base f k ps sp n ks (fun us ws => g us ws) := by
  obtain ⟨fd, F⟩ := F
  obtain ⟨oc, od, dV, kV, doc, pm, an, cdv, ct, osl, e, lk, hcd, hD, hK⟩ := id F.ex
  rcases hD with ⟨_, rfl⟩ | ⟨z, _⟩
  · refine ⟨fd, fun us ws => g us ws, hfd fd F, ⟨fun s us ws X l1 l2 => ?_, fun r1 r2 => hrel r1 r2⟩⟩
    rw [e]
    exact .of_eq (hb kV doc pm an cdv ct us ws l1 l2)
  · exact absurd rfl z
section
variable {X : Cx} {k j n : Nat} {C f p g : Addr} {ps ks : List Str} {sp : Sp} {x : Str} {E : XK} {W : WX} {e : Expr} {es : List Expr} {kws : List Keyword} {t tk ta : TA} {te : TE} {p1 pos : Pos} {gV : List V → List V → List V}
theorem pe_pr (he : PE X e te) (c : Cls X.K C) (hp : PropOf X.K C x p g) (F : Fo X.prog X.w X.K X.mg X.base g k ps sp) (hr : Room j X.A) (hk : k + 1 ≤ j) (hab : attributeBase e x X.env (eval e X.env) = eval e X.env := by rfl) :
    PE X (.Attribute e x pos) (tProp C sp [] noE te) := by
  obtain ⟨fd, F, hb⟩ := F
  exact pe_prop he c hp F (hr.mono hk) hb .nil (passes_call (X := X.nox) (W := fun _ _ _ _ => False) LamX.takes0 fun _ _ _ _ z => z) hab
theorem op_eqF {K : PySem.W.Frag} (T : EqC K C f) (F : Fo X.prog X.w X.K X.mg X.base f k ps sp) (hr : Room j X.A) (hk : k ≤ j) (hK : X.K = K := by rfl) : OpR X (compareOp .Eq) (rOwn false K C sp) := by
  subst hK
  obtain ⟨fd, F, hb⟩ := F
  exact op_eqO T F hb (hr.mono hk)
theorem op_neF {K : PySem.W.Frag} (T : EqC K C f) (F : Fo X.prog X.w X.K X.mg X.base f k ps sp) (hr : Room j X.A) (hk : k + 1 ≤ j) (hK : X.K = K := by rfl) : OpR X (compareOp .NotEq) (rOwn true K C sp) := by
  subst hK
  obtain ⟨fd, F, hb⟩ := F
  exact op_neO T F hb (hr.mono hk)
theorem call_strF (hs : PySem.W.findIn X.K (.ref C) "__str__" = some (some (.ref f))) (hf : PySem.W.isFn X.K (.ref f) = true) (F : Fo X.prog X.w X.K X.mg X.base f k ps sp) (hr : Room j X.A) (hk : k + 2 ≤ j) : CallR X (.type "str") (rStrO C sp) := by
  obtain ⟨fd, F, hb⟩ := F
  exact call_strO hs hf F hb (hr.mono hk)
end
structure SupD (K : PySem.W.Frag) (name qual : Str) (st : Stmt) (f D : Addr) (file : Str) : Prop where
  ex : ∃ (oc : Value) (od : Option Addr) (dV kV doc pm : Value) (an : Option Addr) (cdv ct : Value) (osl : Array (Option Value)) (cc : Addr),
    K.lookup f = some ⟨oc, od, .func (PySem.W.ksFn name qual (defArgs st) (defBody st) (defScope st) dV kV doc pm an cdv ct cc), osl⟩ ∧ PySem.W.codeIn K cdv qual = true ∧ ClsCell K cc D ∧ dV = .none ∧
    ∃ cda ccl cdd vs ccs tf, cdv = .ref cda ∧ K.lookup cda = some ⟨ccl, cdd, .fields vs, ccs⟩ ∧ vs[2]? = some (.str file tf)
theorem SupD.ok {P : Program} {w : World} {K : PySem.W.Frag} {mg : Str → Option Value} {base : Heap} {k : Nat} {name qual file : Str} {st : Stmt} {f D : Addr} {N ps : List Str} {sp : Sp} {sf : Str} {ar : Arg} (F : SupD K name qual st f D file) (S : FnSup N ps (defScope st))
    (len : ∀ vs H Q E, sp vs H Q E → vs.length = ps.length)
    (hb : ∀ (kV doc pm : Value) (an : Option Addr) (cdv ct : Value) (cc : Addr) (us : List Value), us.length = ps.length → bindArgs (PySem.W.ksFn name qual (defArgs st) (defBody st) (defScope st) .none kV doc pm an cdv ct cc) ⟨us, []⟩ = pure (ps.zip us))
    (har : ((defArgs st).posonlyargs ++ (defArgs st).args).head? = some ar) (hsf : ar.arg = sf) (hfile : ((P.main.file : Str) == file) = true) (htop : (P.main.scope.names.lookup ("super" : Str)).isSome = false) (hmg : mg "super" = none)
    (sS : (defScope st).names.lookup ("super" : Str) = some .globalImplicit) (sC : (defScope st).names.lookup ("__class__" : Str) = some .free) (sX : (defScope st).names.lookup sf = some .local) (n0 : N[0]? = some sf) (hD : ∃ cd, PySem.W.clsIn K D = some cd)
    (hbody : ∀ (cc : Addr) (cdv : Value) (A : Around) (outer : List Env) (s : Shared) (H : Hp) (vs : List V) (Q : VK) (E : XK), SupAt (supCx (L2.CX P w) P w K mg base N qual (defScope st) f cdv cc A outer s H E) f cc D sf → Room k (A.deeper (supEnv qual (defScope st) s.heap.objs.size f cdv cc)) → sp vs H Q E →
      ∃ t, PScs (supCx (L2.CX P w) P w K mg base N qual (defScope st) f cdv cc A outer s H E) (.func (defBody st) (supEnv qual (defScope st) s.heap.objs.size f cdv cc)) (defBody st) t ∧ t { nx := fun _ H' => Q .non H', rt := Q } (L2.start N vs) H) :
    Fo P w K mg base f (k + 1) ps sp := by
  obtain ⟨oc, od, dV, kV, doc, pm, an, cdv, ct, osl, cc, lk, hcd, C, rfl, cda, ccl, cdd, vs0, ccs, tf, rfl, h2, h3⟩ := F.ex
  refine ⟨_, fn_sup lk hcd C S len fun A outer s H vs Q E hr hsp => hbody cc (.ref cda) A outer s H vs Q E ⟨⟨oc, od, _, osl, ar, lk, har, hsf⟩, ⟨cda, ccl, cdd, vs0, ccs, file, tf, rfl, h2, h3, hfile⟩, htop, hmg, rfl, C, ?_, sS, sC, sX, n0, hD⟩ hr hsp, fun s us X hl => ?_⟩
  · show List.lookup _ [_] = _
    simp [List.lookup]
  · rw [List.append_nil] at hl ⊢
    exact .of_eq (hb kV doc pm an (.ref cda) ct cc us hl)
def spExc1 (C : Addr) (fld : Str) : Sp := fun vs H Q _ => ∃ (a : Addr) (v : V), vs = [.ref a, v] ∧ H a = some (exo a C none) ∧ ∀ dx, H dx = none → dx ≠ a → Q .non (upd (upd H dx (exd dx [(fld, v)])) a (exo a C (some dx)))
section
variable {X : Cx} {k j : Nat} {C fI : Addr} {ps : List Str} {sp : Sp} {x : Str} {W : WX} {e : Expr} {es : List Expr} {ta : TA} {p pos : Pos}
theorem pmk_ex (T : OexC X.K C) (iC : PySem.W.findIn X.K (.ref C) "__init__" = some (some (.ref fI))) (tI : PySem.W.typeIn X.K (.ref fI) = some (.type "function")) (c : Fo X.prog X.w X.K X.mg X.base fI k ps sp) (hr : Room j X.A) (hk : k + 1 ≤ j) (hg : Gl X x) (hm : X.mg x = some (.ref C)) (ha : PA X (e :: es) ta)
    (hdb : (x == ("__debug__" : Str)) = false := by decide) (he : starEach (e :: es) X.env = (false, eval e X.env) :: starEach es X.env := by rfl) (hpl : (backTo pos (starEach es X.env)).any (·.1) = false := by rfl) : PMk X (.Call (.Name x p) (e :: es) [] pos) (tMkO C sp [] ta) := by
  obtain ⟨fd, F, hb⟩ := c
  exact pmk_oex T iC tI F (hr.mono hk) hb .nil (passes_call (W := fun _ _ _ _ => False) LamX.takes0 fun _ _ _ _ z => z) hg hm ha hdb he hpl
end
end Nk
namespace Nk
open PySem PySem.Spec PyProof.Rows L2
def H0 (K : PySem.W.Frag) (ts : List Addr) (a : Addr) (oa : Obj) (xs : List V) : Hp := fun b => if b ∈ ts then some (.tbl #[]) else if b = a ∧ K.lookup a = none then some (.frz oa (.lst xs)) else none
section
variable {K : PySem.W.Frag} {ts : List Addr} {a b : Addr} {oa : Obj} {xs : List V}
theorem h0_tab (h : b ∈ ts) : H0 K ts a oa xs b = some (.tbl #[]) := if_pos h
theorem h0_cases (b : Addr) : (b ∈ ts ∧ H0 K ts a oa xs b = some (.tbl #[])) ∨ (b ∉ ts ∧ b = a ∧ K.lookup a = none ∧ H0 K ts a oa xs b = some (.frz oa (.lst xs))) ∨ (b ∉ ts ∧ ¬ (b = a ∧ K.lookup a = none) ∧ H0 K ts a oa xs b = none) := by
  unfold H0
  by_cases h : b ∈ ts
  · exact .inl ⟨h, if_pos h⟩
  · rw [if_neg h]
    by_cases q : b = a ∧ K.lookup a = none
    · exact .inr (.inl ⟨h, q.1, q.2, if_pos q⟩)
    · exact .inr (.inr ⟨h, q, if_neg q⟩)
end
structure AtCall (K : PySem.W.Frag) (mg mb : Str → Option Value) (cs : List (Addr × Addr)) (s : Shared) (a : Addr) (vs : List Value) (ns : List Int) : Prop where
  KX : K.In s.heap
  glob : s.heap.Ns mainGlobals mg
  blt : s.heap.Ns builtinsNs mb
  boot : ∀ x : Str, x ≠ "__name__" → mb x = bootBuiltins x
  lim : s.heap.NoLimit
  gens : s.gens = #[]
  tab : ∀ p ∈ cs, s.heap.get? p.2 = some { cls := .none, data := .fields #[] }
  tabK : ∀ p ∈ cs, K.lookup p.2 = none
  code : ∀ p ∈ cs, PySem.W.CodeHd s.heap p.1 p.2
  bm : ∃ (bm : Addr) (ob : Obj), mg "__builtins__" = some (.ref bm) ∧ bm ≠ builtinsNs ∧ s.heap.get? bm = some ob ∧ ob.cls = .type "module" ∧ ob.dict = some builtinsNs ∧ ob.data = .plain
  at_ : s.heap.get? a = some { cls := .type "list", data := .seq vs.toArray }
  iz : IntsAre vs ns
  len : ns.length ≤ sizeLine
section
variable {P : Program} {w : World} {K : PySem.W.Frag} {mg mb : Str → Option Value} {cs : List (Addr × Addr)} {s : Shared} {a : Addr} {vs : List Value} {ns : List Int}
abbrev tsOf (cs : List (Addr × Addr)) : List Addr := cs.map (·.2)
abbrev HC (K : PySem.W.Frag) (cs : List (Addr × Addr)) (a : Addr) (vs : List Value) (ns : List Int) : Hp := H0 K (tsOf cs) a { cls := .type "list", data := .seq vs.toArray } (ns.map V.int)
theorem AtCall.ts (h : AtCall K mg mb cs s a vs ns) {b : Addr} (hb : b ∈ tsOf cs) : s.heap.get? b = some { cls := .none, data := .fields #[] } := by
  obtain ⟨p, hp, rfl⟩ := List.mem_map.mp hb
  exact h.tab p hp
theorem AtCall.off (h : AtCall K mg mb cs s a vs ns) : a ∉ tsOf cs := fun z => by
  have q := h.ts z
  rw [h.at_] at q
  cases q
theorem AtCall.script (h : AtCall K mg mb cs s a vs ns) : SqL K (HC K cs a vs ns) a (ns.map V.int) := by
  have rv := vals_ints h.iz
  rcases h0_cases (K := K) (ts := tsOf cs) (a := a) (oa := { cls := .type "list", data := .seq vs.toArray }) (xs := ns.map V.int) a with ⟨z, _⟩ | ⟨_, _, _, e⟩ | ⟨_, n, _⟩
  · exact absurd z h.off
  · exact .inl (.inr ⟨_, e⟩)
  · cases hk : K.lookup a with
    | none => exact absurd ⟨rfl, hk⟩ n
    | some o =>
      have e := h.KX a o hk
      rw [h.at_] at e
      cases e
      exact .inr ⟨_, vs.toArray, _, hk, rfl, rfl, rfl, by rw [List.size_toArray, h.iz.length]; exact h.len, by simpa using rv⟩
theorem AtCall.hok (h : AtCall K mg mb cs s a vs ns) : HOk P w (HC K cs a vs ns) s.heap := fun b u e => by
  have rv := vals_ints h.iz
  rcases h0_cases (K := K) (ts := tsOf cs) (a := a) (oa := { cls := .type "list", data := .seq vs.toArray }) (xs := ns.map V.int) b with ⟨z, q⟩ | ⟨_, eb, _, q⟩ | ⟨_, _, q⟩
  · cases q.symm.trans e
    exact h.ts z
  · cases q.symm.trans e
    subst eb
    exact ⟨h.at_, by rw [List.length_map]; exact h.len, vs, _, rv, h.at_⟩
  · cases q.symm.trans e
theorem AtCall.none_ (h : AtCall K mg mb cs s a vs ns) {b : Addr} {o : Obj} (e : s.heap.get? b = some o) (h1 : ∀ v n, o.data ≠ .seq v n) (h2 : o.data ≠ .fields #[]) : HC K cs a vs ns b = none := by
  rcases h0_cases (K := K) (ts := tsOf cs) (a := a) (oa := { cls := .type "list", data := .seq vs.toArray }) (xs := ns.map V.int) b with ⟨z, _⟩ | ⟨_, eb, _, _⟩ | ⟨_, _, q⟩
  · have q := h.ts z
    rw [e] at q
    cases q
    exact absurd rfl h2
  · subst eb
    have q := h.at_
    rw [e] at q
    cases q
    exact absurd rfl (h1 _ _)
  · exact q
abbrev baseOf (K : PySem.W.Frag) (cs : List (Addr × Addr)) (s : Shared) (a : Addr) (vs : List Value) (ns : List Int) : Heap := hidT s.heap (HC K cs a vs ns)
theorem AtCall.base (h : AtCall K mg mb cs s a vs ns) {b : Addr} {o : Obj} (e : s.heap.get? b = some o) (h1 : ∀ v n, o.data ≠ .seq v n) (h2 : o.data ≠ .fields #[]) : (baseOf K cs s a vs ns).get? b = some o := hidT_get e (h.none_ e h1 h2)
theorem AtCall.nsB (h : AtCall K mg mb cs s a vs ns) {b : Addr} {m : Str → Option Value} (n : s.heap.Ns b m) : (baseOf K cs s a vs ns).Ns b m := by
  obtain ⟨o, es, ep, e, d, r⟩ := n
  exact ⟨o, es, ep, h.base e (fun v n z => by rw [d] at z; cases z) (fun z => by rw [d] at z; cases z), d, r⟩
theorem AtCall.kin (h : AtCall K mg mb cs s a vs ns) : K.In (baseOf K cs s a vs ns) := fun b o e => by
  refine hidT_get (h.KX b o e) ?_
  rcases h0_cases (K := K) (ts := tsOf cs) (a := a) (oa := { cls := .type "list", data := .seq vs.toArray }) (xs := ns.map V.int) b with ⟨z, _⟩ | ⟨_, eb, hk, _⟩ | ⟨_, _, q⟩
  · obtain ⟨p, hp, rfl⟩ := List.mem_map.mp z
    rw [h.tabK p hp] at e
    cases e
  · rw [eb, hk] at e
    cases e
  · exact q
theorem AtCall.mod (h : AtCall K mg mb cs s a vs ns) : L2.Mod K mg (baseOf K cs s a vs ns) := by
  obtain ⟨mc, h1, h2⟩ := h.lim
  exact ⟨h.kin, h.nsB h.glob, ⟨mb, h.nsB h.blt, h.boot⟩, ⟨mc, h.nsB h1, h2⟩⟩
theorem AtCall.env0 (h : AtCall K mg mb cs s a vs ns) : Env0 P w K mg (baseOf K cs s a vs ns) callerA [] s (HC K cs a vs ns) :=
  ⟨rfl, h.mod, fun b o e => of_hidT e, Nat.le_of_eq (hidT_size _ _), trivial, (fun b hb => nomatch (show b ∈ ([] : List Addr) from hb)), h.hok, .of_eq h.gens⟩
theorem AtCall.tabB (h : AtCall K mg mb cs s a vs ns) : ∀ p ∈ cs, LamX.TabB (baseOf K cs s a vs ns) mg p.1 p.2 := fun p hp => by
  have hTp := h.tab p hp
  refine ⟨?_, ?_, fun z => ?_⟩
  · obtain ⟨o, us, file, tf, flags, tg, inF, text, tt, e1, r1, r2, r3, r⟩ := h.code p hp
    refine ⟨o, us, file, tf, flags, tg, inF, text, tt, h.base e1 (fun v n z => by rw [r2] at z; cases z) (fun z => ?_), r1, r2, r3, r⟩
    rw [r2] at z
    cases z
    cases r3
  · obtain ⟨bm, ob, b1, b2, b3, b4, b5, b6⟩ := h.bm
    refine ⟨bm, ob, b1, b2, fun q => ?_, fun q => ?_, h.base b3 (fun v n z => by rw [b6] at z; cases z) (fun z => by rw [b6] at z; cases z), b4, b5, b6⟩
    · obtain ⟨o, es, ep, e, hd, _⟩ := h.glob
      rw [q, e] at b3
      cases b3
      rw [hd] at b6
      cases b6
    · rw [q, hTp] at b3
      cases b3
      cases b6
  · obtain ⟨o, es, ep, e, hd, _⟩ := h.glob
    rw [z, hTp] at e
    cases e
    cases hd
theorem AtCall.old (h : AtCall K mg mb cs s a vs ns) {H' : Hp} {s' : Shared} (un : Un (frs []) [] (HC K cs a vs ns) H' s.heap s'.heap) (hok : HOk P w H' s'.heap) : OldK s.heap s'.heap := by
  have keep : ∀ b o, b ∉ tsOf cs → s.heap.get? b = some o → s'.heap.get? b = some o := fun b o nb e => by
    rcases h0_cases (K := K) (ts := tsOf cs) (a := a) (oa := { cls := .type "list", data := .seq vs.toArray }) (xs := ns.map V.int) b with ⟨z, _⟩ | ⟨_, eb, _, q⟩ | ⟨_, _, q⟩
    · exact absurd z nb
    · obtain ⟨e2, _⟩ := hok b _ (un.frzs b _ _ q)
      subst eb
      rw [h.at_] at e
      cases e
      exact e2
    · exact un.keep b o e q (fun z => by cases (show b ∈ ([] : List Addr) from z)) (fun z => by cases z)
  have grown : ∀ p ∈ cs, ∃ more : Array Value, s'.heap.get? p.2 = some { cls := .none, data := .fields more } := fun p hp => by
    obtain ⟨more, z⟩ := un.tbls p.2 #[] (h0_tab (List.mem_map.mpr ⟨p, hp, rfl⟩))
    exact ⟨_, hok p.2 _ z⟩
  refine ⟨fun b o e => ?_, fun b o e => ?_⟩
  · by_cases hb : b ∈ tsOf cs
    · obtain ⟨p, hp, rfl⟩ := List.mem_map.mp hb
      obtain ⟨more, hm⟩ := grown p hp
      rw [h.tab p hp] at e
      cases e
      exact .inr (.inl ⟨((h.code p hp).tab (h.tab p hp)).isCodeTable, rfl, #[], more, rfl, by rw [Array.empty_append]; exact hm⟩)
    · exact .inl (keep b o hb e)
  · by_cases hb : b ∈ tsOf cs
    · obtain ⟨p, hp, rfl⟩ := List.mem_map.mp hb
      obtain ⟨more, hm⟩ := grown p hp
      exact ⟨_, hm⟩
    · exact ⟨o, keep b o hb e⟩
theorem law_callG {k : Nat} {fa : Addr} {fd : FuncData} {x : Str} {sp : Sp} (h : AtCall K mg mb cs s a vs ns) (hr : Room k callerA)
    (F : ∀ base : Heap, K.In base → base.Ns mainGlobals mg → (∀ p ∈ cs, LamX.TabB base mg p.1 p.2) → FnG P w K mg base (L2.CX P w) k fa fd [x] sp) (hbind : ∀ (s : Shared) (u : Value), BindsTo s fd ⟨[u], []⟩ [(x, u)])
    (hsp : ∀ H : Hp, (∀ p ∈ cs, H p.2 = some (.tbl #[])) → SqL K H a (ns.map V.int) → sp [.ref a] H (fun v _ => v = .bl true) fun _ _ _ => False) :
    codeAny (model P w) callerA (.call (.ref fa) ⟨[.ref a], []⟩) (fun r s' => r = .ok (.ret (.bool true)) ∧ OldK s.heap s'.heap ∧ s'.os = s.os ∧ AllBare s'.gens) s := by
  refine codeAny_mono ((F _ h.kin (h.nsB h.glob) h.tabB).run callerA [] s _ ⟨[.ref a], []⟩ [.ref a] [.ref a] _ _ rfl hr h.env0 (hbind s (.ref a)) (.cons rfl .nil) (hsp _ (fun p hp => h0_tab (List.mem_map.mpr ⟨p, hp, rfl⟩)) h.script)) fun r s' hq => ?_
  match r, hq with
  | .error e, hq =>
    obtain ⟨_, _, _, _, _, _, _, _, _, _, _, _, z⟩ := hq
    exact z.elim
  | .ok (.ret u), ⟨v, H', os, bare, un, hok', r', q⟩ =>
    have q : v = .bl true := q
    subst q
    cases r'
    exact ⟨rfl, h.old un hok', os, bare⟩
  | .ok .next, hq => exact False.elim hq
  | .ok .brk, hq => exact False.elim hq
  | .ok .cont, hq => exact False.elim hq
end
def LawG (P : Program) (w : World) (K : PySem.W.Frag) (k n : Nat) (x : Str) (mg : Str → Option Value) (fa : Addr) (h : Heap) : Prop :=
  ∃ (fd : FuncData) (cs : List (Addr × Addr)) (sp : Sp), (∀ p ∈ cs, h.get? p.2 = some { cls := .none, data := .fields #[] }) ∧ (∀ p ∈ cs, K.lookup p.2 = none) ∧ (∀ p ∈ cs, PySem.W.CodeHd h p.1 p.2) ∧ (∀ (s : Shared) (u : Value), BindsTo s fd ⟨[u], []⟩ [(x, u)]) ∧
    (∀ (H : Hp) (a : Addr) (ns : List Int), ns.length ≤ n → (∀ z ∈ ns, Builtin.Int.intBits z ≤ 1048576) → (∀ p ∈ cs, H p.2 = some (.tbl #[])) → SqL K H a (ns.map V.int) → sp [.ref a] H (fun v _ => v = .bl true) fun _ _ _ => False) ∧
    ∀ base : Heap, K.In base → base.Ns mainGlobals mg → (∀ p ∈ cs, LamX.TabB base mg p.1 p.2) → FnG P w K mg base (L2.CX P w) k fa fd [x] sp
theorem walk_ofG {l : PySem.W.OpenLaw} {n k : Nat} {q : Program} {loose : List Str} {XP : (Str → Option Value) → Heap → Prop} {YP : World → Heap → Prop} {d : DefRec} {x : Str} (hn : l.most = some n) (hn2 : n ≤ sizeLine) (hdf : d.params.defaults = []) (hr : Room k callerA)
    (F : ∀ (w : World) (mg : Str → Option Value) (fa : Addr) (h : Heap), YP w h → h.Ns mainGlobals mg → mg d.name = some (.ref fa) → ∃ K : PySem.W.Frag, K.In h ∧ LawG l.prog w K k n x mg fa h) :
    PySem.W.WalkO q loose XP YP l.row.toRowW d [] (fun f vs => PySem.call f vs) := by
  refine Att.attach_callB hn hdf fun w s₀ s₁ mg mb fa o pm cd doc a vs ns G Y ho hd hcd hmg hobj hints hlen hbits hg => ?_
  obtain ⟨K, KX, fd, cs, sp, hT, nT, C, hb, hsp, hF⟩ := F w mg fa _ Y G.T.g hmg
  exact law_callG ⟨KX, G.T.g, G.T.b, G.T.builtins, G.T.nolimit, hg, hT, nT, C, G.T.bmain, hobj, hints, Nat.le_trans hlen hn2⟩ hr hF hb fun H hH hS => hsp H a ns hlen hbits hH hS
structure DefA where
  at_ : PySem.W.Frag → Addr
  name : Str
  qual : Str
  st : Stmt
  cap : Option (PySem.W.Frag → Addr) := none
  dfl : List He.Dv := []
def DefA.dvs (K : PySem.W.Frag) (d : DefA) : List V := d.dfl.map (He.Dv.v K)
abbrev FnS : Type := Option (Str × Str × Arguments × FuncBody × Scope × Addr × List Str × Addr)
def fnS (K : PySem.W.Frag) (f : Addr) : FnS := match K.lookup f with
  | some ⟨_, _, .func fd, _⟩ => some (fd.name, fd.qualname, fd.params, fd.body, fd.scope, fd.globals, fd.closure.map (·.1), fd.builtins)
  | _ => none
def DefA.val (d : DefA) : FnS := some (d.name, d.qual, defArgs d.st, .stmts (defBody d.st), defScope d.st, mainGlobals, (if d.cap.isSome then [("__class__" : Str)] else []), builtinsNs)
def capB (K : PySem.W.Frag) (file : Str) (fd : FuncData) (D : Addr) : Bool := (match fd.closure with
  | [(_, cc)] => (match K.lookup cc with
    | some ⟨_, _, .cell (some (.ref E)), _⟩ => decide (E = D)
    | _ => false)
  | _ => false) && (match fd.code with
  | .ref c => (match K.lookup c with
    | some ⟨_, _, .fields vs, _⟩ => (match (vs[2]? : Option Value) with
      | some (.str f _) => decide (f = file)
      | _ => false)
    | _ => false)
  | _ => false)
def DefA.ok (K : PySem.W.Frag) (file : Str) (d : DefA) : Bool := PySem.W.keepIn K (.ref (d.at_ K)) && (match K.lookup (d.at_ K) with
  | some ⟨_, _, .func fd, _⟩ => PySem.W.codeIn K fd.code d.qual && (He.dflB K fd.defaults (d.dvs K) && (He.kwdB K fd.kwdefaults [] && (match d.cap with
    | none => true
    | some D => capB K file fd (D K))))
  | _ => false)
theorem DefA.funD {K : PySem.W.Frag} {file : Str} {d : DefA} (e : fnS K (d.at_ K) = d.val) (c : d.ok K file = true) (hn : d.cap = none) : ∃ fd, FunD K d.name d.qual (defArgs d.st) (defBody d.st) (defScope d.st) (d.dvs K) [] (d.at_ K) fd := by
  obtain ⟨kp, c2⟩ := He.ba c
  unfold fnS at e
  cases q : K.lookup (d.at_ K) with
  | none => rw [q] at c2; cases c2
  | some o =>
    obtain ⟨oc, od, dt, osl⟩ := o
    rw [q] at c2 e
    cases dt with
    | func fd =>
      obtain ⟨n1, n2, n3, n4, n5, n6, n7, n8, n9, n10, n11, n12, n13, n14, n15⟩ := fd
      unfold DefA.val at e
      rw [hn] at e
      have e2 : (some (n1, n2, n3, n4, n5, n6, n7.map (·.1), n15) : FnS) = some (d.name, d.qual, defArgs d.st, .stmts (defBody d.st), defScope d.st, mainGlobals, [], builtinsNs) := e
      simp only [Option.some.injEq, Prod.mk.injEq, List.map_eq_nil_iff] at e2
      obtain ⟨h1, h2, h3, h4, h5, h6, h7, h8⟩ := e2
      subst h1 h2 h3 h4 h5 h6 h7 h8
      obtain ⟨k1, k2⟩ := He.ba c2
      obtain ⟨k3, k4⟩ := He.ba k2
      obtain ⟨k5, _⟩ := He.ba k4
      exact ⟨_, ⟨oc, od, n8, n9, n10, n11, n12, n13, n14, osl, rfl, q, k1, He.dflB_ok k3, He.kwdB_ok k5⟩, kp⟩
    | _ => cases c2
theorem DefA.supD {K : PySem.W.Frag} {file : Str} {d : DefA} {D : PySem.W.Frag → Addr} (e : fnS K (d.at_ K) = d.val) (c : d.ok K file = true) (hn : d.cap = some D) (h0 : d.dfl = []) : SupD K d.name d.qual d.st (d.at_ K) (D K) file := by
  obtain ⟨kp, c2⟩ := He.ba c
  unfold fnS at e
  cases q : K.lookup (d.at_ K) with
  | none => rw [q] at c2; cases c2
  | some o =>
    obtain ⟨oc, od, dt, osl⟩ := o
    rw [q] at c2 e
    cases dt with
    | func fd =>
      obtain ⟨n1, n2, n3, n4, n5, n6, n7, n8, n9, n10, n11, n12, n13, n14, n15⟩ := fd
      unfold DefA.val at e
      rw [hn] at e
      have e2 : (some (n1, n2, n3, n4, n5, n6, n7.map (·.1), n15) : FnS) = some (d.name, d.qual, defArgs d.st, .stmts (defBody d.st), defScope d.st, mainGlobals, [("__class__" : Str)], builtinsNs) := e
      simp only [Option.some.injEq, Prod.mk.injEq] at e2
      obtain ⟨h1, h2, h3, h4, h5, h6, h7, h8⟩ := e2
      subst h1 h2 h3 h4 h5 h6 h8
      obtain ⟨k1, k2⟩ := He.ba c2
      obtain ⟨k3, k4⟩ := He.ba k2
      obtain ⟨k5, k6⟩ := He.ba k4
      rw [hn] at k6
      obtain ⟨k7, k8⟩ := He.ba k6
      match n7, h7, k7 with
      | [(cn, cc)], h7, k7 =>
        have ec : cn = "__class__" := by simpa using h7
        subst ec
        have C : ClsCell K cc (D K) := by
          have k7' : (match K.lookup cc with
            | some ⟨_, _, .cell (some (.ref E)), _⟩ => decide (E = D K)
            | _ => false) = true := k7
          split at k7'
          · rename_i c' d' E sl z
            rw [of_decide_eq_true k7'] at z
            exact ⟨_, _, _, z⟩
          · cases k7'
        have eD : n8 = .none := by
          rcases He.dflB_ok k3 with ⟨_, z⟩ | ⟨z, _⟩
          · exact z
          · exact absurd (by unfold DefA.dvs; rw [h0]; rfl) z
        obtain ⟨cda, rfl⟩ := He.codeIn_ref k1
        have k9 : (match K.lookup cda with
            | some ⟨_, _, .fields vs, _⟩ => (match (vs[2]? : Option Value) with
              | some (.str f _) => decide (f = file)
              | _ => false)
            | _ => false) = true := k8
        refine ⟨oc, od, n8, n9, n10, n11, n12, .ref cda, n14, osl, cc, q, k1, C, eD, cda, ?_⟩
        split at k9
        · rename_i c' d' vs sl z
          split at k9
          · rename_i f tf z2
            rw [of_decide_eq_true k9] at z2
            exact ⟨_, _, _, _, _, rfl, z, z2⟩
          · cases k9
        · cases k9
    | _ => cases c2
abbrev AlN : Type := List FnS × Bool
structure SaysN (ds : List DefA) (file : Str) (tf : List He.Defn) (ex : PySem.W.Frag → Bool) (h : Heap) (K : PySem.W.Frag) : Prop where
  fn : ∀ d ∈ ds, fnS K (d.at_ K) = d.val
  ok : ∀ d ∈ ds, d.ok K file = true
  more : ex K = true
  hd : ∀ p ∈ tf, PySem.W.codeHdIn K (He.cT K p).1 (He.cT K p).2 = true
  out : ∀ p ∈ tf, K.lookup (He.cT K p).2 = none
  empty : ∀ p ∈ tf, h.get? (He.cT K p).2 = some { cls := .none, data := .fields #[] }
def valN (ds : List DefA) : AlN := (ds.map DefA.val, true)
theorem SaysN.fun_ {ds : List DefA} {file : Str} {tf : List He.Defn} {ex : PySem.W.Frag → Bool} {h : Heap} {K : PySem.W.Frag} (c : SaysN ds file tf ex h K) {d : DefA} (hd : d ∈ ds) (hn : d.cap = none) : ∃ fd, FunD K d.name d.qual (defArgs d.st) (defBody d.st) (defScope d.st) (d.dvs K) [] (d.at_ K) fd := DefA.funD (c.fn d hd) (c.ok d hd) hn
theorem SaysN.sup {ds : List DefA} {file : Str} {tf : List He.Defn} {ex : PySem.W.Frag → Bool} {h : Heap} {K : PySem.W.Frag} (c : SaysN ds file tf ex h K) {d : DefA} {D : PySem.W.Frag → Addr} (hd : d ∈ ds) (hn : d.cap = some D) (h0 : d.dfl = []) : SupD K d.name d.qual d.st (d.at_ K) (D K) file := DefA.supD (c.fn d hd) (c.ok d hd) hn h0
def oexB (K : PySem.W.Frag) (C : Addr) : Bool := (match K.lookup C with
  | some ⟨.type "type", _, .cls cd, sl⟩ => (match cd.mro, sl.toList with
    | .ref C' :: bm, [_, _, _, _, some (.builtin n), _] => C' == C && (n == "ValueError.__new__" && (!cd.hasDel && (cd.hasDict && PySem.HandSPX.refsVE bm)))
    | _, _ => false)
  | _ => false) && (He.eqO (PySem.W.findIn K (.ref C) "__setattr__") (some (some (.builtin "object.__setattr__"))) && (decide (PySem.W.subIn K (.ref C) (.type "BaseException") = some true) && (decide (PySem.W.typeIn K (.ref C) = some (.type "type")) && PySem.W.keepIn K (.ref C))))
theorem oexB_ok {K : PySem.W.Frag} {C : Addr} (h : oexB K C = true) : OexC K C := by
  obtain ⟨h1, h⟩ := He.ba h
  obtain ⟨h2, h⟩ := He.ba h
  obtain ⟨h3, h⟩ := He.ba h
  obtain ⟨h4, h5⟩ := He.ba h
  refine ⟨?_, He.eqO_ok h2, of_decide_eq_true h3, of_decide_eq_true h4, h5⟩
  split at h1
  · rename_i dd cd sl ho
    split at h1
    · rename_i C' bm k0 k1 k2 k3 n k5 hm hs
      simp only [Bool.and_eq_true, beq_iff_eq, Bool.not_eq_true'] at h1
      obtain ⟨rfl, rfl, hdel, hdict, ht⟩ := h1
      obtain ⟨nm, bs, mro, ns, qn, hd, sn, sub, ab, col, del⟩ := cd
      dsimp only at hm hdel hdict
      subst hm hdel hdict
      have hsl : sl = #[k0, k1, k2, k3, some (.builtin "ValueError.__new__"), k5] := by
        obtain ⟨l⟩ := sl
        simp only at hs
        rw [hs]
      subst hsl
      exact ⟨nm, qn, ns, bs, bm, sn, sub, ab, col, dd, k0, k1, k2, k3, k5, ho, ht⟩
    · cases h1
  · cases h1
def supB (K : PySem.W.Frag) (C : Addr) : Bool := oexB K C && (He.eqO (PySem.W.ks_superIn K C C "__init__") (some (some (.builtin "ValueError.__init__"))) && (decide (PySem.W.mroIn K C (.ref C) = some true) && (decide (PySem.W.subIn K (.ref C) (.type "ValueError") = some true) && He.eqO (PySem.W.nsIn K cStatics "thirdparty.any") (some none))))
theorem supB_ok {K : PySem.W.Frag} {C : Addr} (h : supB K C = true) : SupX K C := by
  obtain ⟨h1, h⟩ := He.ba h
  obtain ⟨h2, h⟩ := He.ba h
  obtain ⟨h3, h⟩ := He.ba h
  obtain ⟨h4, h5⟩ := He.ba h
  exact ⟨oexB_ok h1, He.eqO_ok h2, of_decide_eq_true h3, of_decide_eq_true h4, He.eqO_ok h5⟩
def clsInB (K : PySem.W.Frag) (C : Addr) : Bool := (PySem.W.clsIn K C).isSome
theorem clsInB_ok {K : PySem.W.Frag} {C : Addr} (h : clsInB K C = true) : ∃ cd, PySem.W.clsIn K C = some cd := Option.isSome_iff_exists.mp h
def getOf (K : PySem.W.Frag) (C : Addr) (m : Str) : Addr := match PySem.W.recIn K (He.ma K C m) "property" with
  | some (.ref g :: _) => g
  | _ => 0
def propB (K : PySem.W.Frag) (C : Addr) (m : Str) : Bool := He.eqO (PySem.W.findIn K (.ref C) m) (some (some (.ref (He.ma K C m)))) && (He.eqO (PySem.W.specialIn K (.ref (He.ma K C m)) "__get__") (some (some (.builtin "property.__get__"))) && (decide (PySem.W.takesIn K (.ref (He.ma K C m)) = some true) && (match PySem.W.recIn K (He.ma K C m) "property" with
  | some (.ref _ :: _) => true
  | _ => false)))
theorem propB_ok {K : PySem.W.Frag} {C : Addr} {m : Str} (h : propB K C m = true) : PropOf K C m (He.ma K C m) (getOf K C m) := by
  obtain ⟨h1, h⟩ := He.ba h
  obtain ⟨h2, h⟩ := He.ba h
  obtain ⟨h3, h4⟩ := He.ba h
  refine ⟨He.eqO_ok h1, He.eqO_ok h2, of_decide_eq_true h3, ?_⟩
  unfold getOf
  split at h4
  · rename_i g r e
    rw [e]
    exact ⟨r, rfl⟩
  · cases h4
def eqCB (K : PySem.W.Frag) (C : Addr) : Bool := He.eqO (PySem.W.findIn K (.ref C) "__eq__") (some (some (.ref (He.ma K C "__eq__")))) && (He.eqO (PySem.W.findIn K (.ref C) "__ne__") (some (some (.builtin "object.__ne__"))) && (PySem.W.isFn K (.ref (He.ma K C "__eq__")) && decide (PySem.W.subIn K (.ref C) (.type "object") = some true)))
theorem eqCB_ok {K : PySem.W.Frag} {C : Addr} (h : eqCB K C = true) : EqC K C (He.ma K C "__eq__") := by
  obtain ⟨h1, h⟩ := He.ba h
  obtain ⟨h2, h⟩ := He.ba h
  obtain ⟨h3, h4⟩ := He.ba h
  exact ⟨He.eqO_ok h1, He.eqO_ok h2, h3, of_decide_eq_true h4⟩
structure InsC (K : PySem.W.Frag) (C : Addr) : Prop where
  ha : PySem.W.findIn K (.ref C) "__class__" = some (some (.builtin "object.__class__"))
  hn : PySem.W.specialIn K (.builtin "object.__class__") "__get__" = some (some (.builtin "getset_descriptor.__get__"))
  ht : PySem.W.takesIn K (.builtin "object.__class__") = some true
  hm : PySem.W.mroIn K C (.type "object") = some true
def insB (K : PySem.W.Frag) (C : Addr) : Bool := He.eqO (PySem.W.findIn K (.ref C) "__class__") (some (some (.builtin "object.__class__"))) && (He.eqO (PySem.W.specialIn K (.builtin "object.__class__") "__get__") (some (some (.builtin "getset_descriptor.__get__"))) && (decide (PySem.W.takesIn K (.builtin "object.__class__") = some true) && decide (PySem.W.mroIn K C (.type "object") = some true)))
theorem insB_ok {K : PySem.W.Frag} {C : Addr} (h : insB K C = true) : InsC K C := by
  obtain ⟨h1, h⟩ := He.ba h
  obtain ⟨h2, h⟩ := He.ba h
  obtain ⟨h3, h4⟩ := He.ba h
  exact ⟨He.eqO_ok h1, He.eqO_ok h2, of_decide_eq_true h3, of_decide_eq_true h4⟩
structure OwnM (K : PySem.W.Frag) (C : Addr) (m : Str) (f : Addr) : Prop where
  at_ : PySem.W.findIn K (.ref C) m = some (some (.ref f))
  fn : PySem.W.isFn K (.ref f) = true
def ownMB (K : PySem.W.Frag) (C : Addr) (m : Str) : Bool := He.eqO (PySem.W.findIn K (.ref C) m) (some (some (.ref (He.ma K C m)))) && PySem.W.isFn K (.ref (He.ma K C m))
theorem ownMB_ok {K : PySem.W.Frag} {C : Addr} {m : Str} (h : ownMB K C m = true) : OwnM K C m (He.ma K C m) := by
  obtain ⟨h1, h2⟩ := He.ba h
  exact ⟨He.eqO_ok h1, h2⟩
def cmOf (K : PySem.W.Frag) (C : Addr) (m : Str) : Addr := match PySem.W.recIn K (He.ma K C m) "classmethod" with
  | some (.ref f :: _) => f
  | _ => 0
def cmB (K : PySem.W.Frag) (C : Addr) (m : Str) : Bool := (match PySem.W.findCls K (.ref C) (.type "type") m with
  | some (.get (.builtin g) (.ref p) .none (.ref D)) => decide (g = "classmethod.__get__") && (decide (p = He.ma K C m) && decide (D = C))
  | _ => false) && ((match PySem.W.recIn K (He.ma K C m) "classmethod" with
  | some (.ref _ :: _) => true
  | _ => false) && PySem.W.fnIn K (cmOf K C m))
theorem cmB_ok {K : PySem.W.Frag} {C : Addr} {m : Str} (h : cmB K C m = true) : ClX.CMet K C (.type "type") m (He.ma K C m) (cmOf K C m) := by
  obtain ⟨h1, h⟩ := He.ba h
  obtain ⟨h2, h3⟩ := He.ba h
  refine ⟨?_, ?_, h3⟩
  · split at h1
    · rename_i g p D e
      obtain ⟨k1, k⟩ := He.ba h1
      obtain ⟨k2, k3⟩ := He.ba k
      rw [e, of_decide_eq_true k1, of_decide_eq_true k2, of_decide_eq_true k3]
    · cases h1
  · unfold cmOf
    split at h2
    · rename_i f r e
      exact ⟨r, by rw [e]⟩
    · cases h2
def creadB (K : PySem.W.Frag) (C : Addr) : Bool := PySem.W.readsIn K C (.type "type") && He.eqO (PySem.W.specialIn K (.ref C) "__getattribute__") (some (some (.builtin "type.__getattribute__")))
theorem creadB_ok {K : PySem.W.Frag} {C : Addr} (h : creadB K C = true) : ClX.CRead K C (.type "type") := by
  obtain ⟨h1, h2⟩ := He.ba h
  exact ⟨h1, He.eqO_ok h2⟩
end Nk
namespace Nk
open PySem PySem.Spec PyProof.Rows L2 StX
abbrev Fs (P : Program) (w : World) (K : PySem.W.Frag) (mg : Str → Option Value) (base : Heap) (f : Addr) (k : Nat) (sp : Sp) : Prop := FnR P w K mg base (L2.CX P w) k f sp
def starSp (n : Nat) (sp : Sp) : Sp := fun vs H Q E => ∃ ws rest, vs = ws ++ rest ∧ ws.length = n ∧ rest.length ≤ sizeLine ∧ ∀ p, H p = none → sp (ws ++ [V.ref p]) (upd H p (.tup rest)) Q E
theorem fs_of {P : Program} {w : World} {K : PySem.W.Frag} {mg : Str → Option Value} {base : Heap} {f : Addr} {k : Nat} {ps : List Str} {sp : Sp} (c : Fo P w K mg base f k ps sp) : Fs P w K mg base f k sp := by
  obtain ⟨fd, F, hb⟩ := c
  refine fun A outer s H us vs Q E hr e0 r hsp => ?_
  have KX : K.In s.heap := e0.mod.kin.keeps fun b o e => (e0.bs b o e).1
  have b := hb s us KX (by rw [List.append_nil, ← r.length]; exact F.len _ _ _ _ hsp)
  rw [List.append_nil] at b
  exact F.run A outer s H ⟨us, []⟩ us vs Q E hr e0 b r hsp
end Nk
namespace Nk
open PySem PySem.Spec PyProof.Rows L2
def exK (cls : Value) (d : Option Addr) (a : Addr) : HO := .ext fun h => ∃ (oe : Obj) (vs : Array Value), h.get? a = some oe ∧ Zc cls d oe ∧ oe.data = .fields vs
end Nk
namespace Nk
open PySem PySem.Spec PyProof.Rows L2 StX
def rAlt (r r' : R2) : R2 := fun x y H Q => r x y H Q ∨ r' x y H Q
theorem op_alt {X : Cx} {o : Value → Value → Sem Value} {r r' : R2} (h1 : OpR X o r) (h2 : OpR X o r') : OpR X o (rAlt r r') := fun pins s σ H x y v u Q I rx ry h => h.elim (h1 pins s σ H x y v u Q I rx ry) (h2 pins s σ H x y v u Q I rx ry)
def rLenO (C : Addr) (sp : Sp) : List V → Hp → VK → Prop := fun xs H Q => ∃ a dx fs, xs = [.ref a] ∧ H a = some (.ins C dx fs) ∧ sp [.ref a] H (fun v H' => ∃ n : Int, v = .int n ∧ 0 ≤ n ∧ n < 2 ^ 63 ∧ Q (.int n) H') noE
section
variable {X : Cx} {k j : Nat} {C f : Addr} {ps : List Str} {sp : Sp} {K : PySem.W.Frag}
theorem call_lenO (T : OwnM X.K C "__len__" f) (F : Fo X.prog X.w X.K X.mg X.base f k ps sp) (hr : Room j X.A) (hk : k + 1 ≤ j) : CallR X (.builtin "len") (rLenO C sp) := by
  intro pins s σ H xs us Q I r h
  obtain ⟨a, dx, fs, rfl, ea, hsp⟩ := h
  obtain ⟨u, rfl, ru⟩ := vals1 r
  cases ru
  obtain ⟨fd, F, hb⟩ := F
  obtain ⟨mA, O, _⟩ := ins_get I.hok ea
  obtain ⟨od, J, _⟩ := O.look
  obtain ⟨m, hF⟩ := I.fr
  refine PySem.W.len_K hF I.ok.mod.kin J T.at_ T.fn ?_
  refine wpAny_mono (own_run (vs := [.ref a]) F hb (hr.mono hk).in1 rfl I (.cons rfl .nil) hsp) (fun v s' hv => ?_) fun _ _ z => z
  obtain ⟨z, H', I', rz, n, rfl, h0, h1, q⟩ := hv
  obtain ⟨t, rfl⟩ := rz
  exact ⟨⟨h0, h1⟩, .int n, H', I'.tok _, ⟨_, rfl⟩, q⟩
end
def Nl (H H' : Hp) : Prop := ∀ b o, H b = some o → (∀ xs, o ≠ .lst xs) → (∀ ps, o ≠ .tbl ps) → H' b = some o
section
variable {H H' H2 : Hp} {D a : Addr} {xs ys : List V} {K : PySem.W.Frag}
theorem Nl.refl (H : Hp) : Nl H H := fun _ _ h _ _ => h
theorem Nl.trans (h : Nl H H') (g : Nl H' H2) : Nl H H2 := fun b o e n m => g b o (h b o e n m) n m
theorem Nl.same (h : Same H H') : Nl H H' := fun b o e _ _ => h b o e
theorem Nl.ext (h : LamX.ExtN H H') : Nl H H' := fun b o e _ m => h b o e m
theorem Nl.kp {p c : Addr} {ns : List Int} {n : Nat} (P : Pen H p c ns n) (k : Kp p H H') : Nl H H' := fun b o e n _ => k b o e (P.off e n)
theorem Nl.put (n : Nl H H') (h : H' D = some (.lst xs)) : Nl H (upd H' D (.lst ys)) := fun b o e n1 n2 => by
  have h1 := n b o e n1 n2
  rw [upd_ne (fun z => by rw [z, h] at h1; exact n1 _ (Option.some.inj h1).symm)]
  exact h1
theorem Nl.new {o : HO} (n : Nl H H') (h : H' D = none) : Nl H (upd H' D o) := fun b u e n1 n2 => by
  rw [upd_ne (ne_of_none (n b u e n1 n2) h)]
  exact n b u e n1 n2
end
end Nk
namespace Sh
open PySem PySem.Spec PyProof.Rows L2 Nk StX
section
variable {X : Cx} {k j : Nat} {C f g p : Addr} {sp : Sp} {W : WX} {x m : Str} {e o : Expr} {es : List Expr} {te ta tf : TE} {t : TA} {p0 p1 pos apos : Pos}
theorem run_fnA {pins : List (Addr × Obj)} {σ : L2.St} {H : Hp} {s : Shared} {E : XK} {Q : VK} {us : List Value} {vs : List V} (F : Fs X.prog X.w X.K X.mg X.base f k sp) (hr : Room k X.A) (hx : PassesAt (L2.CX X.prog X.w) X σ E) (I : Inv X pins σ H s) (r : Vals vs us) (h : sp vs H Q E) :
    codeAny (model X.prog X.w) X.A (.call (.ref f) ⟨us, []⟩) (fun r s' => match r with | .ok (.ret v) => EP X pins σ Q v s' | .ok _ => False | .error e => X.xe e s') s := by
  refine codeAny_mono (F X.A X.stack s H us vs Q E hr I.env0 r h) fun r s' hq => ?_
  cases r with
  | error e => exact hx pins H s e s' I hq
  | ok fl =>
    cases fl with
    | ret u => exact I.after hq
    | next => exact False.elim hq
    | brk => exact False.elim hq
    | cont => exact False.elim hq
theorem run_makeA {pins : List (Addr × Obj)} {σ : L2.St} {H : Hp} {s : Shared} {E : XK} {Q : VK} {us : List Value} {vs : List V} (M : Mk X.K C f) (F : Fs X.prog X.w X.K X.mg X.base f k sp) (hr : Room (k + 1) X.A) (hx : PassesAt (L2.CX X.prog X.w) X σ E) (I : Inv X pins σ H s) (r : Vals vs us)
    (h : ∀ x dx, H x = Option.none → H dx = Option.none → dx ≠ x → sp (V.ref x :: vs) (upd (upd H dx (.own x)) x (.ins C dx [])) (fun v H2 => v = .non ∧ Q (.ref x) H2) E) :
    wpAny (model X.prog X.w) X.A (call (.ref C) us) (EP X pins σ Q) X.xe s := by
  have hq := h (s.heap.objs.size + 1) s.heap.objs.size (I.hok.fresh (Nat.le_succ _)) (I.hok.fresh (Nat.le_refl _)) (Nat.ne_of_lt (Nat.lt_succ_self _))
  have I2 := Inv.made (C := C) I
  have r2 : Vals (V.ref (s.heap.objs.size + 1) :: vs) (Value.ref (s.heap.objs.size + 1) :: us) := .cons rfl r
  refine wpAny_call (make_map (f := f) I.kIn M.makes M.init (beq_iff_eq.mp M.fn) (codeAny_mono (F _ X.stack _ _ (Value.ref (s.heap.objs.size + 1) :: us) _ _ E (hr.make C us []) (I2.env0.make C us []) r2 hq) fun r s' hq' => ?_))
  cases r with
  | error e => exact hx pins _ _ e s' I2 hq'
  | ok fl =>
    cases fl with
    | ret u =>
      obtain ⟨v, H', I3, rv, ev, q3⟩ := I2.after hq'
      subst ev
      exact ⟨rv, ⟨V.ref (s.heap.objs.size + 1), H', I3, rfl, q3⟩⟩
    | next => exact False.elim hq'
    | brk => exact False.elim hq'
    | cont => exact False.elim hq'
def tMkW (C : Addr) (sp : Sp) (W : WX) (tf : TE) (t : TA) : TE := fun σ H Q => tf σ H fun y H1 => y = .ref C ∧ t σ H1 fun vs H2 => ∀ x dx, H2 x = none → H2 dx = none → dx ≠ x →
  sp (.ref x :: vs) (upd (upd H2 dx (.own x)) x (.ins C dx [])) (fun v H3 => v = .non ∧ Q (.ref x) H3) (WE W σ)
theorem pe_clsW (hf : PE X (.Name x p1) tf) (M : Mk X.K C f) (F : Fs X.prog X.w X.K X.mg X.base f k sp) (hr : Room j X.A) (hk : k + 1 ≤ j) (tk : Takes X W) (ha : PA X (e :: es) t)
    (he : starEach (e :: es) X.env = (false, eval e X.env) :: starEach es X.env := by rfl) (hpl : (backTo pos (starEach es X.env)).any (·.1) = false := by rfl) : PE X (.Call (.Name x p1) (e :: es) [] pos) (tMkW C sp W tf t) := by
  refine ⟨fun pins s σ H Q I h => wpAny_Call_Name_kw (thn (hf.run pins s σ H _ I h) fun u s1 ⟨y, H1, I1, ry, ey, q⟩ => ?_)⟩
  subst ey
  obtain rfl : u = Value.ref C := ry
  refine PySem.W.callWith_K (h₀ := X.base) I.ok.mod.kin M.kp (thn (ha.run pos pins s1 σ H1 _ I1 q) fun us s2 ⟨vs, H2, I2, r, q2⟩ => ⟨I2.kIn, ?_⟩) he hpl
  exact run_makeA M F (hr.mono hk) (passAt tk σ) I2 r q2
theorem pe_clsW0 (hf : PE X (.Name x p1) tf) (M : Mk X.K C f) (F : Fs X.prog X.w X.K X.mg X.base f k sp) (hr : Room j X.A) (hk : k + 1 ≤ j) (tk : Takes X W) : PE X (.Call (.Name x p1) [] [] pos) (tMkW C sp W tf tNil) := by
  refine ⟨fun pins s σ H Q I h => wpAny_Call_Name_kw (thn (hf.run pins s σ H _ I h) fun u s1 ⟨y, H1, I1, ry, ey, q⟩ => ?_)⟩
  subst ey
  obtain rfl : u = Value.ref C := ry
  exact PySem.W.callWith_K0 I1.kIn M.kp (run_makeA (us := []) M F (hr.mono hk) (passAt tk σ) I1 .nil q)
def tMeW (C : Addr) (m : Str) (sp : Sp) (W : WX) (ta : TE) (t : TA) : TE := fun σ H Q => ta σ H fun x H1 => ∃ a dx fs, x = .ref a ∧ H1 a = some (.ins C dx fs) ∧ fs.lookup m = none ∧ t σ H1 fun vs H2 => sp (x :: vs) H2 Q (WE W σ)
theorem pe_meW {pl : Sem Bool} (he : PE X o ta) (c : Cls X.K C) (hm : Meth X.K C m f) (F : Fs X.prog X.w X.K X.mg X.base f k sp) (hr : Room j X.A) (hk : k ≤ j) (tk : Takes X W) (ha : PA X (e :: es) t)
    (hst : starEach (e :: es) X.env = (false, eval e X.env) :: starEach es X.env := by rfl) (hpl : (backTo pos (starEach es X.env)).any (·.1) = false := by rfl)
    (ht : eval (.Call (.Attribute o m apos) (e :: es) [] pos) X.env = (do
      let ov ← eval o X.env
      standAt apos.atName
      let (f, first) ← holding [ov] (getMethod ov m pl)
      callWith pos f first (backTo pos (starEach (e :: es) X.env)) (backToKw pos (keywordEach [] X.env))) := by rfl) :
    PE X (.Call (.Attribute o m apos) (e :: es) [] pos) (tMeW C m sp W ta t) := by
  refine ⟨fun pins s σ H Q I h => ?_⟩
  refine PySem.W.methodCall_KW (pl := pl) (thn (he.run pins s σ H _ I h) fun u s1 ⟨x, H1, I1, rx, a, dx, fs, ex, ea, l, q⟩ => ?_) ht
  subst ex
  obtain rfl : u = Value.ref a := rx
  refine getmeth_ok I1 ea c hm l ?_
  refine PySem.W.callWith_K (first := [.ref a]) (h₀ := X.base) I.ok.mod.kin hm.kp (thn (ha.run pos pins s1 σ H1 _ I1 q) fun us s2 ⟨vs, H2, I2, r, q2⟩ => ⟨I2.kIn, ?_⟩) hst hpl
  exact wpAny_call (run_fnA (us := .ref a :: us) (vs := .ref a :: vs) F (hr.mono hk) (passAt tk σ) I2 (.cons rfl r) q2)
end
end Sh
namespace Sh
open PySem PySem.Spec PyProof.Rows L2 Nk StX
section
variable {X : Cx} {k j : Nat} {C f g p : Addr} {sp : Sp} {W : WX} {x m : Str} {e o : Expr} {es : List Expr} {te ta tf : TE} {t : TA} {p0 p1 pos apos : Pos} {mc : Value} {pl : Sem Bool}
theorem run_cmA {pins : List (Addr × Obj)} {σ : L2.St} {H : Hp} {s : Shared} {q : Addr} {E : XK} {Q : VK} {us : List Value} {vs : List V} (F : Fs X.prog X.w X.K X.mg X.base g k sp) (hr : Room k X.A) (hx : PassesAt (L2.CX X.prog X.w) X σ E) (I : Inv X ((q, PySem.W.methodObj (.ref g) (.ref C)) :: pins) σ H s)
    (r : Vals vs us) (h : sp (.ref C :: vs) H Q E) : wpAny (model X.prog X.w) X.A (call (.ref q) us) (EP X pins σ Q) X.xe s := by
  have z : wpAny (model X.prog X.w) X.A (call (.ref q) us) (EP X ((q, PySem.W.methodObj (.ref g) (.ref C)) :: pins) σ Q) X.xe s :=
    wpAny_call (PySem.W.method_call (ClX.pin_at I) (run_fnA (us := .ref C :: us) (vs := .ref C :: vs) F hr hx I (.cons rfl r) h))
  exact thn z fun _ _ y => ClX.unpinE y
def tCmW (C : Addr) (sp : Sp) (W : WX) (ta : TE) (t : TA) : TE := fun σ H Q => ta σ H fun x H1 => x = .ref C ∧ t σ H1 fun vs H2 => sp (.ref C :: vs) H2 Q (WE W σ)
theorem pe_cmW (he : PE X o ta) (r : ClX.CRead X.K C mc) (c : ClX.CMet X.K C mc m p g) (F : Fs X.prog X.w X.K X.mg X.base g k sp) (hr : Room j X.A) (hk : k ≤ j) (tk : Takes X W) (ha : PA X (e :: es) t)
    (hst : starEach (e :: es) X.env = (false, eval e X.env) :: starEach es X.env := by rfl) (hpl : (backTo pos (starEach es X.env)).any (·.1) = false := by rfl)
    (ht : eval (.Call (.Attribute o m apos) (e :: es) [] pos) X.env = (do
      let ov ← eval o X.env
      standAt apos.atName
      let (f, first) ← holding [ov] (getMethod ov m pl)
      callWith pos f first (backTo pos (starEach (e :: es) X.env)) (backToKw pos (keywordEach [] X.env))) := by rfl) :
    PE X (.Call (.Attribute o m apos) (e :: es) [] pos) (tCmW C sp W ta t) := by
  refine ⟨fun pins s σ H Q I h => ?_⟩
  refine PySem.W.methodCall_KW (pl := pl) (thn (he.run pins s σ H _ I h) fun u s1 ⟨x, H1, I1, rx, ex, q⟩ => ?_) ht
  subst ex
  obtain rfl : u = Value.ref C := rx
  refine ClX.getmethcm_ok I1 r c fun s2 I2 => ?_
  refine ClX.callwith_cm I2 (ClX.base_none I1 (Nat.le_refl _)) c.fi (thn (ha.run pos _ s2 σ H1 _ I2 q) fun us s3 ⟨vs, H2, I3, rv, q2⟩ => ⟨⟨ClX.pin_at I3, I3.kIn⟩, ?_⟩) hst hpl
  exact run_cmA F (hr.mono hk) (passAt tk σ) I3 rv q2
end
end Sh
namespace Nk
open PySem PySem.Spec PyProof.Rows L2 StX
structure CFn (K : PySem.W.Frag) (C : Addr) (m : Str) (f : Addr) : Prop where
  at_ : PySem.W.findCls K (.ref C) (.type "type") m = some (.val (.ref f)) ∨ ∃ p rest, PySem.W.findCls K (.ref C) (.type "type") m = some (.get (.builtin "staticmethod.__get__") (.ref p) .none (.ref C)) ∧ PySem.W.recIn K p "staticmethod" = some (.ref f :: rest)
  kp : PySem.W.keepIn K (.ref f) = true
section
variable {X : Cx} {pins : List (Addr × Obj)} {σ : L2.St} {H : Hp} {s : Shared} {C f : Addr} {m : Str} {A : Around} {E : Value → Shared → Prop}
theorem getmethcf_ok {pl : Sem Bool} {Q : Value × List Value → Shared → Prop} (I : Inv X pins σ H s) (r : ClX.CRead X.K C (.type "type")) (k : CFn X.K C m f)
    (h : ∀ s', Inv X pins σ H s' → Q (.ref f, []) s') : wpAny (model X.prog X.w) A (getMethod (.ref C) m pl) Q E s := by
  refine PySem.W.method_cls I.kIn r.ga ?_
  rcases k.at_ with e | ⟨p, rest, e, hp⟩
  · exact PySem.W.cls_value I.kIn r.rd e rfl (h _ (I.tok _))
  · exact PySem.W.cls_bind I.kIn r.rd e (wpAny_call (PySem.W.sm_get (s := { s with toks := s.toks + 1 }) I.kIn hp (PySem.W.handed_on rfl (h _ (I.tok _)))))
end
section
variable {X : Cx} {k j : Nat} {C f : Addr} {sp : Sp} {W : WX} {m : Str} {e o : Expr} {es : List Expr} {ta : TE} {t : TA} {pos apos : Pos} {pl : Sem Bool}
def tCfW (C : Addr) (sp : Sp) (W : WX) (ta : TE) (t : TA) : TE := fun σ H Q => ta σ H fun x H1 => x = .ref C ∧ t σ H1 fun vs H2 => sp vs H2 Q (WE W σ)
theorem pe_cfW0 (he : PE X o ta) (r : ClX.CRead X.K C (.type "type")) (c : CFn X.K C m f) (F : Fs X.prog X.w X.K X.mg X.base f k sp) (hr : Room j X.A) (hk : k ≤ j) (tk : Takes X W)
    (ht : eval (.Call (.Attribute o m apos) [] [] pos) X.env = (do
      let ov ← eval o X.env
      standAt apos.atName
      let (f, first) ← holding [ov] (getMethod ov m pl)
      callWith pos f first (backTo pos (starEach [] X.env)) (backToKw pos (keywordEach [] X.env))) := by rfl) :
    PE X (.Call (.Attribute o m apos) [] [] pos) (tCfW C sp W ta tNil) := by
  refine ⟨fun pins s σ H Q I h => ?_⟩
  refine PySem.W.methodCall_KW (pl := pl) (thn (he.run pins s σ H _ I h) fun u s1 ⟨x, H1, I1, rx, ex, q⟩ => ?_) ht
  subst ex
  obtain rfl : u = Value.ref C := rx
  refine getmethcf_ok I1 r c fun s2 I2 => ?_
  exact PySem.W.callWith_K0 (first := []) I2.kIn c.kp (wpAny_call (Sh.run_fnA (us := []) (vs := []) F (hr.mono hk) (passAt tk σ) I2 .nil q))
end
def cfB (K : PySem.W.Frag) (C : Addr) (m : Str) (f : Addr) : Bool := (match PySem.W.findCls K (.ref C) (.type "type") m with
  | some (.val v) => v == .ref f
  | some (.get g (.ref p) ob (.ref C2)) => g == .builtin "staticmethod.__get__" && (ob == .none && (C2 == C && match PySem.W.recIn K p "staticmethod" with
    | some (v :: _) => v == .ref f
    | _ => false))
  | _ => false) && PySem.W.keepIn K (.ref f)
theorem cfB_ok {K : PySem.W.Frag} {C f : Addr} {m : Str} (h : cfB K C m f = true) : CFn K C m f := by
  unfold cfB at h
  obtain ⟨h1, h2⟩ := He.ba h
  refine ⟨?_, h2⟩
  split at h1
  · rename_i v e
    rw [beq_iff_eq] at h1
    exact .inl (by rw [e, h1])
  · rename_i g p ob C2 e
    obtain ⟨a, h1⟩ := He.ba h1
    obtain ⟨b, h1⟩ := He.ba h1
    obtain ⟨c, h1⟩ := He.ba h1
    split at h1
    · rename_i v rest e2
      rw [beq_iff_eq] at a b c h1
      exact .inr ⟨p, rest, by rw [e, a, b, c], by rw [e2, h1]⟩
    · cases h1
  · cases h1
end Nk
namespace Nk
open PySem PySem.Spec PyProof.Rows L2 StX
def tLockS (t : TS) : TS := fun D σ H => ∃ d u, H d = some u ∧ Mut (some u) ∧ ∀ od, t D σ (upd H d (.frz od u))
def tLockV (t : TE) : TE := fun σ H Q => t σ H fun v H1 => ∃ d u, v = .ref d ∧ H1 d = some u ∧ Mut (some u) ∧ ∀ od, Q v (upd H1 d (.frz od u))
section
variable {X : Cx}
theorem ps_lockS {st : Stmt} {t : TS} (h : PS X st t) : PS X st (tLockS t) := by
  refine ⟨fun pins s σ H D I hw => ?_⟩
  obtain ⟨d, u, hd, mu, hw⟩ := hw
  obtain ⟨od, I1⟩ := I.lock hd mu
  exact h.run pins s σ _ D I1 (hw od)
theorem pe_lockV {e : Expr} {t : TE} (h : PE X e t) : PE X e (tLockV t) := by
  refine ⟨fun pins s σ H Q I hw => ?_⟩
  refine thn (h.run pins s σ H _ I hw) fun v s1 ⟨x, H1, I1, r, d, u, e, hd, mu, q⟩ => ?_
  obtain ⟨od, I2⟩ := I1.lock hd mu
  exact ⟨x, _, I2, r, q od⟩
theorem call_lenDR : CallR X (.builtin "len") (fun xs H Q => ∃ a kvs, xs = [V.ref a] ∧ Rd H a (.dK kvs) ∧ Q (.int kvs.length) H) := by
  intro pins s σ H xs us Q I r q
  obtain ⟨a, kvs, rfl, hd, q⟩ := q
  cases r with
  | cons r0 r1 =>
    cases r1
    rename_i u
    obtain rfl : u = Value.ref a := r0
    exact d_len I hd fun t s' I' => ⟨.int kvs.length, H, I', ⟨t, rfl⟩, q⟩
end
end Nk
namespace Nk
open PySem PySem.Spec PySem.Calls PyProof.Rows L2 StX
section
variable {X : Cx}
theorem pss_lockS {sts : List Stmt} {t : TS} (h : PSs X sts t) : PSs X sts (tLockS t) := by
  refine ⟨fun pins s σ H D I hw => ?_⟩
  obtain ⟨d, u, hd, mu, hw⟩ := hw
  obtain ⟨od, I1⟩ := I.lock hd mu
  exact h.run pins s σ _ D I1 (hw od)
theorem pss_any {sts : List Stmt} : PSs X sts (fun D σ H => ∃ t, PSs X sts t ∧ t D σ H) :=
  ⟨fun pins s σ H D I hw => by obtain ⟨t, p, h⟩ := hw; exact p.run pins s σ H D I h⟩
end
def kwdSp (sp : Sp) : Sp := fun vs H Q E => ∀ d, H d = none → ∀ od, sp (vs ++ [V.ref d]) (upd H d (.frz od (.dK []))) Q E
theorem fs_starkw {P : Program} {w : World} {K : PySem.W.Frag} {mg : Str → Option Value} {base : Heap} {x qual pv pd : Str} {st : Stmt} {f : Addr} {N ps : List Str} {k : Nat} {sp : Sp} (F : ∃ fd, FunD K x qual (defArgs st) (defBody st) (defScope st) [] [] f fd) (S : FnScope N (ps ++ [pv, pd]) (defScope st))
    (hb : ∀ (kV doc pm : Value) (an : Option Addr) (cdv ct : Value) (us rest : List Value), us.length = ps.length → bindArgs (PySem.W.fnOf x qual (defArgs st) (defBody st) (defScope st) .none kV doc pm an cdv ct) ⟨us ++ rest, []⟩ =
      (newTuple rest >>= fun t => (alloc ({ cls := .type "dict", data := .dict #[] } : Obj) : Sem Addr) >>= fun d => pure (ps.zip us ++ [(pv, t), (pd, Value.ref d)])))
    (hbody : ∀ (cdv : Value) (A : Around) (outer : List Env) (s : Shared) (H : Hp) (E : XK), Room k (A.deeper (envOfC qual (defScope st) s.heap.objs.size f cdv)) → ∀ (vs : List V) (H' : Hp) (Q : VK), sp vs H' Q E →
      ∃ t, PSs (cxOf (L2.CX P w) P w K mg base N qual (defScope st) f cdv A outer s H E) (defBody st) t ∧ t { nx := fun _ H' => Q .non H', rt := Q } (L2.start N vs) H') : Fs P w K mg base f (k + 1) (starSp ps.length (kwdSp sp)) := by
  obtain ⟨fd, F⟩ := F
  obtain ⟨oc, od, dV, kV, doc, pm, an, cdv, ct, osl, rfl, lk, hcd, hD, _⟩ := F.ex
  rcases hD with ⟨_, rfl⟩ | ⟨z, _⟩
  · refine fun A outer s H us vs Q E hr e0 r hsp => fn_starkw (sp := fun vs H Q E => ∃ ws d H0, vs = ws ++ [V.ref d] ∧ H0 d = none ∧ H = upd H0 d (.dK []) ∧ ∀ od, sp (ws ++ [V.ref d]) (upd H0 d (.frz od (.dK []))) Q E) lk hcd S cxUp (fun us rest hl => hb kV doc pm an cdv ct us rest hl) (fun A outer s H vs Q E hr hsp => ?_) A outer s H us vs Q E hr e0 r ?_
    · obtain ⟨ws, d, H0, rfl, hd, rfl, q⟩ := hsp
      refine ⟨_, pss_lockS pss_any, d, _, upd_same, True.intro, fun od => ?_⟩
      rw [upd_upd]
      exact hbody cdv A outer s _ E hr _ _ Q (q od)
    · obtain ⟨ws, rest, rfl, hl, hz, q⟩ := hsp
      refine ⟨ws, rest, rfl, hl, hz, fun p d hp hd hne => ⟨ws ++ [V.ref p], d, _, by rw [List.append_assoc]; rfl, ?_, rfl, q p hp d ?_⟩⟩
      · rw [upd_ne hne]; exact hd
      · rw [upd_ne hne]; exact hd
  · exact absurd rfl z
theorem bind_starkw1 {B : List Value → Sem (List (Str × Value))} {p1 pv pd : Str} (h0 : ∀ a, B [a] = (newTuple [] >>= fun t => (alloc ({ cls := .type "dict", data := .dict #[] } : Obj) : Sem Addr) >>= fun d => pure [(p1, a), (pv, t), (pd, Value.ref d)])) (h1 : ∀ a r rs, B (a :: r :: rs) = (newTuple (r :: rs) >>= fun t => (alloc ({ cls := .type "dict", data := .dict #[] } : Obj) : Sem Addr) >>= fun d => pure [(p1, a), (pv, t), (pd, Value.ref d)])) :
    ∀ us rest : List Value, us.length = [p1].length → B (us ++ rest) = (newTuple rest >>= fun t => (alloc ({ cls := .type "dict", data := .dict #[] } : Obj) : Sem Addr) >>= fun d => pure ([p1].zip us ++ [(pv, t), (pd, Value.ref d)]))
  | [a], [], _ => h0 a
  | [a], r :: rs, _ => h1 a r rs
end Nk
namespace Nk
open PySem PySem.Spec
def smOf (K : PySem.W.Frag) (C : Addr) (m : Str) : Addr := match PySem.W.recIn K (He.ma K C m) "staticmethod" with
  | some (.ref f :: _) => f
  | _ => 0
end Nk
namespace Nk
open PySem PySem.Spec PyProof.Rows L2
def topS (i : Nat) : Stmt := PySem.Challenge.pw_nextkind_k02_houses_made.main.body.getD i (.Pass ⟨0, 0, 0, 0⟩)
abbrev PP : Program := PySem.Challenge.pw_nextkind_k02_houses_made
def tys : List String := ["NoneType", "bool", "int", "str", "list", "tuple", "dict"]
abbrev s_BadName_init : Stmt := inClass (topS 3) 0
theorem sc_BadName_init : FnSup ["self", "value"] ["self", "value"] (defScope s_BadName_init) := fnSup_by (by decide +kernel)
abbrev s_BadNumber_init : Stmt := inClass (topS 4) 0
theorem sc_BadNumber_init : FnSup ["self", "value"] ["self", "value"] (defScope s_BadNumber_init) := fnSup_by (by decide +kernel)
abbrev s_BadTable_init : Stmt := inClass (topS 5) 0
theorem sc_BadTable_init : FnSup ["self", "value"] ["self", "value"] (defScope s_BadTable_init) := fnSup_by (by decide +kernel)
abbrev s_is_integer : Stmt := topS 14
theorem sc_is_integer : FnScope ["value"] ["value"] (defScope s_is_integer) := ⟨rfl, rfl, rfl, by decide +kernel, rfl, by decide +kernel, by decide +kernel⟩
abbrev s_is_within : Stmt := topS 15
theorem sc_is_within : FnScope ["value", "least", "most"] ["value", "least", "most"] (defScope s_is_within) := ⟨rfl, rfl, rfl, by decide +kernel, rfl, by decide +kernel, by decide +kernel⟩
abbrev s_is_number : Stmt := topS 16
theorem sc_is_number : FnScope ["value"] ["value"] (defScope s_is_number) := ⟨rfl, rfl, rfl, by decide +kernel, rfl, by decide +kernel, by decide +kernel⟩
abbrev s_is_name : Stmt := topS 17
theorem sc_is_name : FnScope ["value", "letter"] ["value"] (defScope s_is_name) := ⟨rfl, rfl, rfl, by decide +kernel, rfl, by decide +kernel, by decide +kernel⟩
abbrev s_need_name : Stmt := topS 18
theorem sc_need_name : FnScope ["value"] ["value"] (defScope s_need_name) := ⟨rfl, rfl, rfl, by decide +kernel, rfl, by decide +kernel, by decide +kernel⟩
abbrev s_need_number : Stmt := topS 19
theorem sc_need_number : FnScope ["value"] ["value"] (defScope s_need_number) := ⟨rfl, rfl, rfl, by decide +kernel, rfl, by decide +kernel, by decide +kernel⟩
abbrev s_numbers_of : Stmt := topS 24
theorem sc_numbers_of : FnScope ["table", "key", "names", "name"] ["table"] (defScope s_numbers_of) := ⟨rfl, rfl, rfl, by decide +kernel, rfl, by decide +kernel, by decide +kernel⟩
abbrev s_House_init : Stmt := inClass (topS 26) 1
theorem sc_House_init : FnScope ["self", "tables", "places", "names", "name"] ["self", "tables", "places"] (defScope s_House_init) := ⟨rfl, rfl, rfl, by decide +kernel, rfl, by decide +kernel, by decide +kernel⟩
abbrev s_House_of : Stmt := inClass (topS 26) 2
theorem sc_House_of : FnScope ["cls", "table"] ["cls", "table"] (defScope s_House_of) := ⟨rfl, rfl, rfl, by decide +kernel, rfl, by decide +kernel, by decide +kernel⟩
abbrev s_House_none : Stmt := inClass (topS 26) 3
theorem sc_House_none : FnScope [] [] (defScope s_House_none) := ⟨rfl, rfl, rfl, by decide +kernel, rfl, by decide +kernel, by decide +kernel⟩
abbrev s_House_put : Stmt := inClass (topS 26) 7
theorem sc_House_put : FnScope ["self", "bay", "number"] ["self", "bay", "number"] (defScope s_House_put) := ⟨rfl, rfl, rfl, by decide +kernel, rfl, by decide +kernel, by decide +kernel⟩
abbrev s_House_bays : Stmt := inClass (topS 26) 5
theorem sc_House_bays : FnScope ["self", "bay"] ["self"] (defScope s_House_bays) := ⟨rfl, rfl, rfl, by decide +kernel, rfl, by decide +kernel, by decide +kernel⟩
abbrev s_House_total : Stmt := inClass (topS 26) 6
theorem sc_House_total : FnScope ["self", "bay"] ["self"] (defScope s_House_total) := ⟨rfl, rfl, rfl, by decide +kernel, rfl, by decide +kernel, by decide +kernel⟩
abbrev s_House_getitem : Stmt := inClass (topS 26) 10
theorem sc_House_getitem : FnScope ["self", "bay"] ["self", "bay"] (defScope s_House_getitem) := ⟨rfl, rfl, rfl, by decide +kernel, rfl, by decide +kernel, by decide +kernel⟩
abbrev s_House_contains : Stmt := inClass (topS 26) 11
theorem sc_House_contains : FnScope ["self", "bay"] ["self", "bay"] (defScope s_House_contains) := ⟨rfl, rfl, rfl, by decide +kernel, rfl, by decide +kernel, by decide +kernel⟩
abbrev s_House_len : Stmt := inClass (topS 26) 13
theorem sc_House_len : FnScope ["self"] ["self"] (defScope s_House_len) := ⟨rfl, rfl, rfl, by decide +kernel, rfl, by decide +kernel, by decide +kernel⟩
abbrev s_House_bool : Stmt := inClass (topS 26) 14
theorem sc_House_bool : FnScope ["self"] ["self"] (defScope s_House_bool) := ⟨rfl, rfl, rfl, by decide +kernel, rfl, by decide +kernel, by decide +kernel⟩
abbrev s_House_eq : Stmt := inClass (topS 26) 27
theorem sc_House_eq : FnScope ["self", "other"] ["self", "other"] (defScope s_House_eq) := ⟨rfl, rfl, rfl, by decide +kernel, rfl, by decide +kernel, by decide +kernel⟩
abbrev s_House_str : Stmt := inClass (topS 26) 28
theorem sc_House_str : FnScope ["self", "bay", "number"] ["self"] (defScope s_House_str) := ⟨rfl, rfl, rfl, by decide +kernel, rfl, by decide +kernel, by decide +kernel⟩
abbrev s_House_iter : Stmt := inClass (topS 26) 12
theorem sc_House_iter : FnScope ["self"] ["self"] (defScope s_House_iter) := ⟨rfl, rfl, rfl, by decide +kernel, rfl, by decide +kernel, by decide +kernel⟩
abbrev s__law_pen : Stmt := topS 28
theorem sc__law_pen : FnScope ["_law_script"] ["_law_script"] (defScope s__law_pen) := ⟨rfl, rfl, rfl, by decide +kernel, rfl, by decide +kernel, by decide +kernel⟩
abbrev s__law_draw : Stmt := topS 29
theorem sc__law_draw : FnScope ["_law_pen_here", "_law_many", "_law_digit", "_law_begun", "_law_cell", "_law_great", "_law_mixed"] ["_law_pen_here", "_law_many"] (defScope s__law_draw) := ⟨rfl, rfl, rfl, by decide +kernel, rfl, by decide +kernel, by decide +kernel⟩
abbrev s__law_pick : Stmt := topS 30
theorem sc__law_pick : FnScope ["_law_pen_here", "_law_some"] ["_law_pen_here", "_law_some"] (defScope s__law_pick) := ⟨rfl, rfl, rfl, by decide +kernel, rfl, by decide +kernel, by decide +kernel⟩
abbrev s__law_word : Stmt := topS 31
theorem sc__law_word : FnScope ["_law_pen_here", "_law_letters", "_law_word_here", "_law_turn"] ["_law_pen_here"] (defScope s__law_word) := ⟨rfl, rfl, rfl, by decide +kernel, rfl, by decide +kernel, by decide +kernel⟩
abbrev s__law_number : Stmt := topS 32
theorem sc__law_number : FnScope ["_law_pen_here", "_law_way"] ["_law_pen_here"] (defScope s__law_number) := ⟨rfl, rfl, rfl, by decide +kernel, rfl, by decide +kernel, by decide +kernel⟩
abbrev s__law_table : Stmt := topS 33
theorem sc__law_table : FnScope ["_law_pen_here", "_law_found", "_law_turn", "_law_many"] ["_law_pen_here"] (defScope s__law_table) := ⟨rfl, rfl, rfl, by decide +kernel, rfl, by decide +kernel, by decide +kernel⟩
abbrev s__law_is_count : Stmt := topS 34
theorem sc__law_is_count : FnScope ["_law_value"] ["_law_value"] (defScope s__law_is_count) := ⟨rfl, rfl, rfl, by decide +kernel, rfl, by decide +kernel, by decide +kernel⟩
abbrev s__law_tells : Stmt := topS 35
theorem sc__law_tells : FnScope ["_law_house", "_law_told", "_law_bays", "_law_some", "_law_one", "_law_walked", "_law_pairs", "_law_other", "_law_title", "_law_k"] ["_law_house", "_law_told"] (defScope s__law_tells) := ⟨rfl, rfl, rfl, by decide +kernel, rfl, by decide +kernel, by decide +kernel⟩
abbrev s__law_turned : Stmt := topS 36
theorem sc__law_turned : FnScope ["_law_told", "_law_title"] ["_law_told"] (defScope s__law_turned) := ⟨rfl, rfl, rfl, by decide +kernel, rfl, by decide +kernel, by decide +kernel⟩
abbrev s__law_put : Stmt := topS 37
theorem sc__law_put : FnScope ["_law_told", "_law_house", "_law_title"] ["_law_told"] (defScope s__law_put) := ⟨rfl, rfl, rfl, by decide +kernel, rfl, by decide +kernel, by decide +kernel⟩
abbrev s__law_in_right : Stmt := topS 38
theorem sc__law_in_right : FnScope ["_law_pen_here", "_law_house", "_law_told", "_law_word_here", "_law_title", "_law_many", "_law_odd"] ["_law_pen_here", "_law_house", "_law_told", "_law_word_here"] (defScope s__law_in_right) := ⟨rfl, rfl, rfl, by decide +kernel, rfl, by decide +kernel, by decide +kernel⟩
abbrev s_law : Stmt := topS 39
theorem sc_law : FnScope ["_law_script", "_law_pen_here", "_law_turn", "_law_told", "_law_word_here", "_law_kept", "_law_house", "_law_built", "_law_other", "_law_one", "_law_many", "_law_changed", "_law_due"] ["_law_script"] (defScope s_law) := ⟨rfl, rfl, rfl, by decide +kernel, rfl, by decide +kernel, by decide +kernel⟩
end Nk
namespace Nk
open PySem PySem.Spec PyProof.Rows L2
def RunP {β : Type} (r : PySem.W.OpenRow) (M : Nat) (w : World) (f : PySem.W.SharedT → β) (v : β) : Prop := ∀ os : OsState, Option.map f (HandSHeadRun.endF (HandSHeadRun.stepQ (HandSHeadRun.denQ HandSHeadRun.tabQ) r.prog w) M r.prog w os) = some v
theorem run_of {r : PySem.W.OpenRow} {q : Program} {M : Nat} {loose : List Str} {w : World} {H : PySem.W.Hook} {ob : PySem.W.SharedT → H.α}
    (a : RunP r M w (fun s => HandSHeadRun.looksF r.prog (PySem.W.boot_heap w.params) s.abs) true)
    (b : RunP r M w (fun s => HandSHeadRun.seenQ q loose (importedModules r.prog.main.body) (fun s => PySem.W.xlAt q [] s && PySem.W.recOk r.records s) s.abs) (PySem.W.openGood q loose))
    (c : RunP r M w ob (H.val w)) : HandSHeadRun.RunEq r q H ob M loose w := by
  intro os
  have a := a os
  have b := b os
  have c := c os
  revert a b c
  generalize HandSHeadRun.endF (HandSHeadRun.stepQ (HandSHeadRun.denQ HandSHeadRun.tabQ) r.prog w) M r.prog w os = x
  intro a b c
  cases x with
  | none => cases a
  | some s =>
    have a := Option.some.inj a
    have b := Option.some.inj b
    have c := Option.some.inj c
    show some (_, _, _) = some (_, _, _)
    congr 1
    exact Prod.ext a (Prod.ext b c)
def seenE (m a : Nat) : Bool := Nat.beq (Nat.land (Nat.shiftRight m a) 1) 1
def addE : List Addr → List Addr → Nat → (List Addr → Nat → List Addr) → List Addr
  | [], acc, m, k => k acc m
  | a :: r, acc, m, k => match seenE m a with
    | true => addE r acc m k
    | false => addE r (a :: acc) (Nat.lor m (Nat.shiftLeft 1 a)) k
def levE (g : Addr → Option Obj) : Nat → List Addr → List Addr → Nat → List Addr
  | 0, fr, all, _ => all ++ fr
  | n + 1, fr, all, m => addE (fr.flatMap fun a => match g a with
    | some o => He.refsD o
    | none => []) [] m fun new m' => levE g n new (all ++ fr) m'
def asE (g : Addr → Option Obj) (n : Nat) : List Addr := levE g n [mainGlobals] [] (Nat.shiftLeft 1 mainGlobals)
abbrev frM (g : Addr → Option Obj) (n : Nat) : PySem.W.Frag := He.frT g (cStatics :: asE g n)
def obsM (n : Nat) (ds : List DefA) (file : Str) (tf : List He.Defn) (ex : PySem.W.Frag → Bool) (g : Addr → Option Obj) : AlN :=
  (ds.map (fun d => fnS (frM g n) (d.at_ (frM g n))), (ds.all fun d => d.ok (frM g n) file) && (ex (frM g n) && He.tabsB g tf (frM g n)))
theorem saysM_of {n : Nat} {ds : List DefA} {file : Str} {tf : List He.Defn} {ex : PySem.W.Frag → Bool} {h : Heap} (e : obsM n ds file tf ex h.get? = valN ds) : SaysN ds file tf ex h (frM h.get? n) := by
  have e1 : ds.map (fun d => fnS (frM h.get? n) (d.at_ (frM h.get? n))) = ds.map DefA.val := congrArg (fun z : AlN => z.1) e
  have e2 : ((ds.all fun d => d.ok (frM h.get? n) file) && (ex (frM h.get? n) && He.tabsB h.get? tf (frM h.get? n))) = true := congrArg (fun z : AlN => z.2) e
  obtain ⟨h0, e3⟩ := He.ba e2
  obtain ⟨h1, h2⟩ := He.ba e3
  have key : ∀ p ∈ tf, PySem.W.codeHdIn (frM h.get? n) (He.cT (frM h.get? n) p).1 (He.cT (frM h.get? n) p).2 = true ∧ ∃ o, h.get? (He.cT (frM h.get? n) p).2 = some o ∧ He.emptyTab o = true := fun p hp => by
    obtain ⟨h3, h4⟩ := He.ba (List.all_eq_true.mp h2 p hp)
    refine ⟨h3, ?_⟩
    cases q : h.get? (He.cT (frM h.get? n) p).2 with
    | none => rw [q] at h4; cases h4
    | some o => rw [q] at h4; exact ⟨o, rfl, h4⟩
  exact ⟨fun d hd => List.map_inj_left.mp e1 d hd, fun d hd => List.all_eq_true.mp h0 d hd, h1, fun p hp => (key p hp).1, fun p hp => by
    obtain ⟨_, o, q, z⟩ := key p hp
    exact He.frT_none q z, fun p hp => by
    obtain ⟨_, o, q, z⟩ := key p hp
    rw [q, He.emptyTab_eq z]⟩
def hookM (n : Nat) (ds : List DefA) (file : Str) (tf : List He.Defn) (ex : PySem.W.Frag → Bool) : PySem.W.Hook where
  α := AlN
  obs := fun s => obsM n ds file tf ex s.heap.get?
  val := fun _ => valN ds
  says := fun _ h => ∃ K : PySem.W.Frag, K.In h ∧ SaysN ds file tf ex h K
  of := fun _ _ e => ⟨_, He.frT_in, saysM_of e⟩
  keeps := fun _ _ _ ⟨K, hK, c⟩ k => ⟨K, PySem.W.Frag.In.keeps hK k, ⟨c.fn, c.ok, c.more, c.hd, c.out, fun p hp => k _ _ (c.empty p hp)⟩⟩
theorem obsM_eq {n : Nat} {ds : List DefA} {file : Str} {tf : List He.Defn} {ex : PySem.W.Frag → Bool} {g : Addr → Option Obj} {s : Shared} (h : ∀ a, g a = s.heap.get? a) : obsM n ds file tf ex g = (hookM n ds file tf ex).obs s := by
  have e : g = s.heap.get? := funext h
  rw [e] <;> rfl
theorem obsM_join {n : Nat} {d1 d2 : List DefA} {file : Str} {tf : List He.Defn} {ex : PySem.W.Frag → Bool} {g : Addr → Option Obj}
    (a : obsM n d1 file tf (fun _ => true) g = valN d1) (b : obsM n d2 file tf ex g = valN d2) : obsM n (d1 ++ d2) file tf ex g = valN (d1 ++ d2) := by
  unfold obsM valN at a b ⊢
  have a4 := congrArg Prod.fst a
  have a5 := congrArg Prod.snd a
  have b4 := congrArg Prod.fst b
  have b5 := congrArg Prod.snd b
  dsimp only at a4 a5 b4 b5
  rw [Bool.and_eq_true] at a5 b5
  rw [List.map_append, List.map_append, List.all_append, a4, b4, a5.1, b5.1, b5.2]
  rfl
theorem runM_join {r : PySem.W.OpenRow} {n M : Nat} {d1 d2 : List DefA} {file : Str} {tf : List He.Defn} {ex : PySem.W.Frag → Bool} {w : World}
    (h1 : RunP r M w (fun s => obsM n d1 file tf (fun _ => true) (HandSHeadRun.getT s)) (valN d1))
    (h2 : RunP r M w (fun s => obsM n d2 file tf ex (HandSHeadRun.getT s)) (valN d2)) :
    RunP r M w (fun s => obsM n (d1 ++ d2) file tf ex (HandSHeadRun.getT s)) (valN (d1 ++ d2)) := by
  intro os
  have a := h1 os
  have b := h2 os
  revert a b
  generalize HandSHeadRun.endF (HandSHeadRun.stepQ (HandSHeadRun.denQ HandSHeadRun.tabQ) r.prog w) M r.prog w os = x
  intro a b
  cases x with
  | none => cases a
  | some s => exact congrArg some (obsM_join (Option.some.inj a) (Option.some.inj b))
end Nk
namespace Nk
open PySem PySem.Spec PyProof.Rows L2
def cvB (K : PySem.W.Frag) (C : Addr) (f : Str) (i : Int) : Bool := match PySem.W.findCls K (.ref C) (.type "type") f with
  | some (.val (.int j _)) => decide (j = i)
  | _ => false
theorem cvB_ok {K : PySem.W.Frag} {C : Addr} {f : Str} {i : Int} (h : cvB K C f i = true) : ∃ u, ClX.CVal K C (.type "type") f (.int i) u := by
  unfold cvB at h
  split at h
  · rename_i j t e
    obtain rfl := of_decide_eq_true h
    exact ⟨_, e, t, rfl⟩
  · cases h
def coB (K : PySem.W.Frag) (C : Addr) (f : Str) (i : Int) : Bool := match PySem.W.findIn K (.ref C) f with
  | some (some (.int j t)) => decide (j = i) && (decide (PySem.W.specialIn K (.int j t) "__get__" = some none) && !PySem.W.copiedNames.contains f)
  | _ => false
theorem coB_ok {K : PySem.W.Frag} {C : Addr} {f : Str} {i : Int} (h : coB K C f i = true) : ∃ u, Con K C f (.int i) u := by
  unfold coB at h
  split at h
  · rename_i j t e
    rw [Bool.and_eq_true, Bool.and_eq_true] at h
    obtain rfl := of_decide_eq_true h.1
    exact ⟨_, e, ⟨t, rfl⟩, of_decide_eq_true h.2.1, by simpa using h.2.2⟩
  · cases h
end Nk
namespace Nk
open PySem PySem.Spec PyProof.Rows L2
def fns : List DefA := [
  ⟨fun K => (He.ma K (He.ga K "BadName") "__init__"), "__init__", "BadName.__init__", s_BadName_init, (some fun K => He.ga K "BadName"), []⟩,
  ⟨fun K => (He.ma K (He.ga K "BadNumber") "__init__"), "__init__", "BadNumber.__init__", s_BadNumber_init, (some fun K => He.ga K "BadNumber"), []⟩,
  ⟨fun K => (He.ma K (He.ga K "BadTable") "__init__"), "__init__", "BadTable.__init__", s_BadTable_init, (some fun K => He.ga K "BadTable"), []⟩,
  ⟨fun K => (He.ga K "is_integer"), "is_integer", "is_integer", s_is_integer, none, []⟩,
  ⟨fun K => (He.ga K "is_within"), "is_within", "is_within", s_is_within, none, []⟩,
  ⟨fun K => (He.ga K "is_number"), "is_number", "is_number", s_is_number, none, []⟩,
  ⟨fun K => (He.ga K "is_name"), "is_name", "is_name", s_is_name, none, []⟩,
  ⟨fun K => (He.ga K "need_name"), "need_name", "need_name", s_need_name, none, []⟩,
  ⟨fun K => (He.ga K "need_number"), "need_number", "need_number", s_need_number, none, []⟩,
  ⟨fun K => (He.ga K "numbers_of"), "numbers_of", "numbers_of", s_numbers_of, none, []⟩,
  ⟨fun K => (He.ma K (He.ga K "House") "__init__"), "__init__", "House.__init__", s_House_init, none, []⟩,
  ⟨fun K => (cmOf K (He.ga K "House") "of"), "of", "House.of", s_House_of, none, []⟩,
  ⟨fun K => (smOf K (He.ga K "House") "none"), "none", "House.none", s_House_none, none, []⟩,
  ⟨fun K => (He.ma K (He.ga K "House") "put"), "put", "House.put", s_House_put, none, []⟩,
  ⟨fun K => (getOf K (He.ga K "House") "bays"), "bays", "House.bays", s_House_bays, none, []⟩,
  ⟨fun K => (getOf K (He.ga K "House") "total"), "total", "House.total", s_House_total, none, []⟩,
  ⟨fun K => (He.ma K (He.ga K "House") "__getitem__"), "__getitem__", "House.__getitem__", s_House_getitem, none, []⟩,
  ⟨fun K => (He.ma K (He.ga K "House") "__contains__"), "__contains__", "House.__contains__", s_House_contains, none, []⟩,
  ⟨fun K => (He.ma K (He.ga K "House") "__len__"), "__len__", "House.__len__", s_House_len, none, []⟩,
  ⟨fun K => (He.ma K (He.ga K "House") "__bool__"), "__bool__", "House.__bool__", s_House_bool, none, []⟩,
  ⟨fun K => (He.ma K (He.ga K "House") "__eq__"), "__eq__", "House.__eq__", s_House_eq, none, []⟩,
  ⟨fun K => (He.ma K (He.ga K "House") "__str__"), "__str__", "House.__str__", s_House_str, none, []⟩,
  ⟨fun K => (He.ma K (He.ga K "House") "__iter__"), "__iter__", "House.__iter__", s_House_iter, none, []⟩,
  ⟨fun K => (He.ga K "_law_pen"), "_law_pen", "_law_pen", s__law_pen, none, []⟩,
  ⟨fun K => (He.ga K "_law_draw"), "_law_draw", "_law_draw", s__law_draw, none, []⟩,
  ⟨fun K => (He.ga K "_law_pick"), "_law_pick", "_law_pick", s__law_pick, none, []⟩,
  ⟨fun K => (He.ga K "_law_word"), "_law_word", "_law_word", s__law_word, none, []⟩,
  ⟨fun K => (He.ga K "_law_number"), "_law_number", "_law_number", s__law_number, none, []⟩,
  ⟨fun K => (He.ga K "_law_table"), "_law_table", "_law_table", s__law_table, none, []⟩,
  ⟨fun K => (He.ga K "_law_is_count"), "_law_is_count", "_law_is_count", s__law_is_count, none, []⟩,
  ⟨fun K => (He.ga K "_law_tells"), "_law_tells", "_law_tells", s__law_tells, none, []⟩,
  ⟨fun K => (He.ga K "_law_turned"), "_law_turned", "_law_turned", s__law_turned, none, []⟩,
  ⟨fun K => (He.ga K "_law_put"), "_law_put", "_law_put", s__law_put, none, []⟩,
  ⟨fun K => (He.ga K "_law_in_right"), "_law_in_right", "_law_in_right", s__law_in_right, none, []⟩,
  ⟨fun K => (He.ga K "law"), "law", "law", s_law, none, []⟩]
def lits : List He.Fa := [.free "super", .glo "is_integer", .free "isinstance", .free "int", .free "bool", .glo "is_within", .glo "is_number", .int "MOST_NUMBER" 999999999999999999999999999999999999999999999999999999999999, .glo "is_name", .free "str", .free "len", .int "MOST_LETTERS" 8, .free "all", .str "LETTERS" "abcdefghijklmnopqrstuvwxyz", .glo "need_name", .glo "BadName", .glo "need_number", .glo "BadNumber", .glo "numbers_of", .free "dict", .glo "BadTable", .free "sorted", .glo "House", .free "tuple", .free "sum", .free "iter", .glo "_law_pen", .free "list", .glo "_law_draw", .free "abs", .glo "_law_pick", .glo "_law_word", .free "range", .glo "_law_number", .glo "_law_table", .glo "_law_is_count", .glo "_law_tells", .glo "_law_turned", .glo "_law_put", .glo "_law_in_right", .free "repr", .glo "law"]
def bls (K : PySem.W.Frag) : List Bool := [
  clsInB K (He.ga K "BadName"),
  supB K (He.ga K "BadName"),
  He.eqO (PySem.W.findIn K (.ref (He.ga K "BadName")) "value") (some none),
  clsInB K (He.ga K "BadNumber"),
  supB K (He.ga K "BadNumber"),
  He.eqO (PySem.W.findIn K (.ref (He.ga K "BadNumber")) "value") (some none),
  clsInB K (He.ga K "BadTable"),
  supB K (He.ga K "BadTable"),
  He.eqO (PySem.W.findIn K (.ref (He.ga K "BadTable")) "value") (some none),
  He.eqO (PySem.W.findIn K (.ref (He.ga K "BadName")) "__init__") (some (some (.ref (He.ma K (He.ga K "BadName") "__init__")))),
  decide (PySem.W.typeIn K (.ref (He.ma K (He.ga K "BadName") "__init__")) = some (.type "function")),
  He.eqO (PySem.W.findIn K (.ref (He.ga K "BadNumber")) "__init__") (some (some (.ref (He.ma K (He.ga K "BadNumber") "__init__")))),
  decide (PySem.W.typeIn K (.ref (He.ma K (He.ga K "BadNumber") "__init__")) = some (.type "function")),
  He.eqO (PySem.W.findIn K (.ref (He.ga K "BadTable")) "__init__") (some (some (.ref (He.ma K (He.ga K "BadTable") "__init__")))),
  decide (PySem.W.typeIn K (.ref (He.ma K (He.ga K "BadTable") "__init__")) = some (.type "function")),
  (He.Fa.cls "House").ok K,
  (He.Fa.noat "House" "own_numbers").ok K,
  (He.Fa.mkr "House").ok K,
  insB K (He.ga K "House"),
  decide (PySem.W.kitOne K (.ref (He.ga K "House")) (.type "str") = some false),
  (tys.all fun t => decide (PySem.W.kitOne K (.type t) (.ref (He.ga K "House")) = some false)),
  decide (PySem.W.kitOne K (.ref (He.ga K "House")) (.ref (He.ga K "House")) = some true),
  ownMB K (He.ga K "House") "__getitem__",
  propB K (He.ga K "House") "total",
  ownMB K (He.ga K "House") "__len__",
  propB K (He.ga K "House") "bays",
  ownMB K (He.ga K "House") "__iter__",
  ownMB K (He.ga K "House") "__bool__",
  creadB K (He.ga K "House"),
  cfB K (He.ga K "House") "none" (smOf K (He.ga K "House") "none"),
  (He.Fa.meth "House" "put").ok K,
  ownMB K (He.ga K "House") "__contains__",
  true,
  cmB K (He.ga K "House") "of",
  eqCB K (He.ga K "House"),
  PySem.W.notFirst K (He.ga K "House") (.ref (He.ga K "House")),
  (tys.all fun t => PySem.W.notFirst K (He.ga K "House") (.type t)),
  ownMB K (He.ga K "House") "__str__",
  cvB K (He.ga K "House") "DIGITS" 60,
  coB K (He.ga K "House") "DIGITS" 60]
def lawK (K : PySem.W.Frag) : Bool := (lits.all fun f => f.ok K) && (bls K).all id
def tfs : List He.Defn := [("law", none)]
abbrev Rw : PySem.W.OpenRow := PySem.W.OpenLaw.row PySem.Challenge.rw_nextkind_k02_houses_made
abbrev FL : Str := "/claim/cut.py"
abbrev hk : PySem.W.Hook := hookM 5 fns FL tfs lawK
def ob (s : PySem.W.SharedT) : AlN := obsM 5 fns FL tfs lawK (HandSHeadRun.getT s)
theorem ob_eq (s : PySem.W.SharedT) : ob s = hk.obs s.abs := obsM_eq (HandSHeadRun.getT_eq s)
def loose : List Str := (["_wall", "NextError", "BadName", "BadNumber", "BadTable", "Lacking", "BadText", "LETTERS", "FIGURES", "MOST_LETTERS", "MOST_FIGURES", "MOST_NUMBER", "is_integer", "is_within", "is_number", "is_name", "need_name", "need_number", "number_in", "Words", "numbers_of", "take_places", "House", "_law_pen", "_law_draw", "_law_pick", "_law_word", "_law_number", "_law_table", "_law_is_count"] : List Str) ++ (["_law_tells", "_law_turned", "_law_put", "_law_in_right"] : List Str)
theorem hrunA (w : World) : RunP Rw 9000 w (fun s => HandSHeadRun.looksF Rw.prog (PySem.W.boot_heap w.params) s.abs) true := by
  intro os
  kernel_rfl
theorem hrunB (w : World) : RunP Rw 9000 w (fun s => HandSHeadRun.seenQ (PySem.W.view Rw.prog [39]) loose (importedModules Rw.prog.main.body) (fun s => PySem.W.xlAt (PySem.W.view Rw.prog [39]) [] s && PySem.W.recOk Rw.records s) s.abs) (PySem.W.openGood (PySem.W.view Rw.prog [39]) loose) := by
  intro os
  kernel_rfl
theorem hrunC (w : World) : RunP Rw 9000 w (fun s => obsM 5 (fns.take 17) FL tfs (fun _ => true) (HandSHeadRun.getT s)) (valN (fns.take 17)) := by
  intro os
  kernel_rfl
theorem hrunE (w : World) : RunP Rw 9000 w (fun s => obsM 5 (fns.drop 17) FL tfs (fun _ => true) (HandSHeadRun.getT s)) (valN (fns.drop 17)) := by
  intro os
  kernel_rfl
theorem hrunD (w : World) : RunP Rw 9000 w (fun s => obsM 5 [] FL tfs lawK (HandSHeadRun.getT s)) (valN []) := by
  intro os
  kernel_rfl
theorem hrunX (w : World) : RunP Rw 9000 w ob (valN fns) := by
  have h := runM_join (hrunC w) (runM_join (hrunE w) (hrunD w))
  rw [List.append_nil, List.take_append_drop] at h
  exact h
theorem run (w : World) : HandSHeadRun.RunEq Rw (PySem.W.view Rw.prog [39]) hk ob 9000 loose w := run_of (hrunA w) (hrunB w) (hrunX w)
end Nk
namespace Sh
open PySem PySem.Spec PyProof.Rows L2 Nk
class TabSet where
  TS : PySem.W.Frag → List (Addr × Str)
inductive D where
  | non | bl (b : Bool) | int (i : Int) | str (x : Str) | ty (n : String) | cls (c : String)
  | tup (xs : List D) | lst (xs : List D) | obj (c : String) (fs : List (Str × D)) | exc (c : String) (fs : List (Str × D))
  | dk (kvs : List (Key × D)) | dt (kvs : List (List Key × D)) | ref (n : Nat) | scr (xs : List D) | adr (a : Addr) | fk (kvs : List (Key × D)) | ft (kvs : List (List Key × D)) | tpl (xs : List D)
  deriving Inhabited
inductive Cell where
  | lst (xs : List D) | ins (c : String) (fs : List (Str × D)) | dk (kvs : List (Key × D)) | dt (kvs : List (List Key × D)) | fk (kvs : List (Key × D)) | ft (kvs : List (List Key × D))
  deriving Inhabited
abbrev Store := List Cell
inductive Sl where
  | no | val (d : D) | own (c : Cell)
  deriving Inhabited
abbrev En := List Sl
structure Exn where
  c : String
  fs : List (Str × D)
inductive R (α : Type) where
  | ok (a : α) (S : Store) | er (x : Exn) (S : Store) | no
def R.bind {α β : Type} (r : R α) (k : α → Store → R β) : R β := match r with
  | .ok a S => k a S
  | .er x S => .er x S
  | .no => .no
section
variable {α β : Type} {a : α} {S : Store} {k : α → Store → R β} {x : Exn}
@[simp] theorem ok_bind : (R.ok a S).bind k = k a S := rfl
@[simp] theorem er_bind : (R.er x S : R α).bind k = .er x S := rfl
@[simp] theorem no_bind : (R.no : R α).bind k = .no := rfl
@[simp] theorem ite_bind {c : Prop} [Decidable c] {r s : R α} : (if c then r else s).bind k = if c then r.bind k else s.bind k := by split <;> rfl
end
def R.of {α : Type} (S : Store) : Option α → R α
  | some a => .ok a S
  | none => .no
@[simp] theorem of_some {α : Type} {a : α} {S : Store} : R.of S (some a) = .ok a S := rfl
@[simp] theorem of_none {α : Type} {S : Store} : R.of S (none : Option α) = .no := rfl
inductive RS where
  | nx (e : En) (S : Store) | rt (d : D) (S : Store) | bk (e : En) (S : Store) | ct (e : En) (S : Store) | er (x : Exn) (e : En) (S : Store) | no
structure Wo where
  K : PySem.W.Frag
  Z : Addr → Prop
  m : List Addr
  H : Hp
def KpL (K : PySem.W.Frag) (a : Addr) (xs : List V) : Prop := ∃ (o : Obj) (its : Array Value) (n : Nat), K.lookup a = some o ∧ o.cls = .type "list" ∧ o.dict = none ∧ o.data = .seq its n ∧ its.size ≤ sizeLine ∧ Vals xs its.toList
def TrL (w : Wo) (a : Addr) (xs : List V) : Prop := ¬ w.Z a ∧ w.H a = some (.lst xs) ∧ xs.length ≤ sizeLine
def TrT (w : Wo) (a : Addr) (xs : List V) : Prop := (¬ w.Z a ∧ w.H a = some (.tup xs)) ∧ xs.length ≤ sizeLine
def TrS (w : Wo) (a : Addr) (xs : List V) : Prop := ((¬ w.Z a ∧ Rd w.H a (.lst xs)) ∨ KpL w.K a xs) ∧ xs.length ≤ sizeLine
theorem TrS.sq {w : Wo} {a : Addr} {xs : List V} (h : TrS w a xs) : SqL w.K w.H a xs := h.1.imp And.right id
theorem TrL.sq {w : Wo} {a : Addr} {xs : List V} (h : TrL w a xs) : SqL w.K w.H a xs := .inl (.inl h.2.1)
theorem TrT.sq {w : Wo} {a : Addr} {xs : List V} (h : TrT w a xs) : SqT w.K w.H a xs := .inl (.inl h.1.2)
theorem TrT.plain {w : Wo} {a : Addr} {xs : List V} (h : TrT w a xs) : w.H a = some (.tup xs) := h.1.2
def KFit (k : Key) : Prop := ∀ x, k = Sum.inr x → x.length ≤ sizeLine
def TFit (f : List Key) : Prop := (∀ k ∈ f, KFit k) ∧ f.length ≤ sizeLine
mutual
def Rep (w : Wo) : D → V → Prop
  | .non, v => v = .non
  | .bl b, v => v = .bl b
  | .int i, v => v = .int i
  | .str x, v => v = .str x ∧ x.length ≤ sizeLine
  | .ty n, v => v = .ty n
  | .cls c, v => v = .ref (He.ga w.K c)
  | .tup ds, v => ∃ a vs, v = .ref a ∧ TrT w a vs ∧ Reps w ds vs
  | .lst ds, v => ∃ a vs, v = .ref a ∧ TrL w a vs ∧ Reps w ds vs
  | .obj c fs, v => ∃ a dx gs, v = .ref a ∧ ¬ w.Z a ∧ w.H a = some (.ins (He.ga w.K c) dx gs) ∧ RepF w fs gs
  | .exc c fs, v => ∃ a d gs, v = .ref a ∧ ¬ w.Z a ∧ w.H a = some (exK (.ref (He.ga w.K c)) (some d) a) ∧ ¬ w.Z d ∧ w.H d = some (.xd gs) ∧ RepF w fs gs
  | .dk kvs, v => ∃ a vs, v = .ref a ∧ ¬ w.Z a ∧ w.H a = some (.dK vs) ∧ RepK w kvs vs
  | .dt kvs, v => ∃ a vs, v = .ref a ∧ ¬ w.Z a ∧ w.H a = some (.dT vs) ∧ RepT w kvs vs
  | .ref n, v => ∃ a, v = .ref a ∧ w.m[n]? = some a
  | .scr ds, v => ∃ a vs, v = .ref a ∧ TrS w a vs ∧ Reps w ds vs
  | .adr a, v => v = .ref a
  | .fk kvs, v => ∃ a o vs, v = .ref a ∧ ¬ w.Z a ∧ w.H a = some (.frz o (.dK vs)) ∧ RepK w kvs vs
  | .ft kvs, v => ∃ a o vs, v = .ref a ∧ ¬ w.Z a ∧ w.H a = some (.frz o (.dT vs)) ∧ RepT w kvs vs
  | .tpl ds, v => ∃ a o vs, v = .ref a ∧ ¬ w.Z a ∧ w.H a = some (.frz o (.tup vs)) ∧ (o.cls = .type "tuple" ∧ o.dict = none ∧ vs.length ≤ sizeLine) ∧ Reps w ds vs
def Reps (w : Wo) : List D → List V → Prop
  | [], vs => vs = []
  | d :: ds, vs => ∃ v r, vs = v :: r ∧ Rep w d v ∧ Reps w ds r
def RepF (w : Wo) : List (Str × D) → List (Str × V) → Prop
  | [], vs => vs = []
  | (f, d) :: ds, vs => ∃ v r, vs = (f, v) :: r ∧ Rep w d v ∧ RepF w ds r
def RepK (w : Wo) : List (Key × D) → List (Key × V) → Prop
  | [], vs => vs = []
  | (f, d) :: ds, vs => ∃ v r, vs = (f, v) :: r ∧ (KFit f ∧ Rep w d v) ∧ RepK w ds r
def RepT (w : Wo) : List (List Key × D) → List (List Key × V) → Prop
  | [], vs => vs = []
  | (f, d) :: ds, vs => ∃ v r, vs = (f, v) :: r ∧ (TFit f ∧ Rep w d v) ∧ RepT w ds r
end
structure Le (w w' : Wo) : Prop where
  K : w'.K = w.K
  z : ∀ a o, w.H a = some o → (∀ ps, o ≠ .tbl ps) → ¬ w.Z a → ¬ w'.Z a
  m : ∀ (n : Nat) (a : Addr), w.m[n]? = some a → w'.m[n]? = some a
  keep : ∀ a o, w.H a = some o → (∀ ps, o ≠ .tbl ps) → ¬ w.Z a → w'.H a = some o
  fz : ∀ a o u, w.H a = some (.frz o u) → w'.H a = some (.frz o u)
theorem Le.refl (w : Wo) : Le w w := ⟨rfl, fun _ _ _ _ h => h, fun _ _ h => h, fun _ _ h _ _ => h, fun _ _ _ h => h⟩
theorem Le.trans {w1 w2 w3 : Wo} (h : Le w1 w2) (g : Le w2 w3) : Le w1 w3 :=
  ⟨g.K.trans h.K, fun a o e n z => g.z a o (h.keep a o e n z) n (h.z a o e n z), fun n a e => g.m n a (h.m n a e), fun a o e n z => g.keep a o (h.keep a o e n z) n (h.z a o e n z), fun a o u e => g.fz a o u (h.fz a o u e)⟩
structure Le0 (w w' : Wo) : Prop where
  K : w'.K = w.K
  z : ∀ a o, w.H a = some o → (∀ ps, o ≠ .tbl ps) → ¬ w.Z a → ¬ w'.Z a
  m : ∀ (n : Nat) (a : Addr), w.m[n]? = some a → w'.m[n]? = some a
  keep : ∀ a o, w.H a = some o → (∀ ps, o ≠ .tbl ps) → ¬ w.Z a → w'.H a = some o
theorem Le.to0 {w w' : Wo} (l : Le w w') : Le0 w w' := ⟨l.K, l.z, l.m, l.keep⟩
theorem Rd.le0 {w w' : Wo} {a : Addr} {u : HO} (l : Le0 w w') (hu : ∀ ps, u ≠ .tbl ps) (z : ¬ w.Z a) (h : Rd w.H a u) : ¬ w'.Z a ∧ Rd w'.H a u := by
  rcases h with h | ⟨o, h⟩
  · exact ⟨l.z _ _ h hu z, .inl (l.keep _ _ h hu z)⟩
  · exact ⟨l.z _ _ h (fun _ q => by cases q) z, .inr ⟨o, l.keep _ _ h (fun _ q => by cases q) z⟩⟩
theorem TrL.le0 {w w' : Wo} {a : Addr} {xs : List V} (l : Le0 w w') (h : TrL w a xs) : TrL w' a xs := by
  obtain ⟨z, h, n⟩ := h
  exact ⟨l.z _ _ h (fun _ q => by cases q) z, l.keep _ _ h (fun _ q => by cases q) z, n⟩
theorem TrT.le0 {w w' : Wo} {a : Addr} {xs : List V} (l : Le0 w w') (h : TrT w a xs) : TrT w' a xs := by
  obtain ⟨h, n⟩ := h
  obtain ⟨z, h⟩ := h
  exact ⟨⟨l.z _ _ h (fun _ q => by cases q) z, l.keep _ _ h (fun _ q => by cases q) z⟩, n⟩
theorem TrS.le0 {w w' : Wo} {a : Addr} {xs : List V} (l : Le0 w w') (h : TrS w a xs) : TrS w' a xs := by
  obtain ⟨h, n⟩ := h
  refine ⟨?_, n⟩
  rcases h with ⟨z, h⟩ | h
  · exact .inl (Rd.le0 l (fun _ q => by cases q) z h)
  · exact .inr (l.K ▸ h)
mutual
theorem Rep.le0 {w w' : Wo} (l : Le0 w w') : ∀ (d : D) {v : V}, Rep w d v → Rep w' d v
  | .non, _, h => by unfold Rep at h ⊢; exact h
  | .bl _, _, h => by unfold Rep at h ⊢; exact h
  | .int _, _, h => by unfold Rep at h ⊢; exact h
  | .str _, _, h => by unfold Rep at h ⊢; exact h
  | .ty _, _, h => by unfold Rep at h ⊢; exact h
  | .cls _, _, h => by unfold Rep at h ⊢; rw [l.K]; exact h
  | .tup ds, _, h => by unfold Rep at h ⊢; obtain ⟨a, vs, e, t, r⟩ := h; exact ⟨a, vs, e, t.le0 l, Reps.le0 l ds r⟩
  | .lst ds, _, h => by unfold Rep at h ⊢; obtain ⟨a, vs, e, t, r⟩ := h; exact ⟨a, vs, e, t.le0 l, Reps.le0 l ds r⟩
  | .obj c fs, _, h => by
    unfold Rep at h ⊢
    obtain ⟨a, dx, gs, e, z, t, r⟩ := h
    exact ⟨a, dx, gs, e, l.z _ _ t (fun _ q => by cases q) z, by rw [l.K]; exact l.keep _ _ t (fun _ q => by cases q) z, RepF.le0 l fs r⟩
  | .exc c fs, _, h => by
    unfold Rep at h ⊢
    obtain ⟨a, d, gs, e, z, t, z2, t2, r⟩ := h
    exact ⟨a, d, gs, e, l.z _ _ t (fun _ q => by cases q) z, by rw [l.K]; exact l.keep _ _ t (fun _ q => by cases q) z, l.z _ _ t2 (fun _ q => by cases q) z2, l.keep _ _ t2 (fun _ q => by cases q) z2, RepF.le0 l fs r⟩
  | .dk kvs, _, h => by
    unfold Rep at h ⊢
    obtain ⟨a, vs, e, z, t, r⟩ := h
    exact ⟨a, vs, e, l.z _ _ t (fun _ q => by cases q) z, l.keep _ _ t (fun _ q => by cases q) z, RepK.le0 l kvs r⟩
  | .dt kvs, _, h => by
    unfold Rep at h ⊢
    obtain ⟨a, vs, e, z, t, r⟩ := h
    exact ⟨a, vs, e, l.z _ _ t (fun _ q => by cases q) z, l.keep _ _ t (fun _ q => by cases q) z, RepT.le0 l kvs r⟩
  | .ref n, _, h => by unfold Rep at h ⊢; obtain ⟨a, e, t⟩ := h; exact ⟨a, e, l.m _ _ t⟩
  | .adr _, _, h => by unfold Rep at h ⊢; exact h
  | .fk kvs, _, h => by
    unfold Rep at h ⊢
    obtain ⟨a, o, vs, e, z, t, r⟩ := h
    exact ⟨a, o, vs, e, l.z _ _ t (fun _ q => by cases q) z, l.keep _ _ t (fun _ q => by cases q) z, RepK.le0 l kvs r⟩
  | .ft kvs, _, h => by
    unfold Rep at h ⊢
    obtain ⟨a, o, vs, e, z, t, r⟩ := h
    exact ⟨a, o, vs, e, l.z _ _ t (fun _ q => by cases q) z, l.keep _ _ t (fun _ q => by cases q) z, RepT.le0 l kvs r⟩
  | .scr ds, _, h => by
    unfold Rep at h ⊢
    obtain ⟨a, vs, e, t, r⟩ := h
    exact ⟨a, vs, e, t.le0 l, Reps.le0 l ds r⟩
  | .tpl ds, _, h => by
    unfold Rep at h ⊢
    obtain ⟨a, o, vs, e, z, t, g, r⟩ := h
    exact ⟨a, o, vs, e, l.z _ _ t (fun _ q => by cases q) z, l.keep _ _ t (fun _ q => by cases q) z, g, Reps.le0 l ds r⟩
theorem Reps.le0 {w w' : Wo} (l : Le0 w w') : ∀ (ds : List D) {vs : List V}, Reps w ds vs → Reps w' ds vs
  | [], _, h => by unfold Reps at h ⊢; exact h
  | d :: ds, _, h => by unfold Reps at h ⊢; obtain ⟨v, r, e, a, b⟩ := h; exact ⟨v, r, e, Rep.le0 l d a, Reps.le0 l ds b⟩
theorem RepF.le0 {w w' : Wo} (l : Le0 w w') : ∀ (ds : List (Str × D)) {vs : List (Str × V)}, RepF w ds vs → RepF w' ds vs
  | [], _, h => by unfold RepF at h ⊢; exact h
  | (f, d) :: ds, _, h => by unfold RepF at h ⊢; obtain ⟨v, r, e, a, b⟩ := h; exact ⟨v, r, e, Rep.le0 l d a, RepF.le0 l ds b⟩
theorem RepK.le0 {w w' : Wo} (l : Le0 w w') : ∀ (ds : List (Key × D)) {vs : List (Key × V)}, RepK w ds vs → RepK w' ds vs
  | [], _, h => by unfold RepK at h ⊢; exact h
  | (f, d) :: ds, _, h => by unfold RepK at h ⊢; obtain ⟨v, r, e, a, b⟩ := h; exact ⟨v, r, e, ⟨a.1, Rep.le0 l d a.2⟩, RepK.le0 l ds b⟩
theorem RepT.le0 {w w' : Wo} (l : Le0 w w') : ∀ (ds : List (List Key × D)) {vs : List (List Key × V)}, RepT w ds vs → RepT w' ds vs
  | [], _, h => by unfold RepT at h ⊢; exact h
  | (f, d) :: ds, _, h => by unfold RepT at h ⊢; obtain ⟨v, r, e, a, b⟩ := h; exact ⟨v, r, e, ⟨a.1, Rep.le0 l d a.2⟩, RepT.le0 l ds b⟩
end
theorem Rd.le {w w' : Wo} {a : Addr} {u : HO} (l : Le w w') (hu : ∀ ps, u ≠ .tbl ps) (z : ¬ w.Z a) (h : Rd w.H a u) : ¬ w'.Z a ∧ Rd w'.H a u := Rd.le0 l.to0 hu z h
theorem TrL.le {w w' : Wo} {a : Addr} {xs : List V} (l : Le w w') (h : TrL w a xs) : TrL w' a xs := TrL.le0 l.to0 h
theorem TrT.le {w w' : Wo} {a : Addr} {xs : List V} (l : Le w w') (h : TrT w a xs) : TrT w' a xs := TrT.le0 l.to0 h
theorem TrS.le {w w' : Wo} {a : Addr} {xs : List V} (l : Le w w') (h : TrS w a xs) : TrS w' a xs := TrS.le0 l.to0 h
theorem Rep.le {w w' : Wo} (l : Le w w') (d : D) {v : V} (h : Rep w d v) : Rep w' d v := Rep.le0 l.to0 d h
theorem Reps.le {w w' : Wo} (l : Le w w') (ds : List D) {vs : List V} (h : Reps w ds vs) : Reps w' ds vs := Reps.le0 l.to0 ds h
theorem RepF.le {w w' : Wo} (l : Le w w') (ds : List (Str × D)) {vs : List (Str × V)} (h : RepF w ds vs) : RepF w' ds vs := RepF.le0 l.to0 ds h
theorem RepK.le {w w' : Wo} (l : Le w w') (ds : List (Key × D)) {vs : List (Key × V)} (h : RepK w ds vs) : RepK w' ds vs := RepK.le0 l.to0 ds h
theorem RepT.le {w w' : Wo} (l : Le w w') (ds : List (List Key × D)) {vs : List (List Key × V)} (h : RepT w ds vs) : RepT w' ds vs := RepT.le0 l.to0 ds h
end Sh
namespace Sh
open PySem PySem.Spec PyProof.Rows L2 Nk
variable [TabSet]
def zf (B : Addr → Prop) (m : List Addr) (ow : List (Option Addr)) : Addr → Prop := fun a => B a ∨ a ∈ m ∨ some a ∈ ow
abbrev wo (K : PySem.W.Frag) (B : Addr → Prop) (m : List Addr) (ow : List (Option Addr)) (H : Hp) : Wo := ⟨K, zf B m ow, m, H⟩
def CRep (w : Wo) (a : Addr) : Cell → Prop
  | .lst ds => ∃ vs, w.H a = some (.lst vs) ∧ vs.length ≤ sizeLine ∧ Reps w ds vs
  | .ins c fs => ∃ dx gs, w.H a = some (.ins (He.ga w.K c) dx gs) ∧ RepF w fs gs
  | .dk kvs => ∃ vs, w.H a = some (.dK vs) ∧ RepK w kvs vs
  | .dt kvs => ∃ vs, w.H a = some (.dT vs) ∧ RepT w kvs vs
  | .fk kvs => ∃ vs o, w.H a = some (.frz o (.dK vs)) ∧ RepK w kvs vs
  | .ft kvs => ∃ vs o, w.H a = some (.frz o (.dT vs)) ∧ RepT w kvs vs
theorem CRep.le0 {w w' : Wo} {a : Addr} (l : Le0 w w') (k : ∀ o, w.H a = some o → (∀ ps, o ≠ .tbl ps) → w'.H a = some o) : ∀ {c : Cell}, CRep w a c → CRep w' a c
  | .lst ds, ⟨vs, h, n, r⟩ => ⟨vs, k _ h (fun _ q => by cases q), n, Reps.le0 l ds r⟩
  | .ins c fs, ⟨dx, gs, h, r⟩ => ⟨dx, gs, by rw [l.K]; exact k _ h (fun _ q => by cases q), RepF.le0 l fs r⟩
  | .dk kvs, ⟨vs, h, r⟩ => ⟨vs, k _ h (fun _ q => by cases q), RepK.le0 l kvs r⟩
  | .dt kvs, ⟨vs, h, r⟩ => ⟨vs, k _ h (fun _ q => by cases q), RepT.le0 l kvs r⟩
  | .fk kvs, ⟨vs, o, h, r⟩ => ⟨vs, o, k _ h (fun _ q => by cases q), RepK.le0 l kvs r⟩
  | .ft kvs, ⟨vs, o, h, r⟩ => ⟨vs, o, k _ h (fun _ q => by cases q), RepT.le0 l kvs r⟩
theorem CRep.le {w w' : Wo} {a : Addr} (l : Le w w') (k : ∀ o, w.H a = some o → (∀ ps, o ≠ .tbl ps) → w'.H a = some o) {c : Cell} (h : CRep w a c) : CRep w' a c := CRep.le0 l.to0 k h
theorem CRep.some {w : Wo} {a : Addr} : ∀ {c : Cell}, CRep w a c → ∃ o, w.H a = some o ∧ (∀ ps, o ≠ .tbl ps) ∧ ∀ φ, o ≠ .ext φ
  | .lst ds, ⟨vs, h, _, r⟩ => ⟨_, h, (fun _ q => by cases q), (fun _ q => by cases q)⟩
  | .ins c fs, ⟨dx, gs, h, r⟩ => ⟨_, h, (fun _ q => by cases q), (fun _ q => by cases q)⟩
  | .dk kvs, ⟨vs, h, r⟩ => ⟨_, h, (fun _ q => by cases q), (fun _ q => by cases q)⟩
  | .dt kvs, ⟨vs, h, r⟩ => ⟨_, h, (fun _ q => by cases q), (fun _ q => by cases q)⟩
  | .fk kvs, ⟨vs, o, h, r⟩ => ⟨_, h, (fun _ q => by cases q), (fun _ q => by cases q)⟩
  | .ft kvs, ⟨vs, o, h, r⟩ => ⟨_, h, (fun _ q => by cases q), (fun _ q => by cases q)⟩
def Cell.soft : Cell → Bool
  | .fk _ => false
  | .ft _ => false
  | _ => true
theorem CRep.nfz {w : Wo} {a : Addr} : ∀ {c : Cell}, CRep w a c → c.soft = true → ∀ o u, w.H a ≠ Option.some (.frz o u)
  | .lst ds, ⟨vs, h, _, r⟩, _, _, _, z => by rw [h] at z; cases z
  | .ins c fs, ⟨dx, gs, h, r⟩, _, _, _, z => by rw [h] at z; cases z
  | .dk kvs, ⟨vs, h, r⟩, _, _, _, z => by rw [h] at z; cases z
  | .dt kvs, ⟨vs, h, r⟩, _, _, _, z => by rw [h] at z; cases z
  | .fk kvs, _, s, _, _, _ => by cases s
  | .ft kvs, _, s, _, _, _ => by cases s
theorem tabs_keep {T : List (Addr × Str)} {H H' : Hp} {a : Addr} (t : LamX.Tabs T H) (ha : ∃ o, H a = some o ∧ (∀ ps, o ≠ .tbl ps) ∧ ∀ φ, o ≠ .ext φ) (keep : ∀ x o, x ≠ a → H x = some o → H' x = some o) : LamX.Tabs T H' := fun p hp => by
  obtain ⟨o, ho, n1, n2⟩ := ha
  obtain ⟨ps, h1, h2, h3⟩ := t p hp
  refine ⟨ps, keep _ _ (fun z => by rw [z, ho] at h1; exact n1 ps (Option.some.inj h1)) h1, h2, fun pos cv hc => ?_⟩
  obtain ⟨c, e1, e2⟩ := h3 pos cv hc
  exact ⟨c, e1, keep _ _ (fun z => by rw [z, ho] at e2; exact n2 _ (Option.some.inj e2)) e2⟩
def Fr (H : Hp) (a : Addr) : Prop := ∀ o, H a = some o → ∃ ps, o = .tbl ps
theorem Fr.none {H : Hp} {a : Addr} (h : H a = Option.none) : Fr H a := fun o e => by rw [h] at e; cases e
theorem Fr.no {H : Hp} {a : Addr} {o : HO} (f : Fr H a) (e : H a = some o) (n : ∀ ps, o ≠ .tbl ps) : False := let ⟨ps, z⟩ := f o e; n ps z
theorem Fr.same {H H' : Hp} {a : Addr} (s : Same H H') (f : Fr H' a) : Fr H a := fun o e => f o (s a o e)
theorem Fr.ne {H : Hp} {a b : Addr} {o : HO} (f : Fr H b) (e : H a = some o) (n : ∀ ps, o ≠ .tbl ps) : a ≠ b := fun z => f.no (z ▸ e) n
theorem Fr.upd {H : Hp} {p x : Addr} {o : HO} (ho : ∀ ps, o ≠ .tbl ps) (f : Fr (L2.upd H p o) x) : Fr H x := fun u e => by
  by_cases z : x = p
  · subst z; exact absurd upd_same (fun z => f.no z ho)
  · exact f u (by rw [upd_ne z]; exact e)
theorem CRep.noT {w : Wo} {a : Addr} : ∀ {c : Cell}, CRep w a c → ∀ xs, w.H a ≠ Option.some (.tup xs)
  | .lst ds, ⟨vs, h, _, r⟩, _, z => by rw [h] at z; cases z
  | .ins c fs, ⟨dx, gs, h, r⟩, _, z => by rw [h] at z; cases z
  | .dk kvs, ⟨vs, h, r⟩, _, z => by rw [h] at z; cases z
  | .dt kvs, ⟨vs, h, r⟩, _, z => by rw [h] at z; cases z
  | .fk kvs, ⟨vs, o, h, r⟩, _, z => by rw [h] at z; cases z
  | .ft kvs, ⟨vs, o, h, r⟩, _, z => by rw [h] at z; cases z
structure Cells (K : PySem.W.Frag) (B : Addr → Prop) (m : List Addr) (ow : List (Option Addr)) (H : Hp) (S : Store) : Prop where
  hB : ∀ a, B a → ¬ Fr H a
  nd : m.Nodup
  no : ∀ a, a ∈ m → some a ∉ ow
  nB : ∀ a, a ∈ m ∨ some a ∈ ow → ¬ B a
  od : ∀ (i j : Nat) (a : Addr), ow[i]? = some (some a) → ow[j]? = some (some a) → i = j
  oh : ∀ a, some a ∈ ow → ¬ Fr H a
  len : m.length = S.length
  cs : ∀ (n : Nat) (a : Addr) (c : Cell), m[n]? = some a → S[n]? = some c → CRep (wo K B m ow H) a c
  tb : LamX.Tabs (TabSet.TS K) H
  nt : ∀ a, zf B m ow a → ∀ xs, H a ≠ some (.tup xs)
structure Fut (m : List Addr) (H : Hp) (m' : List Addr) (H' : Hp) : Prop where
  pre : ∃ r, m' = m ++ r ∧ ∀ a ∈ r, Fr H a
  keep : ∀ a o, H a = some o → (∀ ps, o ≠ .tbl ps) → a ∉ m → H' a = some o
  dom : ∀ a, Fr H' a → Fr H a
  fz : ∀ a o u, H a = some (.frz o u) → H' a = some (.frz o u)
theorem Fut.refl (m : List Addr) (H : Hp) : Fut m H m H := ⟨⟨[], by simp, by simp⟩, fun _ _ h _ _ => h, fun _ h => h, fun _ _ _ h => h⟩
theorem Fut.trans {m1 m2 m3 : List Addr} {H1 H2 H3 : Hp} (h : Fut m1 H1 m2 H2) (g : Fut m2 H2 m3 H3) : Fut m1 H1 m3 H3 := by
  obtain ⟨⟨r, rfl, hr⟩, k, d, fz⟩ := h
  obtain ⟨⟨r', rfl, hr'⟩, k', d', fz'⟩ := g
  refine ⟨⟨r ++ r', by simp, fun a ha => ?_⟩, fun a o e n hn => ?_, fun a e => d a (d' a e), fun a o u e => fz' a o u (fz a o u e)⟩
  · rcases List.mem_append.mp ha with ha | ha
    · exact hr a ha
    · exact d a (hr' a ha)
  · refine k' a o (k a o e n hn) n fun hm => ?_
    rcases List.mem_append.mp hm with hm | hm
    · exact hn hm
    · exact (hr a hm).no e n
theorem Fut.same {m : List Addr} {H H' : Hp} (s : Same H H') : Fut m H m H' := ⟨⟨[], by simp, by simp⟩, fun a o h _ _ => s a o h, fun a h => h.same s, fun a o u h => s a _ h⟩
theorem Fut.le {K : PySem.W.Frag} {B : Addr → Prop} {m m' : List Addr} {ow : List (Option Addr)} {H H' : Hp} (f : Fut m H m' H') : Le (wo K B m ow H) (wo K B m' ow H') := by
  obtain ⟨⟨r, rfl, hr⟩, k, d, fz⟩ := f
  refine ⟨rfl, fun a o e n z => ?_, fun n a e => ?_, fun a o e n z => k a o e n fun hm => z (.inr (.inl hm)), fz⟩
  · rintro (q | q | q)
    · exact z (.inl q)
    · rcases List.mem_append.mp q with q | q
      · exact z (.inr (.inl q))
      · exact (hr a q).no e n
    · exact z (.inr (.inr q))
  · show (m ++ r)[n]? = some a
    have h : m[n]? = some a := e
    rw [List.getElem?_append_left (List.getElem?_eq_some_iff.mp h).1]
    exact h
theorem Cells.ntK {K : PySem.W.Frag} {B : Addr → Prop} {m : List Addr} {ow : List (Option Addr)} {H H' : Hp} {S : Store} (c : Cells K B m ow H S) (k : ∀ a o, H a = some o → (∀ ps, o ≠ .tbl ps) → zf B m ow a → H' a = some o) : ∀ a, zf B m ow a → ∀ xs, H' a ≠ some (.tup xs) := fun a z xs e => by
  have hf : ¬ Fr H a := by
    rcases z with z | z | z
    · exact c.hB a z
    · obtain ⟨n, hn⟩ := List.mem_iff_getElem?.mp z
      have hl : n < S.length := by rw [← c.len]; exact (List.getElem?_eq_some_iff.mp hn).1
      obtain ⟨o, h1, h2, _⟩ := (c.cs n a _ hn (List.getElem?_eq_getElem hl)).some
      exact fun f => f.no h1 h2
    · exact c.oh a z
  refine hf fun o ho => Classical.byContradiction fun nn => ?_
  have h2 := k a o ho (fun ps q => nn ⟨ps, q⟩) z
  rw [h2] at e
  cases e
  exact c.nt a z xs ho
theorem Cells.ntK1 {K : PySem.W.Frag} {B : Addr → Prop} {m : List Addr} {ow : List (Option Addr)} {H H' : Hp} {S : Store} {p : Addr} (c : Cells K B m ow H S) (k : ∀ a o, a ≠ p → H a = some o → H' a = some o) : ∀ a, zf B m ow a → a ≠ p → ∀ xs, H' a ≠ some (.tup xs) := fun a z n xs e => by
  have hf : ¬ Fr H a := by
    rcases z with z | z | z
    · exact c.hB a z
    · obtain ⟨n, hn⟩ := List.mem_iff_getElem?.mp z
      have hl : n < S.length := by rw [← c.len]; exact (List.getElem?_eq_some_iff.mp hn).1
      obtain ⟨o, h1, h2, _⟩ := (c.cs n a _ hn (List.getElem?_eq_getElem hl)).some
      exact fun f => f.no h1 h2
    · exact c.oh a z
  refine hf fun o ho => Classical.byContradiction fun nn => ?_
  have h2 := k a o n ho
  rw [h2] at e
  cases e
  exact c.nt a z xs ho
theorem Cells.same {K : PySem.W.Frag} {B : Addr → Prop} {m : List Addr} {ow : List (Option Addr)} {H H' : Hp} {S : Store} (c : Cells K B m ow H S) (s : Same H H') : Cells K B m ow H' S :=
  ⟨fun a b h => c.hB a b (h.same s), c.nd, c.no, c.nB, c.od, fun a b h => c.oh a b (h.same s), c.len, fun n a x h1 h2 => (c.cs n a x h1 h2).le (Fut.same s).le fun o e _ => s _ _ e, c.tb.ext s, c.ntK fun a o e _ _ => s _ _ e⟩
def SlR (w : Wo) (σ : L2.St) (ow : List (Option Addr)) (i : Nat) : Sl → Prop
  | .no => True
  | .val d => ∃ v, σ[i]? = some (some v) ∧ Rep w d v
  | .own c => ∃ a, σ[i]? = some (some (.ref a)) ∧ ow[i]? = some (some a) ∧ CRep w a c
structure Bs where
  B : Addr → Prop
  m0 : List Addr
  H0 : Hp
  /-- the object that an __init__ makes -/
  sf : Option Addr := none
class BasePred where
  Φ : Bs → Prop
  grow : ∀ b p, Fr b.H0 p → Φ b → Φ ⟨fun x => b.B x ∨ x = p, b.m0, b.H0, b.sf⟩
structure At [BasePred] (K : PySem.W.Frag) (b : Bs) (m : List Addr) (ow : List (Option Addr)) (H : Hp) (σ : L2.St) (e : En) (S : Store) : Prop where
  cells : Cells K b.B m ow H S
  len : σ.length = e.length ∧ ow.length = e.length
  slots : ∀ (i : Nat) (s : Sl), e[i]? = some s → SlR (wo K b.B m ow H) σ ow i s
  fut : Fut b.m0 b.H0 m H
  new : ∀ a, some a ∈ ow → Fr b.H0 a
  oe : ∀ (i : Nat) (a : Addr), ow[i]? = some (some a) → ∃ c, e[i]? = some (Sl.own c)
  sf : ∀ a, b.sf = some a → σ[0]? = some (some (.ref a)) ∧ ow[0]? = some (some a) ∧ ∃ c fs, e[0]? = some (Sl.own (.ins c fs))
  ph : BasePred.Φ b
variable [BasePred]
section
variable {K : PySem.W.Frag} {b : Bs} {m m' : List Addr} {ow : List (Option Addr)} {H H' : Hp} {σ : L2.St} {e : En} {S S' : Store}
theorem At.go (t : At K b m ow H σ e S) (f : Fut m H m' H') (c : Cells K b.B m' ow H' S') : At K b m' ow H' σ e S' := by
  refine ⟨c, t.len, fun i s hs => ?_, t.fut.trans f, t.new, t.oe, t.sf, t.ph⟩
  have h := t.slots i s hs
  cases s with
  | no => exact True.intro
  | val d => obtain ⟨v, h1, h2⟩ := h; exact ⟨v, h1, Rep.le f.le d h2⟩
  | own x =>
    obtain ⟨a, h1, h2, h3⟩ := h
    refine ⟨a, h1, h2, h3.le f.le fun o e n => f.keep a o e n fun hm => t.cells.no a hm (List.mem_of_getElem? h2)⟩
theorem At.same (t : At K b m ow H σ e S) (s : Same H H') : At K b m ow H' σ e S := t.go (Fut.same s) (t.cells.same s)
end
def ExR (w : Wo) (x : Exn) (c : Value) (d : Option Addr) : Prop := c = .ref (He.ga w.K x.c) ∧ ∃ a gs, d = some a ∧ ¬ w.Z a ∧ w.H a = some (.xd gs) ∧ RepF w x.fs gs
theorem ExR.le {w w' : Wo} {x : Exn} {c : Value} {d : Option Addr} (l : Le w w') (h : ExR w x c d) : ExR w' x c d := by
  obtain ⟨e, a, gs, ed, z, h, r⟩ := h
  exact ⟨by rw [l.K]; exact e, a, gs, ed, l.z _ _ h (fun _ q => by cases q) z, l.keep _ _ h (fun _ q => by cases q) z, RepF.le l _ r⟩
section
variable (K : PySem.W.Frag) (B : Addr → Prop) (ow : List (Option Addr))
def Post {α β : Type} (m : List Addr) (H : Hp) (RP : Wo → β → α → Prop) (W : Value → Option Addr → Hp → Prop) (Q : α → Hp → Prop) : R β → Prop
  | .ok y S' => ∀ a m' H', Fut m H m' H' → Cells K B m' ow H' S' → RP (wo K B m' ow H') y a → Q a H'
  | .er x S' => ∀ c d m' H', Fut m H m' H' → Cells K B m' ow H' S' → ExR (wo K B m' ow H') x c d → W c d H'
  | .no => False
end
section
variable {K : PySem.W.Frag} {B : Addr → Prop} {ow : List (Option Addr)} {m m' : List Addr} {H H' : Hp} {α β γ δ : Type} {RP : Wo → β → α → Prop} {RP2 : Wo → δ → γ → Prop} {W : Value → Option Addr → Hp → Prop} {Q : α → Hp → Prop} {Q2 : γ → Hp → Prop}
theorem Post.go {r : R β} (h : Post K B ow m H RP W Q r) (f : Fut m H m' H') : Post K B ow m' H' RP W Q r := by
  cases r with
  | ok y S' => exact fun a m2 H2 f2 => h a m2 H2 (f.trans f2)
  | er x S' => exact fun c d m2 H2 f2 => h c d m2 H2 (f.trans f2)
  | no => exact h
theorem Post.bind {r : R β} {k : β → Store → R δ} (h : Post K B ow m H RP2 W Q2 (r.bind k)) (g : ∀ y S' a m' H', Fut m H m' H' → Cells K B m' ow H' S' → RP (wo K B m' ow H') y a → Post K B ow m' H' RP2 W Q2 (k y S') → Q a H') : Post K B ow m H RP W Q r := by
  cases r with
  | ok y S' => exact fun a m2 H2 f2 c2 r2 => g y S' a m2 H2 f2 c2 r2 (Post.go h f2)
  | er x S' => exact h
  | no => exact h
theorem Post.imp {r : R β} {Q' : α → Hp → Prop} (h : Post K B ow m H RP W Q r) (g : ∀ a H', Q a H' → Q' a H') : Post K B ow m H RP W Q' r := by
  cases r with
  | ok y S' => exact fun a m2 H2 f2 c2 r2 => g a H2 (h a m2 H2 f2 c2 r2)
  | er x S' => exact h
  | no => exact h
end
abbrev Sx (α : Type) := En → Store → R α
def RB : Wo → Bool → Bool → Prop := fun _ x y => y = x
section
variable (K : PySem.W.Frag) (X : Cx) (W : WX)
structure Ev (ex : Expr) (f : Sx D) : Prop where
  run : ∃ te, PE X ex te ∧ ∀ b m ow H σ e S Q, At K b m ow H σ e S → Post K b.B ow m H Rep (fun c d => W c d σ) Q (f e S) → te σ H Q
structure Et (ex : Expr) (f : Sx Bool) : Prop where
  run : ∃ tt, PT X ex tt ∧ ∀ b m ow H σ e S Q, At K b m ow H σ e S → Post K b.B ow m H RB (fun c d => W c d σ) Q (f e S) → tt σ H Q
structure Ew (ex : Expr) (f : Sx Bool) : Prop where
  run : ∃ tt, PW X ex tt ∧ ∀ b m ow H σ e S Q, At K b m ow H σ e S → Post K b.B ow m H RB (fun c d => W c d σ) Q (f e S) → tt σ H Q
structure Ea (es : List Expr) (f : Sx (List D)) : Prop where
  run : ∃ ta, PA X es ta ∧ ∀ b m ow H σ e S Q, At K b m ow H σ e S → Post K b.B ow m H Reps (fun c d => W c d σ) Q (f e S) → ta σ H Q
end
abbrev Sy := En → Store → RS
def Ends1 (K : PySem.W.Frag) (b : Bs) (w : Wo) (N : L2.St → Hp → Prop) (e' : En) (S' : Store) : Prop := ∀ σ' m' ow' H', At K b m' ow' H' σ' e' S' → Le w (wo K b.B m' ow' H') → N σ' H'
def PostS (K : PySem.W.Frag) (b : Bs) (w : Wo) (W : WX) (D : Ends) : RS → Prop
  | .nx e' S' => Ends1 K b w D.nx e' S'
  | .bk e' S' => Ends1 K b w D.bk e' S'
  | .ct e' S' => Ends1 K b w D.ct e' S'
  | .rt d S' => ∀ v m' ow' H', Cells K b.B m' ow' H' S' → Fut b.m0 b.H0 m' H' → (∀ a, some a ∈ ow' → Fr b.H0 a) → Rep (wo K b.B m' ow' H') d v → D.rt v H'
  | .er x e' S' => ∀ c d σ' m' ow' H', At K b m' ow' H' σ' e' S' → Le w (wo K b.B m' ow' H') → ExR (wo K b.B m' ow' H') x c d → W c d σ' H'
  | .no => False
section
variable (K : PySem.W.Frag) (X : Cx) (W : WX)
structure Es (st : Stmt) (f : Sy) : Prop where
  run : ∃ ts, PS X st ts ∧ ∀ b m ow H σ e S D, At K b m ow H σ e S → PostS K b (wo K b.B m ow H) W D (f e S) → ts D σ H
structure Ess (st : List Stmt) (f : Sy) : Prop where
  run : ∃ ts, PSs X st ts ∧ ∀ b m ow H σ e S D, At K b m ow H σ e S → PostS K b (wo K b.B m ow H) W D (f e S) → ts D σ H
end
section
variable {K : PySem.W.Frag} {b : Bs} {w w' : Wo} {W : WX} {D D' : Ends}
theorem Ends1.le {N : L2.St → Hp → Prop} {e : En} {S : Store} (h : Ends1 K b w N e S) (l : Le w w') : Ends1 K b w' N e S := fun σ' m' ow' H' t l' => h σ' m' ow' H' t (l.trans l')
theorem PostS.le {r : RS} (h : PostS K b w W D r) (l : Le w w') : PostS K b w' W D r := by
  cases r with
  | nx e' S' => exact Ends1.le h l
  | bk e' S' => exact Ends1.le h l
  | ct e' S' => exact Ends1.le h l
  | rt d S' => exact h
  | er x e' S' => exact fun c d σ' m' ow' H' t l' => h c d σ' m' ow' H' t (l.trans l')
  | no => exact h
end
def RS.seq (r : RS) (k : En → Store → RS) : RS := match r with
  | .nx e S => k e S
  | r => r
@[simp] theorem seq_nx {e : En} {S : Store} {k : En → Store → RS} : (RS.nx e S).seq k = k e S := rfl
@[simp] theorem seq_rt {d : D} {S : Store} {k : En → Store → RS} : (RS.rt d S).seq k = .rt d S := rfl
@[simp] theorem seq_bk {e : En} {S : Store} {k : En → Store → RS} : (RS.bk e S).seq k = .bk e S := rfl
@[simp] theorem seq_ct {e : En} {S : Store} {k : En → Store → RS} : (RS.ct e S).seq k = .ct e S := rfl
@[simp] theorem seq_er {x : Exn} {e : En} {S : Store} {k : En → Store → RS} : (RS.er x e S).seq k = .er x e S := rfl
@[simp] theorem seq_no {k : En → Store → RS} : RS.no.seq k = .no := rfl
@[simp] theorem ite_seq {c : Prop} [Decidable c] {r s : RS} {k : En → Store → RS} : (if c then r else s).seq k = if c then r.seq k else s.seq k := by split <;> rfl
def R.run {α : Type} (r : R α) (e : En) (k : α → Store → RS) : RS := match r with
  | .ok a S => k a S
  | .er x S => .er x e S
  | .no => .no
@[simp] theorem run_ok {α : Type} {a : α} {S : Store} {e : En} {k : α → Store → RS} : (R.ok a S).run e k = k a S := rfl
@[simp] theorem run_er {α : Type} {x : Exn} {S : Store} {e : En} {k : α → Store → RS} : (R.er x S : R α).run e k = .er x e S := rfl
@[simp] theorem run_no {α : Type} {e : En} {k : α → Store → RS} : (R.no : R α).run e k = .no := rfl
@[simp] theorem ite_run {α : Type} {c : Prop} [Decidable c] {r s : R α} {e : En} {k : α → Store → RS} : (if c then r else s).run e k = if c then r.run e k else s.run e k := by split <;> rfl
@[simp] theorem bind_run {α β : Type} {r : R α} {g : α → Store → R β} {e : En} {k : β → Store → RS} : (r.bind g).run e k = r.run e fun a S => (g a S).run e k := by cases r <;> rfl
@[simp] theorem run_seq {α : Type} {r : R α} {e : En} {k : α → Store → RS} {g : En → Store → RS} : (r.run e k).seq g = r.run e fun a S => (k a S).seq g := by cases r <;> rfl
@[simp] theorem bind_bind {α β γ : Type} {r : R α} {g : α → Store → R β} {k : β → Store → R γ} : (r.bind g).bind k = r.bind fun a S => (g a S).bind k := by cases r <;> rfl
@[simp] theorem seq_seq {r : RS} {g k : En → Store → RS} : (r.seq g).seq k = r.seq fun e S => (g e S).seq k := by cases r <;> rfl
theorem PostS.run {K : PySem.W.Frag} {b : Bs} {W : WX} {D : Ends} {m : List Addr} {ow : List (Option Addr)} {H : Hp} {σ : L2.St} {e : En} {S : Store} {α β : Type} {RP : Wo → β → α → Prop} {r : R β} {k : β → Store → RS} {Q : α → Hp → Prop}
    (t : At K b m ow H σ e S) (h : PostS K b (wo K b.B m ow H) W D (r.run e k))
    (g : ∀ y S' a m' H', At K b m' ow H' σ e S' → Fut m H m' H' → RP (wo K b.B m' ow H') y a → PostS K b (wo K b.B m' ow H') W D (k y S') → Q a H') : Post K b.B ow m H RP (fun c d => W c d σ) Q r := by
  cases r with
  | ok y S' => exact fun a m' H' f c r => g y S' a m' H' (t.go f c) f r (PostS.le h f.le)
  | er x S' => exact fun c d m' H' f cl r => h c d σ m' ow H' (t.go f cl) f.le r
  | no => exact h
end Sh
namespace Sh
open PySem PySem.Spec PyProof.Rows L2 Nk
variable [TabSet]
section
variable {w w' : Wo}
theorem reps_len : ∀ {ds : List D} {vs : List V}, Reps w ds vs → vs.length = ds.length
  | [], _, h => by unfold Reps at h; rw [h]; rfl
  | d :: ds, _, h => by unfold Reps at h; obtain ⟨v, r, rfl, _, h⟩ := h; simp [reps_len h]
theorem reps_get : ∀ {ds : List D} {vs : List V} {i : Nat} {d : D}, Reps w ds vs → ds[i]? = some d → ∃ v, vs[i]? = some v ∧ Rep w d v
  | [], _, _, _, _, e => by simp at e
  | x :: ds, _, 0, d, h, e => by unfold Reps at h; obtain ⟨v, r, rfl, a, h⟩ := h; simp at e; subst e; exact ⟨v, rfl, a⟩
  | x :: ds, _, i + 1, d, h, e => by unfold Reps at h; obtain ⟨v, r, rfl, a, h⟩ := h; simpa using reps_get h (by simpa using e)
theorem reps_nil : Reps w [] [] := by unfold Reps; rfl
theorem reps_cons {d : D} {v : V} {ds : List D} {vs : List V} (a : Rep w d v) (b : Reps w ds vs) : Reps w (d :: ds) (v :: vs) := by unfold Reps; exact ⟨v, vs, rfl, a, b⟩
theorem reps_app : ∀ {ds : List D} {vs : List V} {es : List D} {us : List V}, Reps w ds vs → Reps w es us → Reps w (ds ++ es) (vs ++ us)
  | [], _, _, _, h, g => by unfold Reps at h; rw [h]; exact g
  | d :: ds, _, _, _, h, g => by unfold Reps at h; obtain ⟨v, r, rfl, a, h⟩ := h; exact reps_cons a (reps_app h g)
theorem reps_take : ∀ {ds : List D} {vs : List V} (n : Nat), Reps w ds vs → Reps w (ds.take n) (vs.take n)
  | [], _, n, h => by unfold Reps at h; rw [h]; simp; exact reps_nil
  | d :: ds, _, 0, h => by simp; exact reps_nil
  | d :: ds, _, n + 1, h => by unfold Reps at h; obtain ⟨v, r, rfl, a, h⟩ := h; exact reps_cons a (reps_take n h)
theorem reps_drop : ∀ {ds : List D} {vs : List V} (n : Nat), Reps w ds vs → Reps w (ds.drop n) (vs.drop n)
  | [], _, n, h => by unfold Reps at h; rw [h]; simp; exact reps_nil
  | d :: ds, _, 0, h => h
  | d :: ds, _, n + 1, h => by unfold Reps at h; obtain ⟨v, r, rfl, a, h⟩ := h; exact reps_drop n h
theorem reps_flat {ds : List D} {vs : List V} (h : Reps w ds vs) : ∀ n, Reps w (List.replicate n ds).flatten (List.replicate n vs).flatten
  | 0 => reps_nil
  | n + 1 => by simpa [List.replicate_succ] using reps_app h (reps_flat h n)
theorem reps_set {d : D} {v : V} (a : Rep w d v) : ∀ {ds : List D} {vs : List V} (i : Nat), Reps w ds vs → Reps w (ds.set i d) (vs.set i v)
  | [], _, i, h => by unfold Reps at h; rw [h]; exact reps_nil
  | x :: ds, _, 0, h => by unfold Reps at h; obtain ⟨u, r, rfl, _, h⟩ := h; exact reps_cons a h
  | x :: ds, _, i + 1, h => by unfold Reps at h; obtain ⟨u, r, rfl, b, h⟩ := h; exact reps_cons b (reps_set a i h)
theorem reps_rev : ∀ {ds : List D} {vs : List V}, Reps w ds vs → Reps w ds.reverse vs.reverse
  | [], _, h => by unfold Reps at h; rw [h]; exact reps_nil
  | d :: ds, _, h => by unfold Reps at h; obtain ⟨v, r, rfl, a, h⟩ := h; simpa using reps_app (reps_rev h) (reps_cons a reps_nil)
theorem reps_ints : ∀ (ns : List Int), Reps w (ns.map D.int) (ns.map V.int)
  | [] => reps_nil
  | n :: r => reps_cons (by unfold Rep; rfl) (reps_ints r)
theorem repF_get : ∀ {fs : List (Str × D)} {gs : List (Str × V)} {f : Str} {d : D}, RepF w fs gs → fs.lookup f = some d → ∃ v, gs.lookup f = some v ∧ Rep w d v
  | [], _, _, _, _, e => by simp at e
  | (g, x) :: fs, _, f, d, h, e => by
    unfold RepF at h
    obtain ⟨v, r, rfl, a, h⟩ := h
    simp only [List.lookup_cons] at e ⊢
    cases q : f == g with
    | true => rw [q] at e; exact ⟨v, rfl, by cases e; exact a⟩
    | false => rw [q] at e; exact repF_get h e
theorem repF_none : ∀ {fs : List (Str × D)} {gs : List (Str × V)} {f : Str}, RepF w fs gs → fs.lookup f = none → gs.lookup f = none
  | [], _, _, h, e => by unfold RepF at h; rw [h]; rfl
  | (g, x) :: fs, _, f, h, e => by
    unfold RepF at h
    obtain ⟨v, r, rfl, a, h⟩ := h
    simp only [List.lookup_cons] at e ⊢
    cases q : f == g with
    | true => rw [q] at e; cases e
    | false => rw [q] at e; exact repF_none h e
theorem repF_len : ∀ {fs : List (Str × D)} {gs : List (Str × V)}, RepF w fs gs → gs.length = fs.length
  | [], _, h => by unfold RepF at h; rw [h]; rfl
  | (g, x) :: fs, _, h => by unfold RepF at h; obtain ⟨v, r, rfl, _, h⟩ := h; simp [repF_len h]
end
abbrev Wo.at (w : Wo) (H : Hp) : Wo := { w with H := H }
theorem Le.same {w : Wo} {H' : Hp} (s : Same w.H H') : Le w (w.at H') := ⟨rfl, fun _ _ _ _ h => h, fun _ _ h => h, fun a o h _ _ => s a o h, fun a o u h => s a _ h⟩
def Fr2 (H : Hp) (a : Addr) : Prop := ∀ o, H a = some o → (∃ ps, o = .tbl ps) ∨ ∃ xs, o = .tup xs
theorem Fr2.none {H : Hp} {a : Addr} (h : H a = Option.none) : Fr2 H a := fun o e => by rw [h] at e; cases e
theorem Fr2.tup {H : Hp} {a : Addr} {xs : List V} (h : H a = some (.tup xs)) : Fr2 H a := fun o e => by rw [h] at e; cases e; exact .inr ⟨_, rfl⟩
theorem Fr.two {H : Hp} {a : Addr} (f : Fr H a) : Fr2 H a := fun o e => .inl (f o e)
def Wo.Full (w : Wo) : Prop := ∀ a, w.Z a → ¬ Fr2 w.H a
theorem Cells.full {K : PySem.W.Frag} {B : Addr → Prop} {m : List Addr} {ow : List (Option Addr)} {H : Hp} {S : Store} (c : Cells K B m ow H S) : (wo K B m ow H).Full := by
  intro a h f
  have hf : ¬ Fr H a := by
    rcases h with h | h | h
    · exact c.hB a h
    · obtain ⟨n, hn⟩ := List.mem_iff_getElem?.mp h
      have hl := (List.getElem?_eq_some_iff.mp hn).1
      obtain ⟨o, e, n1, _⟩ := (c.cs n a (S[n]'(by rw [← c.len]; exact hl)) hn (List.getElem?_eq_getElem _)).some
      exact fun z => z.no e n1
    · exact c.oh a h
  exact hf fun o e => (f o e).elim id fun ⟨xs, q⟩ => (c.nt a h xs (q ▸ e)).elim
theorem Cells.fullF {K : PySem.W.Frag} {B : Addr → Prop} {m : List Addr} {ow : List (Option Addr)} {H : Hp} {S : Store} (c : Cells K B m ow H S) (a : Addr) (h : zf B m ow a) : ¬ Fr H a := fun z => c.full a h z.two
theorem rep_tup {w : Wo} (f : w.Full) {p : Addr} {vs : List V} {ds : List D} (hp : w.H p = none) (hl : vs.length ≤ sizeLine) (r : Reps w ds vs) : Rep (w.at (upd w.H p (.tup vs))) (.tup ds) (.ref p) := by
  have s : Same w.H (upd w.H p (.tup vs)) := same_mut (Same.refl _) hp
  unfold Rep
  exact ⟨p, vs, rfl, ⟨⟨fun z => f p z (.none hp), upd_same⟩, hl⟩, Reps.le (Le.same s) ds r⟩
theorem rep_lst {w : Wo} (f : w.Full) {p : Addr} {vs : List V} {ds : List D} (hp : w.H p = none) (hl : vs.length ≤ sizeLine) (r : Reps w ds vs) : Rep (w.at (upd w.H p (.lst vs))) (.lst ds) (.ref p) := by
  have s : Same w.H (upd w.H p (.lst vs)) := same_mut (Same.refl _) hp
  unfold Rep
  exact ⟨p, vs, rfl, ⟨fun z => f p z (.none hp), upd_same, hl⟩, Reps.le (Le.same s) ds r⟩
def Pz (w : Wo) (Q : VK) : Option D → Prop
  | some d => ∀ v H', Same w.H H' → Rep (w.at H') d v → Q v H'
  | none => False
theorem Pz.ite {w : Wo} {Q : VK} {d : D} {c : Prop} [Decidable c] (h : Pz w Q (if c then some d else none)) : c ∧ Pz w Q (some d) := by
  split at h
  · exact ⟨by assumption, h⟩
  · exact h.elim
theorem Pz.here {w : Wo} {Q : VK} {d : D} {v : V} (h : Pz w Q (some d)) (r : Rep w d v) : Q v w.H := h v w.H (Same.refl _) r
structure OpS (K : PySem.W.Frag) (X : Cx) (f : Value → Value → Sem Value) (o : D → D → Option D) : Prop where
  run : ∃ r, OpR X f r ∧ ∀ (w : Wo), w.K = K → w.Full → ∀ x y dx dy Q, Rep w dx x → Rep w dy y → Pz w Q (o dx dy) → r x y w.H Q
structure IxS (K : PySem.W.Frag) (X : Cx) (o : D → D → Option D) : Prop where
  run : ∃ r, IxR X r ∧ ∀ (w : Wo), w.K = K → w.Full → ∀ x y dx dy Q, Rep w dx x → Rep w dy y → Pz w Q (o dx dy) → r x y w.H Q
structure CallS (K : PySem.W.Frag) (X : Cx) (f : Value) (o : List D → Option D) : Prop where
  run : ∃ r, CallR X f r ∧ ∀ (w : Wo), w.K = K → w.Full → ∀ xs ds Q, Reps w ds xs → Pz w Q (o ds) → r xs w.H Q
def alt2 (o p : D → D → Option D) (x : D) (y : D) : Option D := match o x y with
  | some d => some d
  | none => p x y
def alt1 {α : Type} (o p : α → Option D) (x : α) : Option D := match o x with
  | some d => some d
  | none => p x
section
variable {K : PySem.W.Frag} {X : Cx}
theorem OpS.or {f : Value → Value → Sem Value} {o p : D → D → Option D} (h : OpS K X f o) (g : OpS K X f p) : OpS K X f (alt2 o p) := by
  obtain ⟨r1, a1, b1⟩ := h.run
  obtain ⟨r2, a2, b2⟩ := g.run
  refine ⟨_, op_alt a1 a2, fun w hw hf x y dx dy Q rx ry q => ?_⟩
  unfold alt2 at q
  cases e : o dx dy with
  | some d => rw [e] at q; exact .inl (b1 w hw hf x y dx dy Q rx ry (by rw [e]; exact q))
  | none => rw [e] at q; exact .inr (b2 w hw hf x y dx dy Q rx ry q)
theorem IxS.or {o p : D → D → Option D} (h : IxS K X o) (g : IxS K X p) : IxS K X (alt2 o p) := by
  obtain ⟨r1, a1, b1⟩ := h.run
  obtain ⟨r2, a2, b2⟩ := g.run
  refine ⟨_, a1.or a2, fun w hw hf x y dx dy Q rx ry q => ?_⟩
  unfold alt2 at q
  cases e : o dx dy with
  | some d => rw [e] at q; exact .inl (b1 w hw hf x y dx dy Q rx ry (by rw [e]; exact q))
  | none => rw [e] at q; exact .inr (b2 w hw hf x y dx dy Q rx ry q)
theorem CallS.or {f : Value} {o p : List D → Option D} (h : CallS K X f o) (g : CallS K X f p) : CallS K X f (alt1 o p) := by
  obtain ⟨r1, a1, b1⟩ := h.run
  obtain ⟨r2, a2, b2⟩ := g.run
  refine ⟨fun xs H Q => r1 xs H Q ∨ r2 xs H Q, fun pins s σ H xs us Q I r h => h.elim (a1 pins s σ H xs us Q I r) (a2 pins s σ H xs us Q I r), fun w hw hf xs ds Q rx q => ?_⟩
  unfold alt1 at q
  cases e : o ds with
  | some d => rw [e] at q; exact .inl (b1 w hw hf xs ds Q rx (by rw [e]; exact q))
  | none => rw [e] at q; exact .inr (b2 w hw hf xs ds Q rx q)
end
def oI (C : Int → Int → Prop) [∀ i j, Decidable (C i j)] (g : Int → Int → D) : D → D → Option D
  | .int i, .int j => if C i j then some (g i j) else none
  | _, _ => none
def oI0 (g : Int → Int → D) : D → D → Option D
  | .int i, .int j => some (g i j)
  | _, _ => none
section
variable {K : PySem.W.Frag} {X : Cx} {f : Value → Value → Sem Value}
theorem ops_I0 {g : Int → Int → V} {g' : Int → Int → D} (h : OpR X f (rI0 g)) (hg : ∀ w i j, Rep w (g' i j) (g i j)) : OpS K X f (oI0 g') := by
  refine ⟨_, h, fun w hw hf x y dx dy Q rx ry q => ?_⟩
  cases dx <;> cases dy <;> try exact (q : False).elim
  unfold Rep at rx ry
  subst rx ry
  exact ⟨_, _, rfl, rfl, q.here (hg w _ _)⟩
theorem ops_I {C : Int → Int → Prop} [∀ i j, Decidable (C i j)] {g : Int → Int → V} {g' : Int → Int → D} (h : OpR X f (rI C g)) (hg : ∀ w i j, Rep w (g' i j) (g i j)) : OpS K X f (oI C g') := by
  refine ⟨_, h, fun w hw hf x y dx dy Q rx ry q => ?_⟩
  cases dx <;> cases dy <;> try exact (q : False).elim
  unfold Rep at rx ry
  subst rx ry
  obtain ⟨c, q⟩ := Pz.ite q
  exact ⟨_, _, rfl, rfl, c, q.here (hg w _ _)⟩
theorem rep_int {w : Wo} {i : Int} : Rep w (.int i) (.int i) := by unfold Rep; rfl
theorem rep_bl {w : Wo} {i : Bool} : Rep w (.bl i) (.bl i) := by unfold Rep; rfl
theorem rep_non {w : Wo} : Rep w .non .non := by unfold Rep; rfl
theorem rep_str {w : Wo} {x : Str} (h : x.length ≤ sizeLine) : Rep w (.str x) (.str x) := by unfold Rep; exact ⟨rfl, h⟩
end
instance {i j : Int} : Decidable (CMul i j) := inferInstanceAs (Decidable (_ ∨ _))
instance {i j : Int} : Decidable (CMulW i j) := inferInstanceAs (Decidable (_ < _))
instance {i j : Int} : Decidable (CDivW i j) := inferInstanceAs (Decidable (_ ∧ _))
instance {i j : Int} : Decidable (CPow i j) := inferInstanceAs (Decidable (_ ∧ _ ∧ _))
def oStr (C : Str → Str → Prop) [∀ i j, Decidable (C i j)] (g : Str → Str → D) : D → D → Option D
  | .str x, .str y => if C x y then some (g x y) else none
  | _, _ => none
def oCatL : D → D → Option D
  | .lst x, .lst y => if x.length + y.length ≤ sizeLine then some (.lst (x ++ y)) else none
  | _, _ => none
def oCatT : D → D → Option D
  | .tup x, .tup y => if x.length + y.length ≤ sizeLine then some (.tup (x ++ y)) else none
  | _, _ => none
def okK (n : Int) : Bool := match n with
  | .ofNat k => Nat.ble k 9223372036854775807
  | .negSucc k => Nat.ble k 9223372036854775807
theorem of_okK {n : Int} (h : okK n = true) : -(2 ^ 63) ≤ n ∧ n < 2 ^ 63 := by
  cases n with
  | ofNat k =>
    have h2 : k ≤ 9223372036854775807 := Nat.le_of_ble_eq_true h
    exact ⟨by simp only [Int.ofNat_eq_natCast]; omega, by simp only [Int.ofNat_eq_natCast]; omega⟩
  | negSucc k => 
    have h2 : k ≤ 9223372036854775807 := Nat.le_of_ble_eq_true h
    exact ⟨by rw [Int.negSucc_eq]; omega, by rw [Int.negSucc_eq]; omega⟩
theorem okK_of {n : Int} (h : -(2 ^ 63) ≤ n) (h2 : n < 2 ^ 63) : okK n = true := by
  cases n with
  | ofNat k =>
    simp only [Int.ofNat_eq_natCast] at h2
    exact Nat.ble_eq_true_of_le (by omega)
  | negSucc k => 
    rw [Int.negSucc_eq] at h
    exact Nat.ble_eq_true_of_le (by omega)
def oRep : D → D → Option D
  | .lst x, .int k => if okK k = true ∧ x.length * k.toNat ≤ sizeLine then some (.lst (List.replicate k.toNat x).flatten) else none
  | _, _ => none
def dAdd : D → D → Option D := alt2 (oI0 fun i j => .int (i + j)) (alt2 (oStr (fun x y => x.length + y.length ≤ sizeLine) fun x y => .str (x ++ y)) (alt2 oCatL oCatT))
def dSub : D → D → Option D := oI0 fun i j => .int (i - j)
def dMul : D → D → Option D := alt2 (oI CMul fun i j => .int (i * j)) (alt2 (oI CMulW fun i j => .int (i * j)) oRep)
def dFdiv : D → D → Option D := oI CDivW fun i j => .int (i / j)
def dMod : D → D → Option D := oI (fun _ j => 0 < j) fun i j => .int (i % j)
def dPow : D → D → Option D := oI CPow fun i j => .int (i ^ j.toNat)
section
variable {K : PySem.W.Frag} {X : Cx} (hK : X.K = K)
include hK
theorem ops_add : OpS K X (binaryOp .Add) dAdd := by
  subst hK
  refine (ops_I0 op_add fun _ _ _ => rep_int).or (.or ?_ (.or ?_ ?_))
  · refine ⟨_, op_add_str, fun w hw hf x y dx dy Q rx ry q => ?_⟩
    cases dx <;> cases dy <;> try exact (q : False).elim
    unfold Rep at rx ry
    obtain ⟨rfl, rx⟩ := rx
    obtain ⟨rfl, ry⟩ := ry
    obtain ⟨h, q⟩ := Pz.ite q
    exact ⟨_, _, rfl, rfl, h, q.here (rep_str (by rw [str_len]; exact h))⟩
  · refine ⟨_, op_cat, fun w hw hf x y dx dy Q rx ry q => ?_⟩
    cases dx <;> cases dy <;> try exact (q : False).elim
    unfold Rep at rx ry
    obtain ⟨a, vs, rfl, ⟨_, ha, _⟩, rx⟩ := rx
    obtain ⟨b, us, rfl, ⟨_, hb, _⟩, ry⟩ := ry
    obtain ⟨h, q⟩ := Pz.ite q
    rw [← reps_len rx, ← reps_len ry] at h
    exact ⟨a, b, vs, us, rfl, rfl, ha, hb, h, fun p hp => q _ _ (same_mut (Same.refl _) hp) (rep_lst hf hp (by simpa using h) (reps_app rx ry))⟩
  · refine ⟨_, op_catA, fun w hw hf x y dx dy Q rx ry q => ?_⟩
    cases dx <;> cases dy <;> try exact (q : False).elim
    obtain ⟨h, q⟩ := Pz.ite q
    have rx0 := rx
    have ry0 := ry
    unfold Rep at rx ry
    obtain ⟨a, vs, rfl, ta, rx⟩ := rx
    obtain ⟨b, us, rfl, tb, ry⟩ := ry
    rw [← reps_len rx, ← reps_len ry] at h
    refine ⟨a, b, vs, us, rfl, rfl, hw ▸ ta.sq, hw ▸ tb.sq, h, fun e => ?_, fun _ e => ?_, fun _ _ p hp => q _ _ (same_mut (Same.refl _) hp) (rep_tup hf hp (by simpa using h) (reps_app rx ry))⟩
    · have e2 := reps_len rx
      rw [e] at e2
      rw [List.length_eq_zero_iff.mp e2.symm, List.nil_append] at q
      exact q.here ry0
    · have e2 := reps_len ry
      rw [e] at e2
      rw [List.length_eq_zero_iff.mp e2.symm, List.append_nil] at q
      exact q.here rx0
theorem ops_sub : OpS K X (binaryOp .Sub) dSub := ops_I0 op_sub fun _ _ _ => rep_int
theorem ops_mul : OpS K X (binaryOp .Mult) dMul := by
  refine (ops_I op_mul fun _ _ _ => rep_int).or (.or (ops_I op_mulW fun _ _ _ => rep_int) ?_)
  refine ⟨_, op_rep, fun w hw hf x y dx dy Q rx ry q => ?_⟩
  cases dx <;> cases dy <;> try exact (q : False).elim
  unfold Rep at rx ry
  obtain ⟨a, vs, rfl, ⟨_, ha, _⟩, rx⟩ := rx
  subst ry
  obtain ⟨⟨h0, h3⟩, q⟩ := Pz.ite q
  obtain ⟨h1, h2⟩ := of_okK h0
  rw [← reps_len rx] at h3
  exact ⟨a, _, vs, rfl, rfl, ha, h1, h2, h3, fun p hp => q _ _ (same_mut (Same.refl _) hp) (rep_lst hf hp (by simp [List.length_flatten, List.map_replicate, Nat.mul_comm] at h3 ⊢; exact h3) (reps_flat rx _))⟩
theorem ops_fdiv : OpS K X (binaryOp .FloorDiv) dFdiv := ops_I op_fdivW fun _ _ _ => rep_int
theorem ops_mod : OpS K X (binaryOp .Mod) dMod := ops_I op_mod fun _ _ _ => rep_int
theorem ops_pow : OpS K X (binaryOp .Pow) dPow := ops_I op_pow fun _ _ _ => rep_int
end
mutual
def D.py : D → Option PyData
  | .non => some .none
  | .bl b => some (.bool b)
  | .int i => some (.int i)
  | .str x => some (.str x)
  | .tup ds => (D.pys ds).map .tuple
  | .lst ds => (D.pys ds).map .list
  | _ => none
def D.pys : List D → Option (List PyData)
  | [] => some []
  | d :: ds => match D.py d, D.pys ds with
    | some p, some ps => some (p :: ps)
    | _, _ => none
end
mutual
theorem rep_dp {w : Wo} : ∀ (d : D) {v : V} {p : PyData}, Rep w d v → d.py = some p → Dp w.K w.H v p ∧ p.plain = true
  | .non, v, p, r, e => by unfold Rep at r; unfold D.py at e; cases e; subst r; exact ⟨.non, rfl⟩
  | .bl _, v, p, r, e => by unfold Rep at r; unfold D.py at e; cases e; subst r; exact ⟨.bl _, rfl⟩
  | .int _, v, p, r, e => by unfold Rep at r; unfold D.py at e; cases e; subst r; exact ⟨.int _, rfl⟩
  | .str _, v, p, r, e => by unfold Rep at r; unfold D.py at e; cases e; obtain ⟨rfl, _⟩ := r; exact ⟨.str _, rfl⟩
  | .tup ds, v, p, r, e => by
    unfold Rep at r
    unfold D.py at e
    obtain ⟨a, vs, rfl, t, r⟩ := r
    cases q : D.pys ds with
    | none => rw [q] at e; cases e
    | some ps =>
      rw [q] at e
      cases e
      obtain ⟨h, g⟩ := reps_dp ds r q
      exact ⟨.tup t.sq h, g⟩
  | .lst ds, v, p, r, e => by
    unfold Rep at r
    unfold D.py at e
    obtain ⟨a, vs, rfl, t, r⟩ := r
    cases q : D.pys ds with
    | none => rw [q] at e; cases e
    | some ps =>
      rw [q] at e
      cases e
      obtain ⟨h, g⟩ := reps_dp ds r q
      exact ⟨.lst t.sq h, g⟩
  | .ty _, v, p, r, e => by unfold D.py at e; cases e
  | .cls _, v, p, r, e => by unfold D.py at e; cases e
  | .obj _ _, v, p, r, e => by unfold D.py at e; cases e
  | .exc _ _, v, p, r, e => by unfold D.py at e; cases e
  | .dk _, v, p, r, e => by unfold D.py at e; cases e
  | .dt _, v, p, r, e => by unfold D.py at e; cases e
  | .ref _, v, p, r, e => by unfold D.py at e; cases e
  | .scr _, v, p, r, e => by unfold D.py at e; cases e
  | .adr _, v, p, r, e => by unfold D.py at e; cases e
  | .fk _, v, p, r, e => by unfold D.py at e; cases e
  | .ft _, v, p, r, e => by unfold D.py at e; cases e
  | .tpl _, v, p, r, e => by unfold D.py at e; cases e
theorem reps_dp {w : Wo} : ∀ (ds : List D) {vs : List V} {ps : List PyData}, Reps w ds vs → D.pys ds = some ps → DpAll w.K w.H vs ps ∧ PyData.plainAll ps = true
  | [], vs, ps, r, e => by unfold Reps at r; unfold D.pys at e; cases e; subst r; exact ⟨.nil, rfl⟩
  | d :: ds, vs, ps, r, e => by
    unfold Reps at r
    unfold D.pys at e
    obtain ⟨v, us, rfl, a, r⟩ := r
    cases q1 : D.py d with
    | none => rw [q1] at e; cases e
    | some p =>
      cases q2 : D.pys ds with
      | none => rw [q1, q2] at e; cases e
      | some qs =>
        rw [q1, q2] at e
        cases e
        obtain ⟨h1, g1⟩ := rep_dp d a q1
        obtain ⟨h2, g2⟩ := reps_dp ds r q2
        exact ⟨.cons h1 h2, by show (PyData.plain p && PyData.plainAll qs) = true; rw [g1, g2]; rfl⟩
end
def dEqP (neg : Bool) (x : D) (y : D) : Option D := match x.py, y.py with
  | some p, some q => if p.depth ≤ 60 then some (.bl (if neg then !PyData.eqv p q else PyData.eqv p q)) else none
  | _, _ => none
def dEq : D → D → Option D := dEqP false
def dNe : D → D → Option D := dEqP true
def oB0 (g : Int → Int → Bool) : D → D → Option D := oI0 fun i j => .bl (g i j)
def oSB (g : Str → Str → Bool) : D → D → Option D
  | .str x, .str y => some (.bl (g x y))
  | _, _ => none
def dLt : D → D → Option D := alt2 (oB0 fun i j => decide (i < j)) (oSB fun i j => decide (i.cps.toList < j.cps.toList))
def dLe : D → D → Option D := alt2 (oB0 fun i j => decide (i ≤ j)) (oSB fun i j => !decide (j.cps.toList < i.cps.toList))
def dGt : D → D → Option D := alt2 (oB0 fun i j => decide (j < i)) (oSB fun i j => decide (j.cps.toList < i.cps.toList))
def dGe : D → D → Option D := alt2 (oB0 fun i j => decide (j ≤ i)) (oSB fun i j => !decide (i.cps.toList < j.cps.toList))
def D.sign : D → Option Nat
  | .str x => if x.cps.size = 1 then x.cps[0]? else none
  | _ => none
def dInS (neg : Bool) : D → D → Option D
  | x, .str z => match x.sign with
    | some c => some (.bl (if neg then !decide (c ∈ z.cps.toList) else decide (c ∈ z.cps.toList)))
    | none => none
  | _, _ => none
def dInL (neg : Bool) : D → D → Option D
  | x, .lst ys => match x.py, D.pys ys with
    | some p, some qs => if SeqAt.shaped p = true ∧ SeqAt.shaped (.list qs) = true then some (.bl (if neg then !qs.any fun z => PyData.eqv z p else qs.any fun z => PyData.eqv z p)) else none
    | _, _ => none
  | _, _ => none
def D.flat : D → Bool
  | .non | .bl _ | .int _ | .str _ => true
  | _ => false
def D.eqF : D → D → Bool
  | .non, .non => true
  | .bl a, .bl b => a == b
  | .bl a, .int b => (if a then 1 else 0) == b
  | .int a, .bl b => a == (if b then 1 else 0)
  | .int a, .int b => a == b
  | .str a, .str b => a == b
  | _, _ => false
def dInT (neg : Bool) : D → D → Option D
  | x, .tup ys => if x.flat && ys.all D.flat then some (.bl (if neg then !ys.any fun y => D.eqF y x else ys.any fun y => D.eqF y x)) else none
  | _, _ => none
def dIn : D → D → Option D := alt2 (dInS false) (alt2 (dInL false) (dInT false))
section
variable {K : PySem.W.Frag} {X : Cx} (hK : X.K = K)
include hK
theorem ops_eqP (hu : X.A.units + 64 < cLine) : OpS K X (compareOp .Eq) dEq := by
  subst hK
  refine ⟨_, op_eqP hu, fun w hw hf x y dx dy Q rx ry q => ?_⟩
  unfold dEq dEqP at q
  split at q
  · rename_i p p' e1 e2
    obtain ⟨h, q⟩ := Pz.ite q
    obtain ⟨a1, b1⟩ := rep_dp _ rx e1
    obtain ⟨a2, b2⟩ := rep_dp _ ry e2
    rw [hw] at a1 a2
    exact ⟨p, p', a1, a2, b1, b2, h, q.here rep_bl⟩
  · exact (q : False).elim
theorem ops_neP (hu : X.A.units + 64 < cLine) : OpS K X (compareOp .NotEq) dNe := by
  subst hK
  refine ⟨_, op_neP hu, fun w hw hf x y dx dy Q rx ry q => ?_⟩
  unfold dNe dEqP at q
  split at q
  · rename_i p p' e1 e2
    obtain ⟨h, q⟩ := Pz.ite q
    obtain ⟨a1, b1⟩ := rep_dp _ rx e1
    obtain ⟨a2, b2⟩ := rep_dp _ ry e2
    rw [hw] at a1 a2
    exact ⟨p, p', a1, a2, b1, b2, h, q.here rep_bl⟩
  · exact (q : False).elim
theorem ops_SB {f : Value → Value → Sem Value} {g : Str → Str → Bool} (h : OpR X f (fun x y H Q => ∃ i j, x = .str i ∧ y = .str j ∧ Q (.bl (g i j)) H)) : OpS K X f (oSB g) := by
  refine ⟨_, h, fun w hw hf x y dx dy Q rx ry q => ?_⟩
  cases dx <;> cases dy <;> try exact (q : False).elim
  unfold Rep at rx ry
  obtain ⟨rfl, rx⟩ := rx
  obtain ⟨rfl, ry⟩ := ry
  exact ⟨_, _, rfl, rfl, Pz.here q rep_bl⟩
theorem ops_lt : OpS K X (compareOp .Lt) dLt := (ops_I0 op_lt fun _ _ _ => rep_bl).or (ops_SB hK op_lt_str)
theorem ops_le : OpS K X (compareOp .LtE) dLe := (ops_I0 op_le fun _ _ _ => rep_bl).or (ops_SB hK op_le_str)
theorem ops_gt : OpS K X (compareOp .Gt) dGt := (ops_I0 op_gt fun _ _ _ => rep_bl).or (ops_SB hK op_gt_str)
theorem ops_ge : OpS K X (compareOp .GtE) dGe := (ops_I0 op_ge fun _ _ _ => rep_bl).or (ops_SB hK op_ge_str)
omit hK in
theorem sign_at {w : Wo} {d : D} {v : V} {c : Nat} (r : Rep w d v) (h : d.sign = some c) : v = .str ⟨#[c]⟩ := by
  cases d <;> unfold D.sign at h <;> try cases h
  rename_i x
  unfold Rep at r
  obtain ⟨rfl, _⟩ := r
  by_cases e : x.cps.size = 1
  · have h : (if x.cps.size = 1 then x.cps[0]? else none) = some c := h
    rw [if_pos e] at h
    obtain ⟨x⟩ := x
    congr
    refine Array.ext (by simpa using e) fun i h1 h2 => ?_
    have hi : i = 0 := by have e : x.size = 1 := e; omega
    subst hi
    have h : x[0]? = some c := h
    rw [Array.getElem?_eq_getElem h1] at h
    exact Option.some.inj h
  · have h : (if x.cps.size = 1 then x.cps[0]? else none) = some c := h
    rw [if_neg e] at h
    cases h
omit hK in
theorem flat_at {w : Wo} {d : D} {v : V} (r : Rep w d v) (h : d.flat = true) : flatV v = true := by
  cases d <;> unfold D.flat at h <;> try cases h
  all_goals unfold Rep at r
  · rw [r]; rfl
  · rw [r]; rfl
  · rw [r]; rfl
  · rw [r.1]; rfl
omit hK in
theorem eqF_at {w : Wo} {d e : D} {v u : V} (r : Rep w d v) (r2 : Rep w e u) (h : d.flat = true) (h2 : e.flat = true) : D.eqF d e = eqV v u := by
  cases d <;> unfold D.flat at h <;> (try cases h) <;> cases e <;> unfold D.flat at h2 <;> (try cases h2) <;> unfold Rep at r r2 <;> first | (rw [r, r2]; rfl) | (rw [r.1, r2]; rfl) | (rw [r, r2.1]; rfl) | (rw [r.1, r2.1]; rfl)
omit hK in
theorem inV_at {w : Wo} {d : D} {v : V} (r : Rep w d v) (h : d.flat = true) : ∀ {ys : List D} {us : List V}, Reps w ys us → ys.all D.flat = true → us.all flatV = true ∧ inV v us = ys.any fun y => D.eqF y d
  | [], _, q, _ => by unfold Reps at q; rw [q]; exact ⟨rfl, rfl⟩
  | y :: ys, _, q, h2 => by
    unfold Reps at q
    obtain ⟨u, us, rfl, a, q⟩ := q
    simp only [List.all_cons, Bool.and_eq_true] at h2
    obtain ⟨h3, h4⟩ := inV_at r h q h2.2
    refine ⟨by simp only [List.all_cons, Bool.and_eq_true]; exact ⟨flat_at a h2.1, h3⟩, ?_⟩
    unfold inV at h4 ⊢
    rw [List.any_cons, List.any_cons, h4, eqF_at a r h2.1 h]
theorem ops_in (hu : X.A.units + 65 < cLine) : OpS K X (compareOp .In) dIn := by
  subst hK
  refine .or ?_ (.or ?_ ?_)
  · refine ⟨_, op_in_sign, fun w hw hf x y dx dy Q rx ry q => ?_⟩
    cases dy <;> try exact (q : False).elim
    rename_i z
    unfold Rep at ry
    unfold dInS at q
    cases e : dx.sign with
    | none => simp only [e] at q; exact (q : False).elim
    | some c => simp only [e] at q; exact ⟨c, z, sign_at rx e, ry.1, Pz.here q rep_bl⟩
  · refine ⟨_, op_inD hu, fun w hw hf x y dx dy Q rx ry q => ?_⟩
    cases dy <;> try exact (q : False).elim
    rename_i ys
    unfold dInL at q
    dsimp only at q
    split at q
    · rename_i p qs e1 e2
      obtain ⟨h, q⟩ := Pz.ite q
      obtain ⟨a1, b1⟩ := rep_dp _ rx e1
      obtain ⟨a2, b2⟩ := rep_dp (.lst ys) (p := .list qs) ry (by unfold D.py; rw [e2]; rfl)
      rw [hw] at a1 a2
      exact ⟨p, qs, a1, a2, h.1, h.2, Pz.here q rep_bl⟩
    · exact (q : False).elim
  · refine ⟨_, op_in_seq, fun w hw hf x y dx dy Q rx ry q => ?_⟩
    cases dy <;> try exact (q : False).elim
    obtain ⟨h, q⟩ := Pz.ite q
    rw [Bool.and_eq_true] at h
    unfold Rep at ry
    obtain ⟨a, us, rfl, t, ry⟩ := ry
    obtain ⟨h3, h4⟩ := inV_at rx h.1 ry h.2
    refine ⟨a, us, rfl, .inr (hw ▸ t.sq), flat_at rx h.1, h3, ?_⟩
    rw [h4]
    exact Pz.here q rep_bl
end
end Sh
namespace Sh
open PySem PySem.Spec PyProof.Rows L2 Nk
variable [TabSet] [BasePred]
theorem Post.val {K : PySem.W.Frag} {B : Addr → Prop} {ow : List (Option Addr)} {m : List Addr} {H : Hp} {W : Value → Option Addr → Hp → Prop} {Q : VK} {d : D} {S : Store} {v : V} (h : Post K B ow m H Rep W Q (.ok d S)) (c : Cells K B m ow H S) (r : Rep (wo K B m ow H) d v) : Q v H := h v m H (Fut.refl m H) c r
theorem Post.pz {K : PySem.W.Frag} {B : Addr → Prop} {ow : List (Option Addr)} {m : List Addr} {H : Hp} {W : Value → Option Addr → Hp → Prop} {Q : VK} {S : Store} {o : Option D} (h : Post K B ow m H Rep W Q (R.of S o)) (c : Cells K B m ow H S) : Pz (wo K B m ow H) Q o := by
  cases o with
  | none => exact h
  | some d => exact fun v H' s r => h v m H' (Fut.same s) (c.same s) r
def eVar (i : Nat) (e : En) (S : Store) : R D := match e[i]? with
  | some (.val d) => .ok d S
  | _ => .no
def eC (d : D) (_ : En) (S : Store) : R D := .ok d S
def eBin (o : D → D → Option D) (f g : Sx D) (e : En) (S : Store) : R D := (f e S).bind fun x S1 => (g e S1).bind fun y S2 => R.of S2 (o x y)
def D.b : D → Option Bool
  | .bl b => some b
  | _ => none
def tVal (f : Sx D) (e : En) (S : Store) : R Bool := (f e S).bind fun x S1 => R.of S1 x.b
def tNt (f : Sx Bool) (e : En) (S : Store) : R Bool := (f e S).bind fun b S1 => .ok (!b) S1
def tAd (f g : Sx Bool) (e : En) (S : Store) : R Bool := (f e S).bind fun b S1 => if b then g e S1 else .ok false S1
def tOo (f g : Sx Bool) (e : En) (S : Store) : R Bool := (f e S).bind fun b S1 => if b then .ok true S1 else g e S1
def eNt (f : Sx D) (e : En) (S : Store) : R D := (tVal f e S).bind fun b S1 => .ok (.bl (!b)) S1
def eAd (f g : Sx D) (e : En) (S : Store) : R D := (tVal f e S).bind fun b S1 => if b then g e S1 else .ok (.bl false) S1
def eIf (t : Sx Bool) (f g : Sx D) (e : En) (S : Store) : R D := (t e S).bind fun b S1 => if b then f e S1 else g e S1
def eChain (o p : D → D → Option D) (f g h : Sx D) (e : En) (S : Store) : R D := (f e S).bind fun x S1 => (g e S1).bind fun y S2 => (R.of S2 ((o x y).bind D.b)).bind fun b S3 => if b then (h e S3).bind fun z S4 => R.of S4 (p y z) else .ok (.bl false) S3
def aNil (_ : En) (S : Store) : R (List D) := .ok [] S
def aCons (f : Sx D) (g : Sx (List D)) (e : En) (S : Store) : R (List D) := (f e S).bind fun x S1 => (g e S1).bind fun xs S2 => .ok (x :: xs) S2
def eTup (g : Sx (List D)) (e : En) (S : Store) : R D := (g e S).bind fun xs S1 => if xs.length ≤ sizeLine then .ok (.tup xs) S1 else .no
def eLst (g : Sx (List D)) (e : En) (S : Store) : R D := (g e S).bind fun xs S1 => if xs.length ≤ sizeLine then .ok (.lst xs) S1 else .no
def eCall (o : List D → Option D) (g : Sx (List D)) (e : En) (S : Store) : R D := (g e S).bind fun xs S1 => R.of S1 (o xs)
def D.ix : D → D → Option D := alt2 (fun | .lst xs, .int i => atI xs i | _, _ => none) (alt2 (fun | .tup xs, .int i => atI xs i | _, _ => none) (fun | .str z, .int i => (atI z.cps.toList i).map fun c => .str ⟨#[c]⟩ | _, _ => none))
def eIx (f g : Sx D) (e : En) (S : Store) : R D := (f e S).bind fun x S1 => (g e S1).bind fun y S2 => match x with
  | .ref n => match S2[n]?, y with
    | some (.lst xs), .int i => R.of S2 (atI xs i)
    | _, _ => .no
  | _ => R.of S2 (D.ix x y)
section
variable {K : PySem.W.Frag} {X : Cx} {W : WX} {ex ex2 ex3 : Expr} {f g h : Sx D} {t u : Sx Bool} {a : Sx (List D)} {pos : Pos} {i : Nat} {x : Str}
theorem x_var (hN : X.N[i]? = some x) (hv : Vis X.env.scope x) (hd : (x == ("__debug__" : Str)) = false := by decide) (hcd : (x == ("__classdict__" : Str)) = false := by decide) : Ev K X W (.Name x pos) (eVar i) := by
  refine ⟨_, pe_var hN hv hd hcd, fun b m ow H σ e S Q t q => ?_⟩
  unfold eVar at q
  cases he : e[i]? with
  | none => rw [he] at q; exact q.elim
  | some s =>
    cases s with
    | val d =>
      rw [he] at q
      obtain ⟨v, h1, h2⟩ := t.slots i _ he
      exact ⟨v, h1, q.val t.cells h2⟩
    | no => rw [he] at q; exact q.elim
    | own c => rw [he] at q; exact q.elim
theorem x_c {v : V} {d : D} (hp : PE X ex (tC v)) (hr : ∀ w, Rep w d v) : Ev K X W ex (eC d) := ⟨_, hp, fun b m ow H σ e S Q t q => q.val t.cells (hr _)⟩
theorem x_int {i : Int} {j pos} : Ev K X W (.Constant (.int i) j pos) (eC (.int i)) := x_c pe_int fun _ => rep_int
theorem x_bl {i : Bool} {j pos} : Ev K X W (.Constant (.bool i) j pos) (eC (.bl i)) := x_c pe_bl fun _ => rep_bl
theorem x_non {j pos} : Ev K X W (.Constant .none j pos) (eC .non) := x_c pe_non fun _ => rep_non
theorem x_str {z : Str} {j pos} (hz : decide (z.length ≤ sizeLine) = true := by decide +kernel) : Ev K X W (.Constant (.str z) j pos) (eC (.str z)) := x_c pe_str fun _ => rep_str (of_decide_eq_true hz)
theorem x_gc {x : Str} {v : V} {d : D} (hg : Gl X x) (h : ∃ u, X.mg x = some u ∧ RelV v u) (hr : ∀ w, Rep w d v) (hd : (x == ("__debug__" : Str)) = false := by decide) : Ev K X W (.Name x pos) (eC d) := x_c (pe_gc hg h hd) hr
theorem x_cls {x : Str} {c : String} (hK : X.K = K) (hg : Gl X x) (hm : X.mg x = some (.ref (He.ga K c))) (hd : (x == ("__debug__" : Str)) = false := by decide) : Ev K X W (.Name x pos) (eC (.cls c)) :=
  ⟨_, pe_glob (v := .ref (He.ga K c)) hg hm rfl hd, fun b m ow H σ e S Q t q => q.val t.cells (by unfold Rep; rfl)⟩
theorem x_op {op : Operator} {o : D → D → Option D} (ho : OpS K X (binaryOp op) o) (hf : Ev K X W ex f) (hg : Ev K X W ex2 g) : Ev K X W (.BinOp ex op ex2 pos) (eBin o f g) := by
  obtain ⟨ta, p1, h1⟩ := hf.run
  obtain ⟨tb, p2, h2⟩ := hg.run
  obtain ⟨r, p3, h3⟩ := ho.run
  refine ⟨_, pe_op p3 p1 p2, fun b m ow H σ e S Q t q => h1 b m ow H σ e S _ t (Post.bind q fun x S1 v m1 H1 f1 c1 rx q => h2 b m1 ow H1 σ e S1 _ (t.go f1 c1) (Post.bind q fun y S2 u m2 H2 f2 c2 ry q => ?_))⟩
  exact h3 _ rfl c2.full v u x y Q (Rep.le f2.le x rx) ry (q.pz c2)
theorem x_cmp {op : CmpOp} {o : D → D → Option D} (ho : OpS K X (compareOp op) o) (hf : Ev K X W ex f) (hg : Ev K X W ex2 g) (hm : behindInMarks op ex2 = false) : Ev K X W (.Compare ex [op] [ex2] pos) (eBin o f g) := by
  obtain ⟨ta, p1, h1⟩ := hf.run
  obtain ⟨tb, p2, h2⟩ := hg.run
  obtain ⟨r, p3, h3⟩ := ho.run
  refine ⟨_, pe_cmpR p3 p1 p2 hm, fun b m ow H σ e S Q t q => h1 b m ow H σ e S _ t (Post.bind q fun x S1 v m1 H1 f1 c1 rx q => h2 b m1 ow H1 σ e S1 _ (t.go f1 c1) (Post.bind q fun y S2 u m2 H2 f2 c2 ry q => ?_))⟩
  exact h3 _ rfl c2.full v u x y Q (Rep.le f2.le x rx) ry (q.pz c2)
theorem rep_b {w : Wo} {x : D} {v : V} {k : Bool} (r : Rep w x v) (h : x.b = some k) : v = .bl k := by
  cases x <;> unfold D.b at h <;> try cases h
  unfold Rep at r
  exact r
theorem Post.tst {B : Addr → Prop} {ow : List (Option Addr)} {m : List Addr} {H : Hp} {Wp : Value → Option Addr → Hp → Prop} {Q : Bool → Hp → Prop} {S : Store} {x : D} {v : V} (h : Post K B ow m H RB Wp Q (R.of S x.b)) (c : Cells K B m ow H S) (r : Rep (wo K B m ow H) x v) : ∃ k, v = .bl k ∧ Q k H := by
  cases e : x.b with
  | none => rw [e] at h; exact h.elim
  | some k => rw [e] at h; exact ⟨k, rep_b r e, h k m H (Fut.refl m H) c rfl⟩
theorem t_val (hf : Ev K X W ex f) (he : ∀ whole, isTrue ex X.env whole = (do let v ← whole; standAt ex.pos; holding [v] (truthy v)) := by intro _; rfl) : Et K X W ex (tVal f) := by
  obtain ⟨ta, p1, h1⟩ := hf.run
  exact ⟨_, pt_val p1 he, fun b m ow H σ e S Q t q => h1 b m ow H σ e S _ t (Post.bind q fun x S1 v m1 H1 f1 c1 rx q => q.tst c1 rx)⟩
theorem t_cmp {op : CmpOp} {o : D → D → Option D} (ho : OpS K X (compareOp op) o) (hf : Ev K X W ex f) (hg : Ev K X W ex2 g) (hm : behindInMarks op ex2 = false) : Et K X W (.Compare ex [op] [ex2] pos) (tVal (eBin o f g)) := by
  obtain ⟨ta, p1, h1⟩ := hf.run
  obtain ⟨tb, p2, h2⟩ := hg.run
  obtain ⟨r, p3, h3⟩ := ho.run
  refine ⟨_, pt_cmpR p3 p1 p2 hm, fun b m ow H σ e S Q t q => ?_⟩
  unfold tVal eBin at q
  simp only [bind_bind] at q
  refine h1 b m ow H σ e S _ t (Post.bind q fun x S1 v m1 H1 f1 c1 rx q => h2 b m1 ow H1 σ e S1 _ (t.go f1 c1) (Post.bind q fun y S2 u m2 H2 f2 c2 ry q => ?_))
  refine h3 _ rfl c2.full v u x y _ (Rep.le f2.le x rx) ry ?_
  refine Post.pz (W := fun c d => W c d σ) (S := S2) (Post.bind q fun z S3 v3 m3 H3 f3 c3 rz q => q.tst c3 rz) c2
theorem t_not (hf : Et K X W ex t) : Et K X W (.UnaryOp .Not ex pos) (tNt t) := by
  obtain ⟨ta, p1, h1⟩ := hf.run
  exact ⟨_, pt_not p1, fun b m ow H σ e S Q t q => h1 b m ow H σ e S _ t (Post.bind q fun x S1 v m1 H1 f1 c1 rx q => q _ m1 H1 (Fut.refl _ _) c1 (by rw [show v = x from rx]; rfl))⟩
theorem w_pt (h : Ew K X W ex t) : Et K X W ex t := by
  obtain ⟨ta, p1, h1⟩ := h.run
  exact ⟨_, p1.pt, h1⟩
theorem w_and1 (hf : Et K X W ex t) : Ew K X W (.BoolOp .And [ex] pos) t := by
  obtain ⟨ta, p1, h1⟩ := hf.run
  exact ⟨_, pw_and1 p1, h1⟩
theorem w_or1 (hf : Et K X W ex t) : Ew K X W (.BoolOp .Or [ex] pos) t := by
  obtain ⟨ta, p1, h1⟩ := hf.run
  exact ⟨_, pw_or1 p1, h1⟩
theorem w_and {rest : List Expr} (hf : Et K X W ex t) (hg : Ew K X W (.BoolOp .And (ex2 :: rest) pos) u) : Ew K X W (.BoolOp .And (ex :: ex2 :: rest) pos) (tAd t u) := by
  obtain ⟨ta, p1, h1⟩ := hf.run
  obtain ⟨tb, p2, h2⟩ := hg.run
  refine ⟨_, pw_and p1 p2, fun b m ow H σ e S Q t q => h1 b m ow H σ e S _ t (Post.bind q fun x S1 v m1 H1 f1 c1 rx q => ?_)⟩
  obtain rfl : v = x := rx
  cases v with
  | true => rw [if_pos rfl] at q ⊢; exact h2 b m1 ow H1 σ e S1 _ (t.go f1 c1) q
  | false => rw [if_neg Bool.false_ne_true] at q ⊢; exact q _ m1 H1 (Fut.refl _ _) c1 rfl
theorem w_or {rest : List Expr} (hf : Et K X W ex t) (hg : Ew K X W (.BoolOp .Or (ex2 :: rest) pos) u) : Ew K X W (.BoolOp .Or (ex :: ex2 :: rest) pos) (tOo t u) := by
  obtain ⟨ta, p1, h1⟩ := hf.run
  obtain ⟨tb, p2, h2⟩ := hg.run
  refine ⟨_, pw_or p1 p2, fun b m ow H σ e S Q t q => h1 b m ow H σ e S _ t (Post.bind q fun x S1 v m1 H1 f1 c1 rx q => ?_)⟩
  obtain rfl : v = x := rx
  cases v with
  | false => rw [if_neg Bool.false_ne_true] at q ⊢; exact h2 b m1 ow H1 σ e S1 _ (t.go f1 c1) q
  | true => rw [if_pos rfl] at q ⊢; exact q _ m1 H1 (Fut.refl _ _) c1 rfl
theorem Post.bval {B : Addr → Prop} {ow : List (Option Addr)} {m : List Addr} {H : Hp} {Wp : Value → Option Addr → Hp → Prop} {Q : VK} {S : Store} {x : D} {v : V} {k : Bool → Store → R D} (h : Post K B ow m H Rep Wp Q ((R.of S x.b).bind k)) (r : Rep (wo K B m ow H) x v) : ∃ c, v = .bl c ∧ Post K B ow m H Rep Wp Q (k c S) := by
  cases e : x.b with
  | none => rw [e] at h; exact h.elim
  | some c => rw [e] at h; exact ⟨c, rep_b r e, h⟩
theorem x_not (hf : Ev K X W ex f) : Ev K X W (.UnaryOp .Not ex pos) (eNt f) := by
  obtain ⟨ta, p1, h1⟩ := hf.run
  refine ⟨_, pe_not p1, fun b m ow H σ e S Q t q => ?_⟩
  unfold eNt tVal at q
  simp only [bind_bind] at q
  refine h1 b m ow H σ e S _ t (Post.bind q fun x S1 v m1 H1 f1 c1 rx q => ?_)
  obtain ⟨c, ev, q⟩ := q.bval rx
  exact ⟨c, ev, q.val c1 rep_bl⟩
theorem x_one {op} (hf : Ev K X W ex f) : Ev K X W (.BoolOp op [ex] pos) f := by
  obtain ⟨ta, p1, h1⟩ := hf.run
  exact ⟨_, pe_one p1, h1⟩
theorem x_and {rest : List Expr} (hf : Ev K X W ex f) (hg : Ev K X W (.BoolOp .And (ex2 :: rest) pos) g) : Ev K X W (.BoolOp .And (ex :: ex2 :: rest) pos) (eAd f g) := by
  obtain ⟨ta, p1, h1⟩ := hf.run
  obtain ⟨tb, p2, h2⟩ := hg.run
  refine ⟨_, pe_and p1 p2, fun b m ow H σ e S Q t q => ?_⟩
  unfold eAd tVal at q
  simp only [bind_bind] at q
  refine h1 b m ow H σ e S _ t (Post.bind q fun x S1 v m1 H1 f1 c1 rx q => ?_)
  obtain ⟨c, ev, q⟩ := q.bval rx
  refine ⟨c, ev, ?_⟩
  cases c with
  | true => rw [if_pos rfl] at q ⊢; exact h2 b m1 ow H1 σ e S1 _ (t.go f1 c1) q
  | false => rw [if_neg Bool.false_ne_true] at q ⊢; exact q.val c1 rep_bl
theorem x_if (ht : Et K X W ex t) (hf : Ev K X W ex2 f) (hg : Ev K X W ex3 g) : Ev K X W (.IfExp ex ex2 ex3 pos) (eIf t f g) := by
  obtain ⟨tt, p0, h0⟩ := ht.run
  obtain ⟨ta, p1, h1⟩ := hf.run
  obtain ⟨tb, p2, h2⟩ := hg.run
  refine ⟨_, pe_ifExp p0 p1 p2, fun b m ow H σ e S Q t q => h0 b m ow H σ e S _ t (Post.bind q fun x S1 v m1 H1 f1 c1 rx q => ?_)⟩
  obtain rfl : v = x := rx
  cases v with
  | true => rw [if_pos rfl] at q ⊢; exact h1 b m1 ow H1 σ e S1 _ (t.go f1 c1) q
  | false => rw [if_neg Bool.false_ne_true] at q ⊢; exact h2 b m1 ow H1 σ e S1 _ (t.go f1 c1) q
theorem a_nil : Ea K X W [] aNil := ⟨_, pa_nil, fun b m ow H σ e S Q t q => q [] m H (Fut.refl _ _) t.cells reps_nil⟩
theorem a_cons {es : List Expr} (hf : Ev K X W ex f) (ha : Ea K X W es a) (hs : starEach (ex :: es) X.env = (false, eval ex X.env) :: starEach es X.env := by rfl) : Ea K X W (ex :: es) (aCons f a) := by
  obtain ⟨ta, p1, h1⟩ := hf.run
  obtain ⟨tb, p2, h2⟩ := ha.run
  exact ⟨_, pa_cons p1 p2 hs, fun b m ow H σ e S Q t q => h1 b m ow H σ e S _ t (Post.bind q fun x S1 v m1 H1 f1 c1 rx q => h2 b m1 ow H1 σ e S1 _ (t.go f1 c1) (Post.bind q fun y S2 u m2 H2 f2 c2 ry q =>
    q _ m2 H2 (Fut.refl _ _) c2 (reps_cons (Rep.le f2.le x rx) ry)))⟩
theorem x_tup {es : List Expr} {x1} (ha : Ea K X W es a) : Ev K X W (.Tuple es x1 pos) (eTup a) := by
  obtain ⟨ta, p1, h1⟩ := ha.run
  refine ⟨_, pe_tup p1, fun b m ow H σ e S Q t q => h1 b m ow H σ e S _ t (Post.bind q fun x S1 v m1 H1 f1 c1 rx q => ?_)⟩
  split at q
  · rename_i hl
    rw [← reps_len rx] at hl
    exact ⟨hl, fun p hp => q _ m1 _ (Fut.same (same_mut (Same.refl _) hp)) (c1.same (same_mut (Same.refl _) hp)) (rep_tup c1.full hp hl rx)⟩
  · exact q.elim
theorem x_lst {es : List Expr} (ha : Ea K X W es a) : Ev K X W (.List es pos) (eLst a) := by
  obtain ⟨ta, p1, h1⟩ := ha.run
  refine ⟨_, pe_lst p1, fun b m ow H σ e S Q t q => h1 b m ow H σ e S _ t (Post.bind q fun x S1 v m1 H1 f1 c1 rx q => ?_)⟩
  split at q
  · rename_i hl
    rw [← reps_len rx] at hl
    exact ⟨hl, fun p hp => q _ m1 _ (Fut.same (same_mut (Same.refl _) hp)) (c1.same (same_mut (Same.refl _) hp)) (rep_lst c1.full hp hl rx)⟩
  · exact q.elim
theorem x_chain {op op' : CmpOp} {o p : D → D → Option D} (ho : OpS K X (compareOp op) o) (hp : OpS K X (compareOp op') p) (hf : Ev K X W ex f) (hg : Ev K X W ex2 g) (hh : Ev K X W ex3 h) (hm : lastMarks [op, op'] [ex2, ex3] = false := by with_unfolding_all rfl) : Ev K X W (.Compare ex [op, op'] [ex2, ex3] pos) (eChain o p f g h) := by
  obtain ⟨ta, p1, h1⟩ := hf.run
  obtain ⟨tb, p2, h2⟩ := hg.run
  obtain ⟨tc, p3, h3⟩ := hh.run
  obtain ⟨r, p4, h4⟩ := ho.run
  obtain ⟨r', p5, h5⟩ := hp.run
  refine ⟨_, pe_chain p4 p5 p1 p2 p3 hm, fun b m ow H σ e S Q t q => h1 b m ow H σ e S _ t (Post.bind q fun x S1 v m1 H1 f1 c1 rx q => h2 b m1 ow H1 σ e S1 _ (t.go f1 c1) (Post.bind q fun y S2 u m2 H2 f2 c2 ry q => ?_))⟩
  refine h4 _ rfl c2.full v u x y _ (Rep.le f2.le x rx) ry ?_
  cases e1 : o x y with
  | none => rw [e1] at q; exact q.elim
  | some z =>
    intro v3 H3 s3 rz
    have c3 := c2.same s3
    cases e2 : z.b with
    | none => rw [e1] at q; simp only [Option.bind_some, e2] at q; exact q.elim
    | some k =>
      refine ⟨k, rep_b rz e2, ?_⟩
      rw [e1] at q
      simp only [Option.bind_some, e2, of_some, ok_bind] at q
      have t3 := ((t.go f1 c1).go f2 c2).same s3
      have q := q.go (Fut.same s3)
      cases k with
      | true =>
        rw [if_pos rfl] at q ⊢
        refine h3 b m2 ow H3 σ e S2 _ t3 (Post.bind q fun z S4 v4 m4 H4 f4 c4 rz q => ?_)
        exact h5 _ rfl c4.full u v4 y z Q (Rep.le ((Fut.same s3).trans f4).le y ry) rz (q.pz c4)
      | false =>
        rw [if_neg Bool.false_ne_true] at q ⊢
        exact q.val c3 rep_bl
theorem t_chain {op op' : CmpOp} {o p : D → D → Option D} (ho : OpS K X (compareOp op) o) (hp : OpS K X (compareOp op') p) (hf : Ev K X W ex f) (hg : Ev K X W ex2 g) (hh : Ev K X W ex3 h) (hm : lastMarks [op, op'] [ex2, ex3] = false := by with_unfolding_all rfl) : Et K X W (.Compare ex [op, op'] [ex2, ex3] pos) (tVal (eChain o p f g h)) := by
  obtain ⟨ta, p1, h1⟩ := hf.run
  obtain ⟨tb, p2, h2⟩ := hg.run
  obtain ⟨tc, p3, h3⟩ := hh.run
  obtain ⟨r, p4, h4⟩ := ho.run
  obtain ⟨r', p5, h5⟩ := hp.run
  refine ⟨_, pt_chain p4 p5 p1 p2 p3 hm, fun b m ow H σ e S Q t q => ?_⟩
  unfold tVal eChain at q
  simp only [bind_bind] at q
  refine h1 b m ow H σ e S _ t (Post.bind q fun x S1 v m1 H1 f1 c1 rx q => h2 b m1 ow H1 σ e S1 _ (t.go f1 c1) (Post.bind q fun y S2 u m2 H2 f2 c2 ry q => ?_))
  refine h4 _ rfl c2.full v u x y _ (Rep.le f2.le x rx) ry ?_
  cases e1 : o x y with
  | none => rw [e1] at q; exact q.elim
  | some z =>
    intro v3 H3 s3 rz
    have c3 := c2.same s3
    cases e2 : z.b with
    | none => rw [e1] at q; simp only [Option.bind_some, e2] at q; exact q.elim
    | some k =>
      refine ⟨k, rep_b rz e2, ?_⟩
      rw [e1] at q
      simp only [Option.bind_some, e2, of_some, ok_bind] at q
      have t3 := ((t.go f1 c1).go f2 c2).same s3
      have q := q.go (Fut.same s3)
      cases k with
      | true =>
        rw [if_pos rfl] at q ⊢
        simp only [bind_bind] at q
        refine h3 b m2 ow H3 σ e S2 _ t3 (Post.bind q fun z S4 v4 m4 H4 f4 c4 rz q => ?_)
        exact h5 _ rfl c4.full u v4 y z _ (Rep.le ((Fut.same s3).trans f4).le y ry) rz (Post.pz (W := fun c d => W c d σ) (S := S4) (Post.bind q fun z S3 v3 m3 H3 f3 c3 rz q => q.tst c3 rz) c4)
      | false =>
        rw [if_neg Bool.false_ne_true] at q ⊢
        exact ⟨false, rfl, q _ m2 H3 (Fut.refl _ _) c3 rfl⟩
theorem x_callB {id : String} {o : List D → Option D} {es : List Expr} {p : Pos} (hc : CallS K X (.builtin id) o) (hg : Gl X x) (hm : X.mg x = none) (hv : bootBuiltins x = some (.builtin id)) (ha : Ea K X W (ex :: es) a) (hn : x ≠ "__name__" := by decide) (hdb : (x == ("__debug__" : Str)) = false := by decide)
    (he : starEach (ex :: es) X.env = (false, eval ex X.env) :: starEach es X.env := by rfl) (hpl : (backTo pos (starEach es X.env)).any (·.1) = false := by rfl) : Ev K X W (.Call (.Name x p) (ex :: es) [] pos) (eCall o a) := by
  obtain ⟨ta, p1, h1⟩ := ha.run
  obtain ⟨r, p2, h2⟩ := hc.run
  exact ⟨_, pe_callB p2 hg hm hv p1 hn hdb he hpl, fun b m ow H σ e S Q t q => h1 b m ow H σ e S _ t (Post.bind q fun x S1 v m1 H1 f1 c1 rx q => h2 _ rfl c1.full v x Q rx (q.pz c1))⟩
theorem x_callT {T : String} {o : List D → Option D} {es : List Expr} {p : Pos} (hc : CallS K X (.type T) o) (hg : Gl X x) (hm : X.mg x = none) (hv : bootBuiltins x = some (.type T)) (ha : Ea K X W (ex :: es) a) (hn : x ≠ "__name__" := by decide) (hdb : (x == ("__debug__" : Str)) = false := by decide)
    (he : starEach (ex :: es) X.env = (false, eval ex X.env) :: starEach es X.env := by rfl) (hpl : (backTo pos (starEach es X.env)).any (·.1) = false := by rfl) : Ev K X W (.Call (.Name x p) (ex :: es) [] pos) (eCall o a) := by
  obtain ⟨ta, p1, h1⟩ := ha.run
  obtain ⟨r, p2, h2⟩ := hc.run
  exact ⟨_, pe_callTy p2 hg hm hv p1 hn hdb he hpl, fun b m ow H σ e S Q t q => h1 b m ow H σ e S _ t (Post.bind q fun x S1 v m1 H1 f1 c1 rx q => h2 _ rfl c1.full v x Q rx (q.pz c1))⟩
end
end Sh
namespace Sh
open PySem PySem.Spec PyProof.Rows L2 Nk
variable [TabSet] [BasePred]
section
variable {K : PySem.W.Frag} {b : Bs} {m : List Addr} {ow ow2 : List (Option Addr)} {H H' : Hp} {σ : L2.St} {e : En} {S S' : Store} {i : Nat} {v : V} {d : D} {a : Addr} {B : Addr → Prop}
theorem le_ow (h : ∀ a, some a ∈ ow2 → some a ∈ ow) : Le (wo K B m ow H) (wo K B m ow2 H) :=
  ⟨rfl, fun a o _ _ z => by rintro (q | q | q); exact z (.inl q); exact z (.inr (.inl q)); exact z (.inr (.inr (h a q))), fun _ _ e => e, fun _ _ e _ _ => e, fun _ _ _ e => e⟩
theorem mem_set_none {a : Addr} (h : some a ∈ ow.set i none) : ∃ j : Nat, j ≠ i ∧ ow[j]? = some (some a) := by
  obtain ⟨j, hj⟩ := List.mem_iff_getElem?.mp h
  by_cases e : i = j
  · subst e
    by_cases l : i < ow.length
    · rw [List.getElem?_set_self l] at hj; cases hj
    · rw [List.getElem?_eq_none (by simpa using l)] at hj; cases hj
  · rw [List.getElem?_set_ne e] at hj
    exact ⟨j, fun z => e z.symm, hj⟩
theorem Cells.sub (c : Cells K B m ow H S) (h : ∀ a, some a ∈ ow2 → some a ∈ ow) (od : ∀ (i j : Nat) (a : Addr), ow2[i]? = some (some a) → ow2[j]? = some (some a) → i = j) : Cells K B m ow2 H S :=
  ⟨c.hB, c.nd, fun a ha z => c.no a ha (h a z), fun a ha => c.nB a (ha.imp id (h a)), od, fun a z => c.oh a (h a z), c.len, fun n a x h1 h2 => (c.cs n a x h1 h2).le (le_ow h) fun o e _ => e, c.tb, fun a z => c.nt a (z.imp id fun z => z.imp id (h a))⟩
theorem od_none (c : Cells K B m ow H S) : ∀ (j k : Nat) (a : Addr), (ow.set i none)[j]? = some (some a) → (ow.set i none)[k]? = some (some a) → j = k := by
  have f : ∀ (j : Nat) (a : Addr), (ow.set i none)[j]? = some (some a) → ow[j]? = some (some a) := fun j a hj => by
    by_cases e : i = j
    · subst e
      by_cases l : i < ow.length
      · rw [List.getElem?_set_self l] at hj; cases hj
      · rw [List.getElem?_eq_none (by simpa using l)] at hj; cases hj
    · rwa [List.getElem?_set_ne e] at hj
  exact fun j k a hj hk => c.od j k a (f j a hj) (f k a hk)
theorem sub_none : ∀ a, some a ∈ ow.set i none → some a ∈ ow := fun a h => let ⟨j, _, hj⟩ := mem_set_none h; List.mem_of_getElem? hj
theorem set_none_get {ow : List (Option Addr)} {i j : Nat} {a : Addr} (h : (ow.set i none)[j]? = some (some a)) : i ≠ j ∧ ow[j]? = some (some a) := by
  by_cases e1 : i = j
  · subst e1
    by_cases l : i < ow.length
    · rw [List.getElem?_set_self l] at h; cases h
    · rw [List.getElem?_eq_none (by simpa using l)] at h; cases h
  · rw [List.getElem?_set_ne e1] at h
    exact ⟨e1, h⟩
theorem oe_none {s : Sl} (h : ∀ (i : Nat) (a : Addr), ow[i]? = some (some a) → ∃ c, e[i]? = some (Sl.own c)) : ∀ (j : Nat) (a : Addr), (ow.set i none)[j]? = some (some a) → ∃ c, (e.set i s)[j]? = some (Sl.own c) := fun j a hj => by
  obtain ⟨n, hj⟩ := set_none_get hj
  rw [List.getElem?_set_ne n]
  exact h j a hj
def notOwn (i : Nat) (e : En) : Bool := match e[i]? with
  | some (.own _) => false
  | _ => true
theorem sf_set {s : Sl} {u : Option V} (t : At K b m ow H σ e S) (h : notOwn i e = true) : ∀ a, b.sf = some a → (σ.set i u)[0]? = some (some (.ref a)) ∧ ow[0]? = some (some a) ∧ ∃ c fs, (e.set i s)[0]? = some (Sl.own (.ins c fs)) := fun a ha => by
  obtain ⟨h1, h2, c, fs, h3⟩ := t.sf a ha
  have n : i ≠ 0 := fun z => by
    subst z
    unfold notOwn at h
    rw [h3] at h
    cases h
  exact ⟨by rw [List.getElem?_set_ne n]; exact h1, h2, c, fs, by rw [List.getElem?_set_ne n]; exact h3⟩
theorem oe_set {s : Sl} (t : At K b m ow H σ e S) (h : notOwn i e = true) : ∀ (j : Nat) (a : Addr), ow[j]? = some (some a) → ∃ c, (e.set i s)[j]? = some (Sl.own c) := fun j a hj => by
  obtain ⟨c, hc⟩ := t.oe j a hj
  have n : i ≠ j := fun z => by
    subst z
    unfold notOwn at h
    rw [hc] at h
    cases h
  exact ⟨c, by rw [List.getElem?_set_ne n]; exact hc⟩
theorem At.set' (t : At K b m ow H σ e S) (h : notOwn i e = true) (r : Rep (wo K b.B m ow H) d v) : At K b m ow H (σ.set i (some v)) (e.set i (.val d)) S := by
  refine ⟨t.cells, by simpa using t.len, fun j s hs => ?_, t.fut, t.new, oe_set t h, sf_set t h, t.ph⟩
  by_cases e1 : i = j
  · subst e1
    by_cases l : i < e.length
    · rw [List.getElem?_set_self l] at hs
      cases hs
      exact ⟨v, List.getElem?_set_self (by rw [t.len.1]; exact l), r⟩
    · rw [List.getElem?_eq_none (by simpa using l)] at hs; cases hs
  · rw [List.getElem?_set_ne e1] at hs
    have h := t.slots j s hs
    cases s with
    | no => exact True.intro
    | val d' => obtain ⟨u, h1, h2⟩ := h; exact ⟨u, by rw [List.getElem?_set_ne e1]; exact h1, h2⟩
    | own x => obtain ⟨u, h1, h2, h3⟩ := h; exact ⟨u, by rw [List.getElem?_set_ne e1]; exact h1, h2, h3⟩
theorem At.clear' (t : At K b m ow H σ e S) (h : notOwn i e = true) (u : Option V) : At K b m ow H (σ.set i u) (e.set i .no) S := by
  refine ⟨t.cells, by simpa using t.len, fun j s hs => ?_, t.fut, t.new, oe_set t h, sf_set t h, t.ph⟩
  by_cases e1 : i = j
  · subst e1
    by_cases l : i < e.length
    · rw [List.getElem?_set_self l] at hs
      cases hs
      exact True.intro
    · rw [List.getElem?_eq_none (by simpa using l)] at hs; cases hs
  · rw [List.getElem?_set_ne e1] at hs
    have h := t.slots j s hs
    cases s with
    | no => exact True.intro
    | val d' => obtain ⟨u, h1, h2⟩ := h; exact ⟨u, by rw [List.getElem?_set_ne e1]; exact h1, h2⟩
    | own x => obtain ⟨u, h1, h2, h3⟩ := h; exact ⟨u, by rw [List.getElem?_set_ne e1]; exact h1, h2, h3⟩
def Cell.tree : Cell → D
  | .lst ds => .lst ds
  | .ins c fs => .obj c fs
  | .dk kvs => .dk kvs
  | .dt kvs => .dt kvs
  | .fk kvs => .fk kvs
  | .ft kvs => .ft kvs
def freeze (i : Nat) (e : En) : En := match e[i]? with
  | some (.own (.lst ds)) => e.set i (.val (.lst ds))
  | some (.own (.dk ds)) => e.set i (.val (.dk ds))
  | some (.own (.dt ds)) => e.set i (.val (.dt ds))
  | _ => e
theorem crep_tree {w : Wo} {c : Cell} (h : CRep w a c) (z : ¬ w.Z a) : Rep w c.tree (.ref a) := by
  cases c with
  | lst ds => obtain ⟨vs, h, l, r⟩ := h; unfold Cell.tree Rep; exact ⟨a, vs, rfl, ⟨z, h, l⟩, r⟩
  | ins c fs => obtain ⟨dx, gs, h, r⟩ := h; unfold Cell.tree Rep; exact ⟨a, dx, gs, rfl, z, h, r⟩
  | dk kvs => obtain ⟨vs, h, r⟩ := h; unfold Cell.tree Rep; exact ⟨a, vs, rfl, z, h, r⟩
  | dt kvs => obtain ⟨vs, h, r⟩ := h; unfold Cell.tree Rep; exact ⟨a, vs, rfl, z, h, r⟩
  | fk kvs => obtain ⟨vs, o, h, r⟩ := h; unfold Cell.tree Rep; exact ⟨a, o, vs, rfl, z, h, r⟩
  | ft kvs => obtain ⟨vs, o, h, r⟩ := h; unfold Cell.tree Rep; exact ⟨a, o, vs, rfl, z, h, r⟩
theorem own_z (c : Cells K B m ow H S) (h : ow[i]? = some (some a)) : ¬ zf B m (ow.set i none) a := by
  rintro (q | q | q)
  · exact c.nB a (.inr (List.mem_of_getElem? h)) q
  · exact c.no a q (List.mem_of_getElem? h)
  · obtain ⟨j, hj, e⟩ := mem_set_none q
    exact hj (c.od j i a e h)
theorem At.frz {c : Cell} (t : At K b m ow H σ e S) (q : e[i]? = some (.own c)) (hc : ∀ k fs, c ≠ .ins k fs) : ∃ ow', At K b m ow' H σ (e.set i (.val c.tree)) S ∧ Le (wo K b.B m ow H) (wo K b.B m ow' H) := by
  obtain ⟨a, h1, h2, h3⟩ := t.slots i _ q
  refine ⟨ow.set i none, ?_, le_ow sub_none⟩
  have h4 : CRep (wo K b.B m (ow.set i none) H) a c := h3.le (le_ow sub_none) fun o e _ => e
  have h5 := crep_tree h4 (own_z t.cells h2)
  refine ⟨t.cells.sub sub_none (od_none t.cells), by simpa using t.len, fun j s hs => ?_, t.fut, fun a ha => t.new a (sub_none a ha), oe_none t.oe, fun x hx => ?_, t.ph⟩
  · by_cases e1 : i = j
    · subst e1
      rw [List.getElem?_set_self (List.getElem?_eq_some_iff.mp q).1] at hs
      cases hs
      exact ⟨_, h1, h5⟩
    · rw [List.getElem?_set_ne e1] at hs
      have h := t.slots j s hs
      cases s with
      | no => exact True.intro
      | val d' => obtain ⟨u, h1, h2⟩ := h; exact ⟨u, h1, Rep.le (le_ow sub_none) d' h2⟩
      | own x => obtain ⟨u, h1, h2, h3⟩ := h; exact ⟨u, h1, by rw [List.getElem?_set_ne e1]; exact h2, h3.le (le_ow sub_none) fun o e _ => e⟩
  · obtain ⟨g1, g2, k, fs, g3⟩ := t.sf x hx
    have n : i ≠ 0 := fun z => by
      subst z
      rw [q] at g3
      exact hc k fs (Sl.own.inj (Option.some.inj g3))
    exact ⟨g1, by rw [List.getElem?_set_ne n]; exact g2, k, fs, by rw [List.getElem?_set_ne n]; exact g3⟩
theorem At.freeze (t : At K b m ow H σ e S) : ∃ ow', At K b m ow' H σ (freeze i e) S ∧ Le (wo K b.B m ow H) (wo K b.B m ow' H) := by
  unfold Sh.freeze
  cases q : e[i]? with
  | none => exact ⟨ow, t, Le.refl _⟩
  | some s =>
    cases s with
    | no => exact ⟨ow, t, Le.refl _⟩
    | val d => exact ⟨ow, t, Le.refl _⟩
    | own c =>
      cases c with
      | ins k fs => exact ⟨ow, t, Le.refl _⟩
      | fk kvs => exact ⟨ow, t, Le.refl _⟩
      | ft kvs => exact ⟨ow, t, Le.refl _⟩
      | lst ds => exact t.frz q fun _ _ z => by cases z
      | dk ds => exact t.frz q fun _ _ z => by cases z
      | dt ds => exact t.frz q fun _ _ z => by cases z
theorem At.own {c : Cell} (t : At K b m ow H σ e S) (z : ¬ zf b.B m ow a) (h0 : Fr b.H0 a) (cl : Cells K (fun x => b.B x ∨ x = a) m ow H S) (r : CRep (wo K (fun x => b.B x ∨ x = a) m ow H) a c) (sl : ∀ (j : Nat) (s : Sl), j ≠ i → e[j]? = some s → SlR (wo K (fun x => b.B x ∨ x = a) m ow H) σ ow j s) (hi : i < e.length) (hno : notOwn i e = true) :
    At K b m (ow.set i (some a)) H (σ.set i (some (.ref a))) (e.set i (.own c)) S ∧ Le (wo K (fun x => b.B x ∨ x = a) m ow H) (wo K b.B m (ow.set i (some a)) H) := by
  have mem : ∀ x, some x ∈ ow.set i (some a) → x = a ∨ some x ∈ ow := fun x hx => by
    rcases List.mem_or_eq_of_mem_set hx with h | h
    · exact .inr h
    · exact .inl (Option.some.inj h)
  have hio : i < ow.length := by rw [t.len.2]; exact hi
  have get : ∀ (j : Nat) (x : Addr), (ow.set i (some a))[j]? = some (some x) → (j = i ∧ x = a) ∨ (j ≠ i ∧ ow[j]? = some (some x)) := fun j x hx => by
    by_cases e1 : i = j
    · subst e1
      rw [List.getElem?_set_self hio] at hx
      cases hx
      exact .inl ⟨rfl, rfl⟩
    · rw [List.getElem?_set_ne e1] at hx
      exact .inr ⟨fun z => e1 z.symm, hx⟩
  have le : Le (wo K (fun x => b.B x ∨ x = a) m ow H) (wo K b.B m (ow.set i (some a)) H) := ⟨rfl, fun x o _ _ q => by
    rintro (h | h | h)
    · exact q (.inl (.inl h))
    · exact q (.inr (.inl h))
    · rcases mem x h with h | h
      · exact q (.inl (.inr h))
      · exact q (.inr (.inr h)), fun _ _ h => h, fun _ _ h _ _ => h, fun _ _ _ h => h⟩
  refine ⟨⟨⟨fun x hx => cl.hB x (.inl hx), cl.nd, fun x hx q => ?_, fun x hx q => ?_, fun j k x hj hk => ?_, fun x hx => ?_, cl.len, fun n x c h1 h2 => (cl.cs n x c h1 h2).le le fun o e _ => e, cl.tb, fun x z => z.elim (fun h => cl.nt x (.inl (.inl h))) fun h => h.elim (fun h => cl.nt x (.inr (.inl h))) fun h => (mem x h).elim (fun h => cl.nt x (.inl (.inr h))) fun h => cl.nt x (.inr (.inr h))⟩, by simpa using t.len, fun j s hs => ?_, t.fut, fun x hx => ?_, fun j x hj => ?_, fun x hx => ?_, t.ph⟩, le⟩
  · rcases mem x q with q | q
    · subst q; exact z (.inr (.inl hx))
    · exact cl.no x hx q
  · rcases hx with hx | hx
    · exact t.cells.nB x (.inl hx) q
    · rcases mem x hx with h | h
      · subst h; exact z (.inl q)
      · exact t.cells.nB x (.inr h) q
  · rcases get j x hj with ⟨rfl, rfl⟩ | ⟨e1, h1⟩ <;> rcases get k _ hk with ⟨rfl, h⟩ | ⟨e2, h2⟩
    · rfl
    · exact (z (.inr (.inr (List.mem_of_getElem? h2)))).elim
    · subst h; exact (z (.inr (.inr (List.mem_of_getElem? h1)))).elim
    · exact cl.od j k x h1 h2
  · rcases mem x hx with h | h
    · subst h; exact cl.hB x (.inr rfl)
    · exact cl.oh x h
  · by_cases e1 : i = j
    · subst e1
      rw [List.getElem?_set_self hi] at hs
      cases hs
      exact ⟨a, List.getElem?_set_self (by rw [t.len.1]; exact hi), List.getElem?_set_self hio, r.le le fun o e _ => e⟩
    · rw [List.getElem?_set_ne e1] at hs
      have h := sl j s (fun q => e1 q.symm) hs
      cases s with
      | no => exact True.intro
      | val d' => obtain ⟨u, h1, h2⟩ := h; exact ⟨u, by rw [List.getElem?_set_ne e1]; exact h1, Rep.le le d' h2⟩
      | own x => obtain ⟨u, h1, h2, h3⟩ := h; exact ⟨u, by rw [List.getElem?_set_ne e1]; exact h1, by rw [List.getElem?_set_ne e1]; exact h2, h3.le le fun o e _ => e⟩
  · rcases mem x hx with h | h
    · subst h; exact h0
    · exact t.new x h
  · rcases get j x hj with ⟨rfl, _⟩ | ⟨n, h⟩
    · exact ⟨c, List.getElem?_set_self hi⟩
    · rw [List.getElem?_set_ne (fun q => n q.symm)]
      exact t.oe j x h
  · obtain ⟨g1, g2, k, fs, g3⟩ := t.sf x hx
    have n : i ≠ 0 := fun z => by
      subst z
      unfold notOwn at hno
      rw [g3] at hno
      cases hno
    exact ⟨by rw [List.getElem?_set_ne n]; exact g1, by rw [List.getElem?_set_ne n]; exact g2, k, fs, by rw [List.getElem?_set_ne n]; exact g3⟩
theorem At.own_upd {c c' : Cell} (t : At K b m ow H σ e S) (ho : ow[i]? = some (some a)) (he : e[i]? = some (.own c)) (hs : σ[i]? = some (some (.ref a))) (keep : ∀ x o, x ≠ a → H x = some o → H' x = some o) (dom : ∀ x, Fr H' x → Fr H x) (r : CRep (wo K b.B m ow H') a c') (hk : ∀ k fs, c = .ins k fs → ∃ k' fs', c' = .ins k' fs') (sf : c.soft = true := by rfl) :
    At K b m ow H' σ (e.set i (.own c')) S ∧ Le (wo K b.B m ow H) (wo K b.B m ow H') := by
  have am : some a ∈ ow := List.mem_of_getElem? ho
  have ho1 : ∃ o, H a = some o ∧ (∀ ps, o ≠ .tbl ps) ∧ ∀ φ, o ≠ .ext φ := by
    obtain ⟨a', g1, g2, g3⟩ := t.slots i _ he
    rw [ho] at g2
    cases g2
    exact g3.some
  have nz : ∀ o u, H a ≠ some (.frz o u) := by
    obtain ⟨a', g1, g2, g3⟩ := t.slots i _ he
    rw [ho] at g2
    cases g2
    exact g3.nfz sf
  have fz : ∀ x o u, H x = some (.frz o u) → H' x = some (.frz o u) := fun x o u h => keep x _ (fun q => nz o u (q ▸ h)) h
  have le : Le (wo K b.B m ow H) (wo K b.B m ow H') := ⟨rfl, fun _ _ _ _ h => h, fun _ _ h => h, fun x o h _ z => keep x o (fun q => z (by rw [q]; exact .inr (.inr am))) h, fz⟩
  refine ⟨⟨⟨fun x hx q => t.cells.hB x hx (dom x q), t.cells.nd, t.cells.no, t.cells.nB, t.cells.od, fun x hx q => t.cells.oh x hx (dom x q), t.cells.len, fun n x c h1 h2 => (t.cells.cs n x c h1 h2).le le fun o e _ => keep x o (fun q => t.cells.no x (List.mem_of_getElem? h1) (by rw [q]; exact am)) e, tabs_keep t.cells.tb ho1 keep, fun x z xs hx => if e : x = a then r.noT xs (e ▸ hx) else t.cells.ntK1 keep x z e xs hx⟩, by simpa using t.len, fun j s hj => ?_, ?_, t.new, fun j x hj => ?_, fun x hx => ?_, t.ph⟩, le⟩
  · by_cases e1 : i = j
    · subst e1
      rw [List.getElem?_set_self (List.getElem?_eq_some_iff.mp he).1] at hj
      cases hj
      exact ⟨a, hs, ho, r⟩
    · rw [List.getElem?_set_ne e1] at hj
      have h := t.slots j s hj
      cases s with
      | no => exact True.intro
      | val d' => obtain ⟨u, h1, h2⟩ := h; exact ⟨u, h1, Rep.le le d' h2⟩
      | own x => obtain ⟨u, h1, h2, h3⟩ := h; exact ⟨u, h1, h2, h3.le le fun o e _ => keep u o (fun q => e1 (t.cells.od i j u (by rw [q]; exact ho) h2)) e⟩
  · obtain ⟨pre, kp, dm, kf⟩ := t.fut
    refine ⟨pre, fun x o h n hm => keep x o (fun q => ?_) (kp x o h n hm), fun x h => dm x (dom x h), fun x o u h => fz x o u (kf x o u h)⟩
    have := t.new a am
    rw [← q] at this
    exact this.no h n
  · by_cases e1 : i = j
    · subst e1
      exact ⟨c', List.getElem?_set_self (List.getElem?_eq_some_iff.mp he).1⟩
    · rw [List.getElem?_set_ne e1]
      exact t.oe j x hj
  · obtain ⟨g1, g2, k, fs, g3⟩ := t.sf x hx
    refine ⟨g1, g2, ?_⟩
    by_cases n : i = 0
    · subst n
      rw [he] at g3
      obtain ⟨k', fs', e'⟩ := hk k fs (Sl.own.inj (Option.some.inj g3))
      exact ⟨k', fs', by rw [List.getElem?_set_self (List.getElem?_eq_some_iff.mp he).1, e']⟩
    · exact ⟨k, fs, by rw [List.getElem?_set_ne n]; exact g3⟩
theorem nz_of {H : Hp} {p : Addr} {v : HO} (h : H p = some v) (n : ∀ o u, v ≠ .frz o u) : ∀ o u, H p ≠ some (.frz o u) := fun o u z => n o u (Option.some.inj (h ▸ z))
theorem upd_fz {H : Hp} {p : Addr} {v : HO} (nz : ∀ o u, H p ≠ some (.frz o u)) : ∀ x o u, H x = some (.frz o u) → L2.upd H p v x = some (.frz o u) := fun x o u h => by rw [upd_ne (fun q : x = p => nz o u (q ▸ h))]; exact h
theorem Cells.put {n : Nat} {c' : Cell} (t : Cells K B m ow H S) (hm : m[n]? = some a) (keep : ∀ x o, x ≠ a → H x = some o → H' x = some o) (dom : ∀ x, Fr H' x → Fr H x) (r : CRep (wo K B m ow H') a c') (nz : ∀ o u, H a ≠ some (.frz o u) := by (intro _ _ z; simp_all; done)) :
    Cells K B m ow H' (S.set n c') ∧ Fut m H m H' := by
  have am : a ∈ m := List.mem_of_getElem? hm
  have fut : Fut m H m H' := ⟨⟨[], by simp, by simp⟩, fun x o h _ z => keep x o (fun q => z (by rw [q]; exact am)) h, dom, fun x o u h => keep x _ (fun q => nz o u (q ▸ h)) h⟩
  refine ⟨⟨fun x hx q => t.hB x hx (dom x q), t.nd, t.no, t.nB, t.od, fun x hx q => t.oh x hx (dom x q), by simpa using t.len, fun k x c h1 h2 => ?_, tabs_keep t.tb (t.cs n a _ hm (List.getElem?_eq_getElem (by rw [← t.len]; exact (List.getElem?_eq_some_iff.mp hm).1))).some keep, fun x z xs hx => if e : x = a then r.noT xs (e ▸ hx) else t.ntK1 keep x z e xs hx⟩, fut⟩
  by_cases e1 : n = k
  · subst e1
    rw [hm] at h1
    cases h1
    rw [List.getElem?_set_self (by rw [← t.len]; exact (List.getElem?_eq_some_iff.mp hm).1)] at h2
    cases h2
    exact r
  · rw [List.getElem?_set_ne e1] at h2
    refine (t.cs k x c h1 h2).le fut.le fun o e _ => keep x o (fun q => e1 ?_) e
    subst q
    exact (List.getElem?_inj (List.getElem?_eq_some_iff.mp hm).1 t.nd).mp (hm.trans h1.symm)
end
end Sh
namespace Sh
open PySem PySem.Spec PyProof.Rows L2 Nk
variable [TabSet] [BasePred]
abbrev Tg := D → En → Option En
def gN (i : Nat) (d : D) (e : En) : Option En := if notOwn i e then some (e.set i (.val d)) else none
def gsNil (ds : List D) (e : En) : Option En := match ds with
  | [] => some e
  | _ => none
def gsCons (g : Tg) (gs : List D → En → Option En) (ds : List D) (e : En) : Option En := match ds with
  | d :: ds => (g d e).bind (gs ds)
  | [] => none
def gT (gs : List D → En → Option En) (d : D) (e : En) : Option En := match d with
  | .tup ds => gs ds e
  | _ => none
def ItR (w : Wo) (ds : List D) (J : It) : Prop := ∃ (G : Hp → Prop) (Y : Nat → Hp → V → Hp → Prop), Walk J ds.length G Y ∧ (∀ w', Le w w' → G w'.H) ∧ ∀ i d w' v H', ds[i]? = some d → Le w w' → w'.Full → Y i w'.H v H' → Same w'.H H' ∧ Rep (w'.at H') d v
section
variable (K : PySem.W.Frag) (X : Cx) (W : WX)
structure Eg (us : List Nat) (tg : Expr) (g : Tg) : Prop where
  run : ∃ t, PG X tg t ∧ ∀ b m ow H σ e S d v (N : L2.St → Hp → Prop), At K b m ow H σ e S → Rep (wo K b.B m ow H) d v → (match g d e with
    | some e' => ∀ σ', At K b m ow H σ' e' S → wipe σ' us = wipe σ us → N σ' H
    | none => False) → t v σ H N
structure Egs (us : List Nat) (tg : List Expr) (g : List D → En → Option En) : Prop where
  run : ∃ t, PGs X tg t ∧ ∀ b m ow H σ e S ds vs (N : L2.St → Hp → Prop), At K b m ow H σ e S → Reps (wo K b.B m ow H) ds vs → (match g ds e with
    | some e' => ∀ σ', At K b m ow H σ' e' S → wipe σ' us = wipe σ us → N σ' H
    | none => False) → t vs σ H N
structure Ei (tg iter : Expr) (f : Sx (List D)) : Prop where
  run : ∃ wi, PI X tg iter wi ∧ ∀ b m ow H σ e S Q, At K b m ow H σ e S → Post K b.B ow m H ItR (fun c d => W c d σ) Q (f e S) → wi σ H Q
end
def sSeq (f g : Sy) (e : En) (S : Store) : RS := (f e S).seq g
def sNil (e : En) (S : Store) : RS := .nx e S
def sSet (i : Nat) (f : Sx D) (e : En) (S : Store) : RS := (f e S).run e fun d S1 => if notOwn i e then .nx (e.set i (.val d)) S1 else .no
def sAsg (g : Tg) (f : Sx D) (e : En) (S : Store) : RS := (f e S).run e fun d S1 => match g d e with
  | some e' => .nx e' S1
  | none => .no
def sDrop (f : Sx D) (e : En) (S : Store) : RS := (f e S).run e fun _ S1 => .nx e S1
def sRet (f : Sx D) (e : En) (S : Store) : RS := (f e S).run e fun d S1 => .rt d S1
def sIf (t : Sx Bool) (f g : Sy) (e : En) (S : Store) : RS := (t e S).run e fun b S1 => if b then f e S1 else g e S1
def RS.turn (r : RS) (k : En → Store → RS) : RS := match r with
  | .nx e S => k e S
  | .ct e S => k e S
  | .bk e S => .nx e S
  | r => r
@[simp] theorem turn_nx {e : En} {S : Store} {k : En → Store → RS} : (RS.nx e S).turn k = k e S := rfl
@[simp] theorem turn_ct {e : En} {S : Store} {k : En → Store → RS} : (RS.ct e S).turn k = k e S := rfl
@[simp] theorem turn_bk {e : En} {S : Store} {k : En → Store → RS} : (RS.bk e S).turn k = .nx e S := rfl
@[simp] theorem turn_rt {d : D} {S : Store} {k : En → Store → RS} : (RS.rt d S).turn k = .rt d S := rfl
@[simp] theorem turn_er {x : Exn} {e : En} {S : Store} {k : En → Store → RS} : (RS.er x e S).turn k = .er x e S := rfl
@[simp] theorem turn_no {k : En → Store → RS} : RS.no.turn k = .no := rfl
@[simp] theorem ite_turn {c : Prop} [Decidable c] {r s : RS} {k : En → Store → RS} : (if c then r else s).turn k = if c then r.turn k else s.turn k := by split <;> rfl
@[simp] theorem run_turn {α : Type} {r : R α} {e : En} {k : α → Store → RS} {g : En → Store → RS} : (r.run e k).turn g = r.run e fun a S => (k a S).turn g := by cases r <;> rfl
def forD (g : Tg) (body : Sy) : List D → Sy
  | [], e, S => .nx e S
  | d :: ds, e, S => match g d e with
    | none => .no
    | some e1 => (body e1 S).turn (forD g body ds)
def sFor (it : Sx (List D)) (g : Tg) (body : Sy) (e : En) (S : Store) : RS := (it e S).run e fun ds S1 => forD g body ds e S1
def whileD (t : Sx Bool) (body : Sy) : Nat → Sy
  | 0, _, _ => .no
  | n + 1, e, S => (t e S).run e fun c S1 => if c then (body e S1).turn (whileD t body n) else .nx e S1
def sWhile (n : Nat) (t : Sx Bool) (body : Sy) : Sy := whileD t body n
def sFrz (i : Nat) (f : Sy) (e : En) (S : Store) : RS := f (freeze i e) S
section
variable {K : PySem.W.Frag} {X : Cx} {W : WX} {ex ex2 tg iter : Expr} {st : Stmt} {rest body body2 : List Stmt} {f : Sx D} {t : Sx Bool} {a : Sx (List D)} {p q : Sy} {g : Tg} {gs : List D → En → Option En} {pos pos' : Pos} {i : Nat} {x : Str}
theorem ss_nil : Ess K X W [] sNil := ⟨_, pss_nil, fun b m ow H σ e S D t q => q _ m ow H t (Le.refl _)⟩
theorem ss_cons (h : Es K X W st p) (g : Ess K X W rest q) : Ess K X W (st :: rest) (sSeq p q) := by
  obtain ⟨ts, p1, h1⟩ := h.run
  obtain ⟨tu, p2, h2⟩ := g.run
  refine ⟨_, pss_cons p1 p2, fun b m ow H σ e S D t z => h1 b m ow H σ e S _ t ?_⟩
  unfold sSeq at z
  cases r : p e S with
  | nx e' S' => rw [r] at z; exact fun σ' m' ow' H' t' l => h2 b m' ow' H' σ' e' S' D t' (PostS.le z l)
  | rt d S' => rw [r] at z; exact z
  | bk e' S' => rw [r] at z; exact z
  | ct e' S' => rw [r] at z; exact z
  | er x e' S' => rw [r] at z; exact z
  | no => rw [r] at z; exact z.elim
theorem ss_one (h : Es K X W st p) : Ess K X W [st] p := by
  obtain ⟨ts, p1, h1⟩ := h.run
  exact ⟨_, pss_one p1, h1⟩
theorem s_frz (h : Es K X W st p) : Es K X W st (sFrz i p) := by
  obtain ⟨ts, p1, h1⟩ := h.run
  refine ⟨ts, p1, fun b m ow H σ e S D t z => ?_⟩
  obtain ⟨ow', t', l⟩ := t.freeze (i := i)
  exact h1 b m ow' H σ _ S D t' (PostS.le z l)
theorem s_set {pos' : Pos} (hN : X.N.Nodup) (hi : X.N[i]? = some x) (hx : Loc X.env.scope x) (hf : Ev K X W ex f) (hs : swapsWith ex (some (.Name x pos')) pos.line X.env = pure false := by rfl) (hfn : X.fn x = true ∨ X.env.scope.names.lookup x = some .local := by first | exact .inl rfl | exact .inr rfl | assumption) : Es K X W (.Assign [.Name x pos'] ex pos) (sSet i f) := by
  obtain ⟨ta, p1, h1⟩ := hf.run
  refine ⟨_, ps_set hN hi hx p1 hs hfn, fun b m ow H σ e S D t z => h1 b m ow H σ e S _ t (PostS.run t z fun d S' v m' H' t' f' r z => ?_)⟩
  split at z
  · exact z _ m' _ H' (t'.set' (by assumption) r) (Le.refl _)
  · exact z.elim
theorem wipe_get {σ : L2.St} {j : Nat} : ∀ {us : List Nat}, (wipe σ us)[j]? = if j ∈ us ∧ j < σ.length then some none else σ[j]?
  | [] => by simp [wipe]
  | v :: us => by
    unfold wipe
    by_cases e : v = j
    · subst e
      by_cases l : v < σ.length
      · rw [List.getElem?_set_self (by rw [wipe_length]; exact l), if_pos ⟨List.mem_cons_self, l⟩]
      · rw [List.getElem?_eq_none (by rw [List.length_set, wipe_length]; omega), if_neg (fun h => l h.2), List.getElem?_eq_none (by omega)]
    · rw [List.getElem?_set_ne e, wipe_get]
      have : (j ∈ v :: us) ↔ j ∈ us := by simp only [List.mem_cons]; exact ⟨fun h => h.elim (fun q => absurd q.symm e) id, .inr⟩
      simp only [this]
theorem wipe_set {σ : L2.St} {u : Option V} {us : List Nat} (h : i ∈ us) : wipe (σ.set i u) us = wipe σ us := by
  refine List.ext_getElem? fun j => ?_
  rw [wipe_get, wipe_get, List.length_set]
  by_cases c : j ∈ us ∧ j < σ.length
  · rw [if_pos c, if_pos c]
  · rw [if_neg c, if_neg c]
    by_cases e : i = j
    · subst e
      have l : ¬ i < σ.length := fun q => c ⟨h, q⟩
      rw [List.getElem?_eq_none (by rw [List.length_set]; omega), List.getElem?_eq_none (by omega)]
    · rw [List.getElem?_set_ne e]
variable {us : List Nat}
theorem g_name (hN : X.N.Nodup) (hi : X.N[i]? = some x) (hx : Loc X.env.scope x) (hu : i ∈ us := by decide) (hf : X.fn x = true ∨ X.env.scope.names.lookup x = some .local := by first | exact .inl rfl | exact .inr rfl | assumption) : Eg K X us (.Name x pos) (gN i) := by
  refine ⟨_, pg_name hN hi hx hf, fun b m ow H σ e S d v N t r z => ?_⟩
  unfold gN at z
  by_cases h : notOwn i e = true
  · rw [if_pos h] at z
    exact z _ (t.set' h r) (wipe_set hu)
  · rw [if_neg h] at z
    exact z.elim
theorem gs_nil : Egs K X us [] gsNil := by
  refine ⟨gNil, ⟨?_⟩, fun b m ow H σ e S ds vs N t r z => ?_⟩
  · exact (pgs_nil (X := X)).run
  · cases ds with
    | nil => unfold Reps at r; subst r; exact ⟨rfl, z σ t rfl⟩
    | cons d ds => exact z.elim
theorem gs_cons {e2 : List Expr} (h : Eg K X us ex g) (k : Egs K X us e2 gs) (hs : (assignEach (ex :: e2) X.env).map (·.2) = assign ex X.env :: (assignEach e2 X.env).map (·.2) := by rfl) : Egs K X us (ex :: e2) (gsCons g gs) := by
  obtain ⟨t1, p1, h1⟩ := h.run
  obtain ⟨t2, p2, h2⟩ := k.run
  refine ⟨_, pgs_cons p1 p2 hs, fun b m ow H σ e S ds vs N t r z => ?_⟩
  cases ds with
  | nil => exact z.elim
  | cons d ds =>
    unfold Reps at r
    obtain ⟨v, vr, rfl, r1, r2⟩ := r
    refine ⟨v, vr, rfl, h1 b m ow H σ e S d v _ t r1 ?_⟩
    unfold gsCons at z
    simp only at z
    cases q : g d e with
    | none => rw [q] at z; exact z.elim
    | some e1 =>
      rw [q] at z
      refine fun σ' t' l => h2 b m ow H σ' e1 S ds vr N t' r2 ?_
      simp only [Option.bind_some] at z
      cases q2 : gs ds e1 with
      | none => rw [q2] at z; exact z.elim
      | some e2 => rw [q2] at z; exact fun σ2 t2 l2 => z σ2 t2 (l2.trans l)
def GLen (gs : List D → En → Option En) (n : Nat) : Prop := ∀ ds e e', gs ds e = some e' → ds.length = n
theorem gl_nil : GLen gsNil 0 := fun ds e e' h => by cases ds with
  | nil => rfl
  | cons d ds => cases h
theorem gl_cons {n : Nat} (h : GLen gs n) : GLen (gsCons g gs) (n + 1) := fun ds e e' q => by
  cases ds with
  | nil => cases q
  | cons d ds =>
    unfold gsCons at q
    dsimp only at q
    cases z : g d e with
    | none => rw [z] at q; cases q
    | some e1 => rw [z] at q; rw [List.length_cons, h ds e1 e' q]
theorem g_tup {es : List Expr} {k : Nat} {n : Nat} (hK : X.K = K) (hc : X.calm = true) (h : Egs K X us es gs) (hg : GLen gs n) (hn : (assignEach es X.env).length = n := by rfl) (hst : (assignEach es X.env).findIdx? (·.1) = none := by rfl) : Eg K X us (.Tuple es k pos) (gT gs) := by
  subst hK
  obtain ⟨t1, p1, h1⟩ := h.run
  refine ⟨_, pg_tup hc p1 hn hst, fun b m ow H σ e S d v N t r z => ?_⟩
  cases d <;> try exact z.elim
  rename_i ds
  unfold Rep at r
  obtain ⟨a, vs, rfl, tr, r⟩ := r
  cases q : gs ds e with
  | none => simp only [gT, q] at z
  | some e' =>
    refine ⟨a, vs, rfl, tr.sq, by rw [reps_len r]; exact hg _ _ _ q, h1 b m ow H σ e S ds vs N t r ?_⟩
    simp only [gT, q] at z ⊢
    exact z
theorem s_asg (hf : Ev K X W ex f) (hg : Eg K X us tg g) (hs : swapsWithSole [tg] ex pos.line X.env = pure false := by rfl) (hw : swappedStores [tg] ex X.env = pure none := by rfl) (h1 : (assignEach [tg] X.env).map (·.2) = [assign tg X.env] := by rfl) : Es K X W (.Assign [tg] ex pos) (sAsg g f) := by
  obtain ⟨ta, p1, h2⟩ := hf.run
  obtain ⟨tt, p2, h3⟩ := hg.run
  refine ⟨_, ps_asg p1 p2 hs hw h1, fun b m ow H σ e S D t z => h2 b m ow H σ e S _ t (PostS.run t z fun d S' v m' H' t' f' r z => h3 b m' ow H' σ e S' d v _ t' r ?_)⟩
  cases q : g d e with
  | none => rw [q] at z; exact z.elim
  | some e' => rw [q] at z; exact fun σ' t2 l => z σ' m' ow H' t2 (Le.refl _)
theorem s_expr (hf : Ev K X W ex f) (hs : swapsWith ex none pos.line X.env = pure false := by rfl) : Es K X W (.Expr ex pos) (sDrop f) := by
  obtain ⟨ta, p1, h1⟩ := hf.run
  exact ⟨_, ps_expr p1 hs, fun b m ow H σ e S D t z => h1 b m ow H σ e S _ t (PostS.run t z fun d S' v m' H' t' f' r z => z σ m' ow H' t' (Le.refl _))⟩
theorem s_ret (hf : Ev K X W ex f) : Es K X W (.Return (some ex) pos) (sRet f) := by
  obtain ⟨ta, p1, h1⟩ := hf.run
  exact ⟨_, ps_ret p1, fun b m ow H σ e S D t z => h1 b m ow H σ e S _ t (PostS.run t z fun d S' v m' H' t' f' r z => z v m' ow H' t'.cells t'.fut t'.new r)⟩
theorem s_if (ht : Et K X W ex t) (h1 : Ess K X W body p) (h2 : Ess K X W body2 q) : Es K X W (.If ex body body2 pos) (sIf t p q) := by
  obtain ⟨tt, p0, h0⟩ := ht.run
  obtain ⟨t1, p1, h1⟩ := h1.run
  obtain ⟨t2, p2, h2⟩ := h2.run
  refine ⟨_, ps_if p0 p1 p2, fun b m ow H σ e S D t z => h0 b m ow H σ e S _ t (PostS.run t z fun c S' v m' H' t' f' r z => ?_)⟩
  obtain rfl : v = c := r
  cases v with
  | true => rw [if_pos rfl] at z ⊢; exact h1 b m' ow H' σ e S' D t' z
  | false => rw [if_neg Bool.false_ne_true] at z ⊢; exact h2 b m' ow H' σ e S' D t' z
theorem turn_post {b : Bs} {w : Wo} {D : Ends} {r : RS} {k : En → Store → RS} {N : L2.St → Hp → Prop} (z : PostS K b w W D (r.turn k))
    (h : ∀ e' S' σ' m' ow' H', At K b m' ow' H' σ' e' S' → Le w (wo K b.B m' ow' H') → PostS K b (wo K b.B m' ow' H') W D (k e' S') → N σ' H') : PostS K b w W { D with nx := N, ct := N, bk := D.nx } r := by
  cases r with
  | nx e' S' => exact fun σ' m' ow' H' t l => h e' S' σ' m' ow' H' t l (PostS.le z l)
  | ct e' S' => exact fun σ' m' ow' H' t l => h e' S' σ' m' ow' H' t l (PostS.le z l)
  | bk e' S' => exact z
  | rt d S' => exact z
  | er x e' S' => exact z
  | no => exact z
theorem s_for {us : List Nat} {it : Sx (List D)} (hp : PassesOwn (model X.prog X.w) X.A X.env X.xe) (hc : X.calm = true) (hi : Ei K X W tg iter it) (hg : Eg K X us tg g) (hb : Ess K X W body p) (hs : ∀ x, foldedSetIterable iter X.env x = pure x := by intro _; rfl) : Es K X W (.For tg iter body [] pos) (sFor it g p) := by
  obtain ⟨wi, p0, h0⟩ := hi.run
  obtain ⟨tg', p1, h1⟩ := hg.run
  obtain ⟨tb, p2, h2⟩ := hb.run
  refine ⟨_, ps_for hp hc p0 p1 p2 hs, fun b m ow H σ e S D t z => h0 b m ow H σ e S _ t (PostS.run t z fun ds S1 J m1 H1 t1 f1 r z => ?_)⟩
  obtain ⟨G, Y, wk, hG, hY⟩ := r
  refine for_it wk (fun i σ' H' => ∃ m' ow' e' S', At K b m' ow' H' σ' e' S' ∧ Le (wo K b.B m1 ow H1) (wo K b.B m' ow' H') ∧ PostS K b (wo K b.B m' ow' H') W D (forD g p (ds.drop i) e' S')) ⟨m1, ow, e, S1, t1, Le.refl _, z⟩ (fun i σ' H' _ ⟨m', ow', e', S', _, l, _⟩ => hG _ l) ?_ ?_
  · rintro i v σ' H' H2 hi ⟨m', ow', e', S', t', l, z⟩ y
    have hd : ds[i]? = some ds[i] := List.getElem?_eq_getElem hi
    obtain ⟨s, r⟩ := hY i ds[i] _ v H2 hd l t'.cells.full y
    rw [List.drop_eq_getElem_cons hi] at z
    have l2 : Le (wo K b.B m' ow' H') (wo K b.B m' ow' H2) := (Fut.same s).le
    refine h1 b m' ow' H2 σ' e' S' ds[i] v _ (t'.same s) r ?_
    unfold forD at z
    cases q : g ds[i] e' with
    | none => rw [q] at z; exact z.elim
    | some e1 =>
      rw [q] at z
      refine fun σ2 t2 l3 => h2 b m' ow' H2 σ2 e1 S' _ t2 ?_
      exact turn_post (PostS.le z l2) fun e3 S3 σ3 m3 ow3 H3 t3 l4 z => ⟨m3, ow3, e3, S3, t3, l.trans (l2.trans l4), z⟩
  · rintro σ' H' ⟨m', ow', e', S', t', l, z⟩
    rw [List.drop_length] at z
    exact z σ' m' ow' H' t' (Le.refl _)
end
end Sh
namespace Sh
open PySem PySem.Spec PyProof.Rows L2 Nk
variable [TabSet] [BasePred]
def D.items : D → Option (List D)
  | .lst ds => some ds
  | .tup ds => some ds
  | .str z => some (z.cps.toList.map fun c => .str ⟨#[c]⟩)
  | _ => none
def iSq (f : Sx D) (e : En) (S : Store) : R (List D) := (f e S).bind fun x S1 => R.of S1 x.items
def okR (n : Int) : Bool := match n with
  | .ofNat k => Nat.ble k 4611686018427387903
  | .negSucc k => Nat.ble k 4611686018427387903
theorem of_okR {n : Int} (h : okR n = true) : -(2 ^ 62) ≤ n ∧ n < 2 ^ 62 := by
  cases n with
  | ofNat k =>
    have h2 : k ≤ 4611686018427387903 := Nat.le_of_ble_eq_true h
    exact ⟨by simp only [Int.ofNat_eq_natCast]; omega, by simp only [Int.ofNat_eq_natCast]; omega⟩
  | negSucc k => 
    have h2 : k ≤ 4611686018427387903 := Nat.le_of_ble_eq_true h
    exact ⟨by rw [Int.negSucc_eq]; omega, by rw [Int.negSucc_eq]; omega⟩
theorem okR_of {n : Int} (h : -(2 ^ 62) ≤ n) (h2 : n < 2 ^ 62) : okR n = true := by
  cases n with
  | ofNat k =>
    simp only [Int.ofNat_eq_natCast] at h2
    exact Nat.ble_eq_true_of_le (by omega)
  | negSucc k => 
    rw [Int.negSucc_eq] at h
    exact Nat.ble_eq_true_of_le (by omega)
def iRng1 (a : Sx (List D)) (e : En) (S : Store) : R (List D) := (a e S).bind fun xs S1 => match xs with
  | [.int j] => if okR j = true then .ok ((List.range j.toNat).map fun i => .int (i : Nat)) S1 else .no
  | _ => .no
def D.seq : D → Option (List D)
  | .lst ds => some ds
  | .tup ds => some ds
  | _ => none
section
variable {w : Wo}
theorem itr_list {ds : List D} {a : Addr} {vs : List V} (t : TrL w a vs) (r : Reps w ds vs) : ItR w ds (Itl w.K a) := by
  refine ⟨_, _, (reps_len r) ▸ walk_list (K := w.K) (a := a) (xs := vs), fun w' l => l.K ▸ (t.le l).sq, fun i d w' v H' hd l _ y => ?_⟩
  obtain ⟨rfl, hv⟩ := y
  obtain ⟨u, hu, ru⟩ := reps_get r hd
  rw [hv] at hu
  cases hu
  exact ⟨Same.refl _, Rep.le l d ru⟩
theorem itr_tup {ds : List D} {a : Addr} {vs : List V} (t : TrT w a vs) (r : Reps w ds vs) : ItR w ds (Itt w.K a) := by
  refine ⟨_, _, (reps_len r) ▸ walk_tup (K := w.K) (a := a) (xs := vs), fun w' l => l.K ▸ (t.le l).sq, fun i d w' v H' hd l _ y => ?_⟩
  obtain ⟨rfl, hv⟩ := y
  obtain ⟨u, hu, ru⟩ := reps_get r hd
  rw [hv] at hu
  cases hu
  exact ⟨Same.refl _, Rep.le l d ru⟩
theorem itr_str {z : Str} : ItR w (z.cps.toList.map fun c => D.str ⟨#[c]⟩) (Its z) := by
  have e : z.cps.size = (z.cps.toList.map fun c => D.str ⟨#[c]⟩).length := by simp
  refine ⟨_, _, e ▸ walk_str (z := z), fun w' l => True.intro, fun i d w' v H' hd l _ y => ?_⟩
  obtain ⟨rfl, c, hc, rfl⟩ := y
  simp only [List.getElem?_map, Array.getElem?_toList, hc, Option.map_some] at hd
  cases hd
  exact ⟨Same.refl _, rep_str (show (1 : Nat) ≤ sizeLine by decide)⟩
theorem itr_rng {lo : Int} {n : Nat} : ItR w ((List.range n).map fun (i : Nat) => D.int (lo + (i : Nat))) (Itr lo n) := by
  have e : n = ((List.range n).map fun (i : Nat) => D.int (lo + (i : Nat))).length := by simp
  refine ⟨_, _, cast (by rw [← e]) (walk_range (lo := lo) (n := n)), fun w' l => True.intro, fun i d w' v H' hd l _ y => ?_⟩
  obtain ⟨rfl, rfl⟩ := y
  have hi : i < n := by
    have := (List.getElem?_eq_some_iff.mp hd).1
    simpa using this
  simp only [List.getElem?_map, List.getElem?_range hi, Option.map_some] at hd
  cases hd
  exact ⟨Same.refl _, rep_int⟩
theorem rep_pair {w' : Wo} {H' : Hp} {T : Addr} {x y : V} {d e : D} (f : w'.Full) (hT : w'.H T = none) (hH : H' = upd w'.H T (.tup [x, y])) (r1 : Rep w' d x) (r2 : Rep w' e y) : Same w'.H H' ∧ Rep (w'.at H') (.tup [d, e]) (.ref T) := by
  subst hH
  exact ⟨same_mut (Same.refl _) hT, rep_tup f hT (show (2 : Nat) ≤ sizeLine by decide) (reps_cons r1 (reps_cons r2 reps_nil))⟩
end
section
variable {K : PySem.W.Frag} {X : Cx} {W : WX} {ex ex2 tg iter : Expr} {f : Sx D} {t : Sx Bool} {a : Sx (List D)} {g : Tg} {pos p : Pos} {i : Nat} {x : Str}
theorem pi_alt {wi wj : TI} (h1 : PI X tg iter wi) (h2 : PI X tg iter wj) : PI X tg iter (fun σ H R => wi σ H R ∨ wj σ H R) := ⟨fun pins s σ H R I h => h.elim (h1.run pins s σ H R I) (h2.run pins s σ H R I)⟩
theorem i_seq (hK : X.K = K) (hf : Ev K X W iter f) : Ei K X W tg iter (iSq f) := by
  subst hK
  obtain ⟨ta, p1, h1⟩ := hf.run
  refine ⟨_, pi_alt (pi_list p1) (pi_alt (pi_tup p1) (pi_str p1)), fun b m ow H σ e S Q t q => ?_⟩
  unfold iSq at q
  cases r : f e S with
  | no => rw [r] at q; exact q.elim
  | er x S1 =>
    rw [r] at q
    refine .inl (h1 b m ow H σ e S _ t ?_)
    rw [r]
    exact q
  | ok x S1 =>
    rw [r] at q
    cases x <;> try exact q.elim
    · rename_i z
      refine .inr (.inr (h1 b m ow H σ e S _ t ?_))
      rw [r]
      intro v m1 H1 f1 c1 rx
      unfold Rep at rx
      obtain ⟨rfl, _⟩ := rx
      exact ⟨z, rfl, q _ m1 H1 f1 c1 itr_str⟩
    · rename_i ds
      refine .inr (.inl (h1 b m ow H σ e S _ t ?_))
      rw [r]
      intro v m1 H1 f1 c1 rx
      unfold Rep at rx
      obtain ⟨a, vs, rfl, tr, r⟩ := rx
      exact ⟨a, rfl, ⟨vs, tr.sq⟩, q _ m1 H1 f1 c1 (itr_tup tr r)⟩
    · rename_i ds
      refine .inl (h1 b m ow H σ e S _ t ?_)
      rw [r]
      intro v m1 H1 f1 c1 rx
      unfold Rep at rx
      obtain ⟨a, vs, rfl, tr, r⟩ := rx
      exact ⟨a, rfl, ⟨vs, tr.sq⟩, q _ m1 H1 f1 c1 (itr_list tr r)⟩
theorem i_rng1 (hg : Gl X "range") (hm : X.mg "range" = none) (ha : Ea K X W [ex] a) (hs : starEach [ex] X.env = [(false, eval ex X.env)] := by rfl) : Ei K X W tg (.Call (.Name "range" p) [ex] [] pos) (iRng1 a) := by
  obtain ⟨ta, p1, h1⟩ := ha.run
  refine ⟨_, pi_range1 hg hm p1 hs, fun b m ow H σ e S Q t q => h1 b m ow H σ e S _ t (Post.bind q fun xs S1 vs m1 H1 f1 c1 rx q => ?_)⟩
  split at q
  · rename_i j
    unfold Reps at rx
    obtain ⟨v, r, rfl, r1, r2⟩ := rx
    unfold Reps at r2
    unfold Rep at r1
    subst r1 r2
    split at q
    · rename_i hc
      refine ⟨j, rfl, (of_okR hc).1, (of_okR hc).2, q _ m1 H1 (Fut.refl _ _) c1 ?_⟩
      have := itr_rng (w := wo K b.B m1 ow H1) (lo := 0) (n := j.toNat)
      simpa using this
    · exact q.elim
  · exact q.elim
end
section
variable (K : PySem.W.Frag) (B : Addr → Prop) (ow : List (Option Addr))
def PostF (m : List Addr) (H : Hp) (W : Value → Option Addr → Hp → Prop) (Q : VK) : R (List D) → Prop
  | .ok ds S' => ∀ p vs m' H', Fut m H m' H' → Fr H p → Cells K (fun x => B x ∨ x = p) m' ow H' S' → ¬ zf B m' ow p → H' p = some (.lst vs) → vs.length ≤ sizeLine → Reps (wo K (fun x => B x ∨ x = p) m' ow H') ds vs → Q (.ref p) H'
  | .er x S' => ∀ c d m' H', Fut m H m' H' → Cells K B m' ow H' S' → ExR (wo K B m' ow H') x c d → W c d H'
  | .no => False
end
structure Ef (K : PySem.W.Frag) (X : Cx) (W : WX) (ex : Expr) (f : Sx (List D)) : Prop where
  run : ∃ te, PE X ex te ∧ ∀ b m ow H σ e S Q, At K b m ow H σ e S → PostF K b.B ow m H (fun c d => W c d σ) Q (f e S) → te σ H Q
section
variable {K : PySem.W.Frag} {B : Addr → Prop} {ow : List (Option Addr)} {m m' : List Addr} {H H' : Hp} {S : Store} {p : Addr}
theorem le_hid : Le (wo K (fun x => B x ∨ x = p) m ow H) (wo K B m ow H) := ⟨rfl, fun a o _ _ z => by
  rintro (q | q | q)
  · exact z (.inl (.inl q))
  · exact z (.inr (.inl q))
  · exact z (.inr (.inr q)), fun _ _ e => e, fun _ _ e _ _ => e, fun _ _ _ e => e⟩
theorem Cells.unhide (c : Cells K (fun x => B x ∨ x = p) m ow H S) : Cells K B m ow H S :=
  ⟨fun a h => c.hB a (.inl h), c.nd, c.no, fun a h q => c.nB a h (.inl q), c.od, c.oh, c.len, fun n a x h1 h2 => (c.cs n a x h1 h2).le le_hid fun o e _ => e, c.tb, fun a z => c.nt a (z.imp .inl id)⟩
theorem le_hide {o : HO} (hp : H p = none) : Le (wo K B m ow H) (wo K (fun x => B x ∨ x = p) m ow (upd H p o)) := ⟨rfl, fun a u e _ z => by
  rintro ((q | q) | q | q)
  · exact z (.inl q)
  · have e : H a = some u := e
    rw [q, hp] at e
    cases e
  · exact z (.inr (.inl q))
  · exact z (.inr (.inr q)), fun _ _ e => e, fun a u e _ _ => by
    show upd H p o a = some u
    rw [upd_ne (ne_of_none e hp)]
    exact e, fun a o u e => by
    show L2.upd H p _ a = some _
    rw [upd_ne (ne_of_none e hp)]
    exact e⟩
theorem Cells.hide {o : HO} (c : Cells K B m ow H S) (hp : H p = none) (hf : ¬ zf B m ow p) (ho : ∀ ps, o ≠ .tbl ps) (hto : ∀ xs, o ≠ .tup xs := by intro _ z; cases z) : Cells K (fun x => B x ∨ x = p) m ow (upd H p o) S := by
  have s : Same H (upd H p o) := same_mut (Same.refl _) hp
  refine ⟨fun a h q => ?_, c.nd, c.no, fun a h q => ?_, c.od, fun a h q => c.oh a h (q.same s), c.len, fun n a x h1 h2 => (c.cs n a x h1 h2).le (le_hide hp) fun o e _ => s _ _ e, c.tb.ext s, fun a z xs hx => if e : a = p then hto xs (by rw [e, upd_same] at hx; exact Option.some.inj hx) else c.ntK (fun x u h _ _ => s x u h) a (z.elim (fun h => h.elim .inl fun h => (e h).elim) .inr) xs hx⟩
  · rcases h with h | h
    · exact c.hB a h (q.same s)
    · exact (h ▸ q : Fr _ p).no upd_same ho
  · rcases q with q | q
    · exact c.nB a h q
    · subst q; exact hf (.inr h)
theorem PostF.go {W : Value → Option Addr → Hp → Prop} {Q : VK} {r : R (List D)} (h : PostF K B ow m H W Q r) (f : Fut m H m' H') : PostF K B ow m' H' W Q r := by
  cases r with
  | ok y S' => exact fun p vs m2 H2 f2 hp => h p vs m2 H2 (f.trans f2) (f.dom p hp)
  | er x S' => exact fun c d m2 H2 f2 => h c d m2 H2 (f.trans f2)
  | no => exact h
theorem PostF.new {W : Value → Option Addr → Hp → Prop} {Q : VK} {ds : List D} {vs : List V} (h : PostF K B ow m H W Q (.ok ds S)) (c : Cells K B m ow H S) (r : Reps (wo K B m ow H) ds vs) (hl : vs.length ≤ sizeLine) (hp : H p = none) : Q (.ref p) (upd H p (.lst vs)) := by
  have hf : ¬ zf B m ow p := fun z => c.full p z (.none hp)
  exact h p vs m _ (Fut.same (same_mut (Same.refl _) hp)) (.none hp) (c.hide hp hf fun _ z => by cases z) hf upd_same hl (Reps.le (le_hide hp) ds r)
end
def eNew (f : Sx (List D)) (e : En) (S : Store) : R D := (f e S).bind fun ds S1 => .ok (.lst ds) S1
def lDisp (a : Sx (List D)) (e : En) (S : Store) : R (List D) := (a e S).bind fun ds S1 => if ds.length ≤ sizeLine then .ok ds S1 else .no
def mapA (g : Tg) (t : Sx Bool) (f : Sx D) : List D → List D → En → Store → R (List D)
  | acc, [], _, S => .ok acc S
  | acc, d :: ds, e, S => match g d e with
    | none => .no
    | some e1 => (t e1 S).bind fun c S1 => if c then (f e1 S1).bind fun y S2 => mapA g t f (acc ++ [y]) ds e S2 else mapA g t f acc ds e S1
def clr : List Nat → En → En
  | [], e => e
  | v :: vs, e => (clr vs e).set v .no
def R.clean {α : Type} : R α → R α
  | .ok a S => .ok a S
  | _ => .no
@[simp] theorem clean_ok {α : Type} {a : α} {S : Store} : (R.ok a S).clean = .ok a S := rfl
@[simp] theorem clean_er {α : Type} {x : Exn} {S : Store} : (R.er x S : R α).clean = .no := rfl
@[simp] theorem clean_no {α : Type} : (R.no : R α).clean = .no := rfl
def lComp (vs : List Nat) (it : Sx (List D)) (g : Tg) (t : Sx Bool) (f : Sx D) (e : En) (S : Store) : R (List D) := (it e S).bind fun ds S1 => if ds.length ≤ sizeLine ∧ vs.all (fun v => notOwn v e) = true then (mapA g t f [] ds (clr vs e) S1).clean else .no
def tYesD (_ : En) (S : Store) : R Bool := .ok true S
structure Ets (K : PySem.W.Frag) (X : Cx) (W : WX) (es : List Expr) (f : Sx Bool) : Prop where
  run : ∃ tt, PTs X es tt ∧ ∀ b m ow H σ e S Q, At K b m ow H σ e S → Post K b.B ow m H RB (fun c d => W c d σ) Q (f e S) → tt σ H Q
def W0 : WX := fun _ _ _ _ => False
section
variable {K : PySem.W.Frag} {X : Cx} {W : WX} {ex ex2 tg iter elt : Expr} {ifs : List Expr} {f : Sx D} {t : Sx Bool} {a it : Sx (List D)} {l : Sx (List D)} {g : Tg} {pos p : Pos} {i : Nat} {x : Str}
theorem x_new (h : Ef K X W ex l) : Ev K X W ex (eNew l) := by
  obtain ⟨te, p1, h1⟩ := h.run
  refine ⟨te, p1, fun b m ow H σ e S Q t q => h1 b m ow H σ e S Q t ?_⟩
  unfold eNew at q
  cases r : l e S with
  | no => rw [r] at q; exact q.elim
  | er x S1 => rw [r] at q; exact q
  | ok ds S1 =>
    rw [r] at q
    refine fun p vs m1 H1 f1 hp c1 z hv hl rx => q _ m1 H1 f1 c1.unhide ?_
    show Rep _ (.lst ds) (.ref p)
    unfold Rep
    exact ⟨p, vs, rfl, ⟨z, hv, hl⟩, Reps.le le_hid ds rx⟩
theorem f_disp {es : List Expr} (ha : Ea K X W es a) : Ef K X W (.List es pos) (lDisp a) := by
  obtain ⟨ta, p1, h1⟩ := ha.run
  refine ⟨_, pe_lst p1, fun b m ow H σ e S Q t q => h1 b m ow H σ e S _ t ?_⟩
  unfold lDisp at q
  cases r : a e S with
  | no => rw [r] at q; exact q.elim
  | er x S1 => rw [r] at q; exact q
  | ok ds S1 =>
    rw [r, ok_bind] at q
    intro vs m1 H1 f1 c1 rx
    split at q
    · rename_i hl
      rw [← reps_len rx] at hl
      exact ⟨hl, fun p hp => (q.go f1).new c1 rx hl hp⟩
    · exact q.elim
theorem ts_nil : Ets K X W [] tYesD := ⟨_, pts_nil, fun b m ow H σ e S Q t q => q true m H (Fut.refl _ _) t.cells rfl⟩
theorem ts_one (h : Et K X W ex t) : Ets K X W [ex] t := by
  obtain ⟨tt, p1, h1⟩ := h.run
  exact ⟨_, pts_one p1, h1⟩
theorem wipe_at {b : Bs} {m : List Addr} {ow : List (Option Addr)} {H : Hp} {σ : L2.St} {e : En} {S : Store} (t : At K b m ow H σ e S) : ∀ vs, vs.all (fun v => notOwn v e) = true → At K b m ow H (wipe σ vs) (clr vs e) S
  | [], _ => t
  | v :: vs, h => by
    simp only [List.all_cons, Bool.and_eq_true] at h
    refine (wipe_at t vs h.2).clear' ?_ none
    have h1 := h.1
    unfold notOwn at h1 ⊢
    have : (clr vs e)[v]? = e[v]? ∨ (clr vs e)[v]? = some .no := by
      clear h h1
      induction vs with
      | nil => exact .inl rfl
      | cons u us ih =>
        unfold clr
        by_cases q : u = v
        · subst q
          by_cases l : u < (clr us e).length
          · exact .inr (List.getElem?_set_self l)
          · rw [List.getElem?_eq_none (by simpa using l)]
            rw [List.getElem?_eq_none (by simpa using l)] at ih
            rcases ih with ih | ih
            · exact .inl ih
            · cases ih
        · rw [List.getElem?_set_ne q]
          exact ih
    rcases this with q | q
    · rw [q]; exact h1
    · rw [q]
theorem At.hideB {b : Bs} {m : List Addr} {ow : List (Option Addr)} {H : Hp} {σ : L2.St} {e : En} {S : Store} {p : Addr} {o : HO} (t : At K b m ow H σ e S) (hp : H p = none) (ho : ∀ ps, o ≠ .tbl ps) (hto : ∀ xs, o ≠ .tup xs := by intro _ z; cases z) : At K ⟨fun x => b.B x ∨ x = p, b.m0, b.H0, b.sf⟩ m ow (L2.upd H p o) σ e S := by
  have s : Same H (L2.upd H p o) := same_mut (Same.refl _) hp
  have hf : ¬ zf b.B m ow p := fun z => t.cells.full p z (.none hp)
  refine ⟨t.cells.hide hp hf ho hto, t.len, fun j s hs => ?_, t.fut.trans (Fut.same s), t.new, t.oe, t.sf, BasePred.grow _ _ (t.fut.dom p (.none hp)) t.ph⟩
  have h := t.slots j s hs
  cases s with
  | no => exact True.intro
  | val d' => obtain ⟨u, h1, h2⟩ := h; exact ⟨u, h1, Rep.le (le_hide hp) d' h2⟩
  | own x => obtain ⟨u, h1, h2, h3⟩ := h; exact ⟨u, h1, h2, h3.le (le_hide hp) fun o e _ => s _ _ e⟩
theorem At.hid_upd {b : Bs} {m : List Addr} {ow : List (Option Addr)} {H : Hp} {σ : L2.St} {e : En} {S : Store} {p : Addr} {o : HO} (t : At K ⟨fun x => b.B x ∨ x = p, b.m0, b.H0, b.sf⟩ m ow H σ e S) (h0 : Fr b.H0 p) (ho : ∀ ps, o ≠ .tbl ps) (hp1 : ∃ o, H p = some o ∧ (∀ ps, o ≠ .tbl ps) ∧ ∀ φ, o ≠ .ext φ) (hto : ∀ xs, o ≠ .tup xs := by intro _ z; cases z) (nz : ∀ o u, H p ≠ some (.frz o u)) : At K ⟨fun x => b.B x ∨ x = p, b.m0, b.H0, b.sf⟩ m ow (L2.upd H p o) σ e S := by
  have keep : ∀ x u, x ≠ p → H x = some u → L2.upd H p o x = some u := fun x u n h => by rw [upd_ne n]; exact h
  have dom : ∀ x, Fr (L2.upd H p o) x → Fr H x := fun x h => h.upd ho
  have le : Le (wo K (fun x => b.B x ∨ x = p) m ow H) (wo K (fun x => b.B x ∨ x = p) m ow (L2.upd H p o)) := ⟨rfl, fun _ _ _ _ h => h, fun _ _ h => h, fun x u h _ z => keep x u (fun q => z (.inl (.inr q))) h, upd_fz nz⟩
  have nm : ∀ x, x ∈ m ∨ some x ∈ ow → x ≠ p := fun x hx q => t.cells.nB x hx (.inr q)
  refine ⟨⟨fun x hx q => t.cells.hB x hx (dom x q), t.cells.nd, t.cells.no, t.cells.nB, t.cells.od, fun x hx q => t.cells.oh x hx (dom x q), t.cells.len, fun n x c h1 h2 => (t.cells.cs n x c h1 h2).le le fun u e _ => keep x u (nm x (.inl (List.mem_of_getElem? h1))) e, tabs_keep t.cells.tb hp1 keep, fun x z xs hx => if e : x = p then hto xs (by rw [e, upd_same] at hx; exact Option.some.inj hx) else t.cells.ntK1 keep x z e xs hx⟩, t.len, fun j s hs => ?_, ?_, t.new, t.oe, t.sf, t.ph⟩
  · have h := t.slots j s hs
    cases s with
    | no => exact True.intro
    | val d' => obtain ⟨u, h1, h2⟩ := h; exact ⟨u, h1, Rep.le le d' h2⟩
    | own x => obtain ⟨u, h1, h2, h3⟩ := h; exact ⟨u, h1, h2, h3.le le fun o e _ => keep u o (nm u (.inr (List.mem_of_getElem? h2))) e⟩
  · obtain ⟨pre, kp, dm, fz⟩ := t.fut
    refine ⟨pre, fun x u h n hm => keep x u (fun q => ?_) (kp x u h n hm), fun x h => dm x (dom x h), fun x o u h => upd_fz nz x o u (fz x o u h)⟩
    rw [q] at h
    exact h0.no h n
def teOf (K : PySem.W.Frag) (W : WX) (f : Sx D) : TE := fun σ H Q => ∃ b m ow e S, At K b m ow H σ e S ∧ Post K b.B ow m H Rep (fun c d => W c d σ) Q (f e S)
def ttOf (K : PySem.W.Frag) (W : WX) (f : Sx Bool) : TT := fun σ H Q => ∃ b m ow e S, At K b m ow H σ e S ∧ Post K b.B ow m H RB (fun c d => W c d σ) Q (f e S)
def tgOf (K : PySem.W.Frag) (us : List Nat) (g : Tg) : TG := fun v σ H N => ∃ b m ow e S d, At K b m ow H σ e S ∧ Rep (wo K b.B m ow H) d v ∧ match g d e with
    | some e' => ∀ σ', At K b m ow H σ' e' S → wipe σ' us = wipe σ us → N σ' H
    | none => False
theorem Ev.canon (h : Ev K X W ex f) : PE X ex (teOf K W f) := by
  obtain ⟨te, p1, h1⟩ := h.run
  exact ⟨fun pins s σ H Q I ⟨b, m, ow, e, S, t, q⟩ => p1.run pins s σ H Q I (h1 b m ow H σ e S Q t q)⟩
theorem Ets.canon {es : List Expr} (h : Ets K X W es t) : PTs X es (ttOf K W t) := by
  obtain ⟨te, p1, h1⟩ := h.run
  exact ⟨fun pins s σ H Q I ⟨b, m, ow, e, S, t, q⟩ => p1.run pins s σ H Q I (h1 b m ow H σ e S Q t q)⟩
theorem Eg.canon {us : List Nat} (h : Eg K X us tg g) : PG X tg (tgOf K us g) := by
  obtain ⟨te, p1, h1⟩ := h.run
  exact ⟨fun pins s σ H v u Q I r ⟨b, m, ow, e, S, d, t, q, z⟩ => p1.run pins s σ H v u Q I r (h1 b m ow H σ e S d v Q t q z)⟩
theorem lc_rd {wi : TI} {vs : List Nat} (h1 : ∀ b m ow H σ e S Q, At K b m ow H σ e S → Post K b.B ow m H ItR (fun c d => W c d σ) Q (it e S) → wi σ H Q) : ∀ b m ow H σ e S Q, At K b m ow H σ e S → PostF K b.B ow m H (fun c d => W c d σ) Q (lComp vs it g t f e S) → tLc wi (tgOf K vs g) (ttOf K W0 t) (teOf K W0 f) vs σ H Q := by
  refine fun b m ow H σ e S Q t0 q => h1 b m ow H σ e S _ t0 ?_
  unfold lComp at q
  cases r : it e S with
  | no => rw [r] at q; exact q.elim
  | er x S1 => rw [r] at q; exact q
  | ok ds S1 =>
    rw [r, ok_bind] at q
    intro J m1 H1 f1 c1 rJ D hD
    obtain ⟨G, Y, wk, hG, hY⟩ := rJ
    split at q
    · rename_i hl
      obtain ⟨hl, hno⟩ := hl
      have t1 := t0.go f1 c1
      have hD0 : Fr b.H0 D := t1.fut.dom D (.none hD)
      have tw := wipe_at t1 vs hno
      have th : At K ⟨fun x => b.B x ∨ x = D, b.m0, b.H0, b.sf⟩ m1 ow (L2.upd H1 D (.lst [])) (wipe σ vs) (clr vs e) S1 := tw.hideB hD fun _ z => by cases z
      have l1 : Le (wo K b.B m1 ow H1) (wo K (fun x => b.B x ∨ x = D) m1 ow (L2.upd H1 D (.lst []))) := le_hide hD
      -- what is known at each turn
      let Pv : Nat → Hp → Prop := fun i H' => ∃ m' S' vs' acc, At K ⟨fun x => b.B x ∨ x = D, b.m0, b.H0, b.sf⟩ m' ow H' (wipe σ vs) (clr vs e) S' ∧ Fut m1 H1 m' H' ∧ H' D = some (.lst vs') ∧ vs'.length ≤ i ∧ Reps (wo K (fun x => b.B x ∨ x = D) m' ow H') acc vs' ∧
        PostF K b.B ow m H (fun c d => W c d σ) Q (mapA g t f acc (ds.drop i) (clr vs e) S').clean
      refine lc_it wk Pv ⟨m1, S1, [], [], th, Fut.same (same_mut (Same.refl _) hD), upd_same, Nat.le_refl _, reps_nil, by simpa using q⟩ ?_ ?_ ?_
      · rintro i H' hi ⟨m', S', vs', acc, t', f', _⟩
        exact hG (wo K (fun x => b.B x) m' ow H') f'.le
      · rintro i x H' H2 hi ⟨m', S', vs', acc, t', f', hv, hvl, ra, q⟩ y
        have hd : ds[i]? = some ds[i] := List.getElem?_eq_getElem hi
        have le1 : Le (wo K b.B m1 ow H1) (wo K (fun x => b.B x ∨ x = D) m' ow H') := by
          refine ⟨rfl, fun a o e n z => ?_, fun n a e => f'.le (K := K) (B := b.B) (ow := ow) |>.m n a e, fun a o e n z => f'.keep a o e n fun hm => z (.inr (.inl hm)), f'.fz⟩
          have z2 := f'.le (K := K) (B := b.B) (ow := ow) |>.z a o e n z
          rintro ((h | h) | h | h)
          · exact z2 (.inl h)
          · have e : H1 a = some o := e
            rw [h, hD] at e; cases e
          · exact z2 (.inr (.inl h))
          · exact z2 (.inr (.inr h))
        obtain ⟨s2, rd⟩ := hY i ds[i] _ x H2 hd le1 t'.cells.full y
        have t2 := t'.same s2
        rw [List.drop_eq_getElem_cons hi] at q
        unfold mapA at q
        refine ⟨_, m', ow, clr vs e, S', ds[i], t2, rd, ?_⟩
        cases qg : g ds[i] (clr vs e) with
        | none => rw [qg] at q; exact q.elim
        | some e1 =>
          rw [qg] at q
          dsimp only at q ⊢
          intro σ2 t3 hw
          have hww : wipe (wipe σ vs) vs = wipe σ vs := by
            refine List.ext_getElem? fun j => ?_
            simp only [wipe_get, wipe_length]
            split <;> rfl
          rw [hww] at hw
          refine ⟨hw, ?_⟩
          -- the block's point is left: slots as at the start
          have back : ∀ {m3 : List Addr} {H3 : Hp} {S3 : Store}, Fut m' H2 m3 H3 → Cells K (fun x => b.B x ∨ x = D) m3 ow H3 S3 → At K ⟨fun x => b.B x ∨ x = D, b.m0, b.H0, b.sf⟩ m3 ow H3 (wipe σ vs) (clr vs e) S3 := fun f3 c3 => t2.go f3 c3
          have q3 := q
          refine ⟨⟨fun x => b.B x ∨ x = D, b.m0, b.H0, b.sf⟩, m', ow, e1, S', t3, ?_⟩
          cases rt : t e1 S' with
          | no => rw [rt] at q; exact q.elim
          | er x S3 => rw [rt] at q; exact q.elim
          | ok c S3 =>
            rw [rt, ok_bind] at q
            intro c' m3 H3 f3 c3 ec
            obtain rfl : c' = c := ec
            have fD : H3 D = some (.lst vs') := f3.keep D _ (s2 _ _ hv) (fun _ z => by cases z) fun hm => t2.cells.nB D (.inl hm) (.inr rfl)
            have f1D : Fut m1 H1 m3 H3 := f'.trans ((Fut.same s2).trans f3)
            have le3 : Le (wo K (fun x => b.B x ∨ x = D) m' ow H') (wo K (fun x => b.B x ∨ x = D) m3 ow H3) := ((Fut.same s2).trans f3).le
            cases c' with
            | false =>
              rw [if_neg Bool.false_ne_true] at q ⊢
              exact ⟨m3, S3, vs', acc, back f3 c3, f1D, fD, Nat.le_succ_of_le hvl, Reps.le le3 _ ra, q⟩
            | true =>
              rw [if_pos rfl] at q ⊢
              refine ⟨⟨fun x => b.B x ∨ x = D, b.m0, b.H0, b.sf⟩, m3, ow, e1, S3, t3.go f3 c3, ?_⟩
              cases rf : f e1 S3 with
              | no => rw [rf] at q; exact q.elim
              | er x S4 => rw [rf] at q; exact q.elim
              | ok y S4 =>
                rw [rf, ok_bind] at q
                intro v m4 H4 f4 c4 ry
                have fD4 : H4 D = some (.lst vs') := f4.keep D _ fD (fun _ z => by cases z) fun hm => c3.nB D (.inl hm) (.inr rfl)
                have ti := back (f3.trans f4) c4
                have tn := ti.hid_upd (o := .lst (vs' ++ [v])) hD0 (fun _ z => by cases z) ⟨_, fD4, (fun _ z => by cases z), (fun _ z => by cases z)⟩ (nz := nz_of fD4 fun _ _ z => by cases z)
                have le4 : Le (wo K (fun x => b.B x ∨ x = D) m4 ow H4) (wo K (fun x => b.B x ∨ x = D) m4 ow (L2.upd H4 D (.lst (vs' ++ [v])))) := ⟨rfl, fun _ _ _ _ h => h, fun _ _ h => h, fun x u h _ z => by
                  show L2.upd H4 D _ x = some u
                  rw [upd_ne (fun q => z (.inl (.inr q)))]
                  exact h, upd_fz (nz_of fD4 fun _ _ z => by cases z)⟩
                have ra4 := Reps.le (le3.trans (f4.le.trans le4)) _ ra
                refine ⟨vs', fD4, Nat.lt_of_le_of_lt hvl (Nat.lt_of_lt_of_le hi hl), m4, S4, vs' ++ [v], acc ++ [y], tn, ?_, upd_same, by simpa using hvl, reps_app ra4 (reps_cons (Rep.le le4 y ry) reps_nil), q⟩
                have fa := f1D.trans f4
                refine ⟨fa.pre, fun a o ea n hm => ?_, fun a ha => ?_, fun a o u ea => by rw [upd_ne (ne_of_none ea hD)]; exact fa.fz a o u ea⟩
                · rw [upd_ne (ne_of_none ea hD)]
                  exact fa.keep a o ea n hm
                · exact fa.dom a (ha.upd fun _ z => by cases z)
      · rintro H' ⟨m', S', vs', acc, t', f', hv, hvl, ra, q⟩
        rw [List.drop_length] at q
        exact q D vs' m' H' (f1.trans f') (f1.dom D (.none hD)) t'.cells (fun z => t'.cells.nB D (by
          rcases z with z | z
          · exact absurd z (fun z => t1.cells.hB D z (.none hD))
          · exact z) (.inr rfl)) hv (Nat.le_trans hvl hl) ra
    · exact q.elim
section
variable {scope : Scope} {own : List (Str × Nat)}
theorem f_comp (hc : X.calm = true) (hN : X.N.Nodup) (hi : Ei K X W tg iter it) (ok : BlkOk X.N X.env.scope scope own)
    (hg : ∀ (s : Shared) (H : Hp) (C : Addr) (cl : List (Str × Addr)) (fp : List Addr), Eg K (X.blk s H scope (compEnvC scope cl C X.env) fp) (own.map (·.2)) tg g) (ht : ∀ (s : Shared) (H : Hp) (C : Addr) (cl : List (Str × Addr)) (fp : List Addr), Ets K (X.blk s H scope (compEnvC scope cl C X.env) fp) W0 ifs t)
    (he : ∀ (s : Shared) (H : Hp) (C : Addr) (cl : List (Str × Addr)) (fp : List Addr), Ev K (X.blk s H scope (compEnvC scope cl C X.env) fp) W0 elt f) (hs : ∀ x, foldedSetIterable iter X.env x = pure x := by intro _; rfl) :
    Ef K X W (.ListComp elt [⟨tg, iter, ifs, 0⟩] scope pos) (lComp (own.map (·.2)) it g t f) := by
  obtain ⟨wi, p1, h1⟩ := hi.run
  exact ⟨_, pe_lc hc hN p1 ok (fun s H C cl fp => (hg s H C cl fp).canon) (fun s H C cl fp => (ht s H C cl fp).canon) (fun s H C cl fp => (he s H C cl fp).canon) hs, lc_rd h1⟩
end
end
end Sh
namespace Sh
open PySem PySem.Spec PyProof.Rows L2 Nk StX
variable [TabSet] [BasePred]
def spSh (K : PySem.W.Frag) (f : List D → Store → R D) : Sp := fun vs H Q E => ∃ B m S ds, Cells K B m [] H S ∧ Reps (wo K B m [] H) ds vs ∧ Post K B [] m H Rep E Q (f ds S)
def Shp (K : PySem.W.Frag) (sp : Sp) (f : List D → Store → R D) : Prop := ∀ B m S ds vs H Q E, Cells K B m [] H S → Reps (wo K B m [] H) ds vs → Post K B [] m H Rep E Q (f ds S) → sp vs H Q E
theorem shp_sh {K : PySem.W.Frag} {f : List D → Store → R D} : Shp K (spSh K f) f := fun B m S ds vs H Q E c r q => ⟨B, m, S, ds, c, r, q⟩
section
variable {K : PySem.W.Frag} {B : Addr → Prop} {m m' : List Addr} {ow : List (Option Addr)} {H H' : Hp} {S S' : Store}
def hidB (B : Addr → Prop) (ow : List (Option Addr)) : Addr → Prop := fun a => B a ∨ some a ∈ ow
theorem zf_hid : zf (hidB B ow) m [] = zf B m ow := by
  funext a
  unfold zf hidB
  apply propext
  constructor
  · rintro ((h | h) | h | h)
    · exact .inl h
    · exact .inr (.inr h)
    · exact .inr (.inl h)
    · exact (List.not_mem_nil h).elim
  · rintro (h | h | h)
    · exact .inl (.inl h)
    · exact .inr (.inl h)
    · exact .inl (.inr h)
theorem wo_hid : wo K (hidB B ow) m [] H = wo K B m ow H := by
  show (⟨K, zf (hidB B ow) m [], m, H⟩ : Wo) = ⟨K, zf B m ow, m, H⟩
  rw [zf_hid]
theorem Cells.toHid (c : Cells K B m ow H S) : Cells K (hidB B ow) m [] H S :=
  ⟨fun a h => h.elim (c.hB a) (c.oh a), c.nd, fun _ _ h => (List.not_mem_nil h).elim, fun a h q => h.elim (fun h => q.elim (c.nB a (.inl h)) (c.no a h)) fun h => (List.not_mem_nil h).elim, fun i j a h => by simp at h, fun a h => (List.not_mem_nil h).elim, c.len,
    fun n a x h1 h2 => by rw [wo_hid]; exact c.cs n a x h1 h2, c.tb, fun a z => c.nt a (zf_hid ▸ z)⟩
theorem Cells.ofHid (c0 : Cells K B m ow H S) (c : Cells K (hidB B ow) m' [] H' S') : Cells K B m' ow H' S' :=
  ⟨fun a h => c.hB a (.inl h), c.nd, fun a h q => c.nB a (.inl h) (.inr q), fun a h q => h.elim (fun h => c.nB a (.inl h) (.inl q)) fun h => c0.nB a (.inr h) q, c0.od, fun a h => c.hB a (.inr h), c.len,
    fun n a x h1 h2 => by rw [← wo_hid]; exact c.cs n a x h1 h2, c.tb, fun a z => c.nt a (zf_hid.symm ▸ z)⟩
theorem Post.toHid {α β : Type} {RP : Wo → β → α → Prop} {W : Value → Option Addr → Hp → Prop} {Q : α → Hp → Prop} {r : R β} (c0 : Cells K B m ow H S) (h : Post K B ow m H RP W Q r) : Post K (hidB B ow) [] m H RP W Q r := by
  cases r with
  | ok y S1 => exact fun a m1 H1 f1 c1 r1 => h a m1 H1 f1 (c0.ofHid c1) (by rw [← wo_hid]; exact r1)
  | er x S1 => exact fun a d m1 H1 f1 c1 r1 => h a d m1 H1 f1 (c0.ofHid c1) (by rw [← wo_hid]; exact r1)
  | no => exact h
theorem Shp.at {sp : Sp} {f : List D → Store → R D} {vs : List V} {ds : List D} {Q : VK} {E : XK} (h : Shp K sp f) (c : Cells K B m ow H S) (r : Reps (wo K B m ow H) ds vs) (q : Post K B ow m H Rep E Q (f ds S)) : sp vs H Q E :=
  h (hidB B ow) m S ds vs H Q E c.toHid (by rw [wo_hid]; exact r) (q.toHid c)
end
def RS.res : RS → R D
  | .nx _ S => .ok .non S
  | .rt d S => .ok d S
  | .er x _ S => .er x S
  | _ => .no
@[simp] theorem res_nx {e : En} {S : Store} : (RS.nx e S).res = .ok .non S := rfl
@[simp] theorem res_rt {d : D} {S : Store} : (RS.rt d S).res = .ok d S := rfl
@[simp] theorem res_er {x : Exn} {e : En} {S : Store} : (RS.er x e S).res = .er x S := rfl
@[simp] theorem res_no : RS.no.res = .no := rfl
@[simp] theorem ite_res {c : Prop} [Decidable c] {r s : RS} : (if c then r else s).res = if c then r.res else s.res := by split <;> rfl
@[simp] theorem run_res {α : Type} {r : R α} {e : En} {k : α → Store → RS} : (r.run e k).res = r.bind fun a S => (k a S).res := by cases r <;> rfl
def runD (n k : Nat) (f : Sy) (ds : List D) (S : Store) : R D := if ds.length = n then (f (ds.map Sl.val ++ List.replicate k .no) S).res else .no
section
variable {K : PySem.W.Frag} {P : Program} {w : World} {mg : Str → Option Value} {base : Heap}
theorem start_at {N : List Str} {B : Addr → Prop} {m : List Addr} {H : Hp} {S : Store} {ds : List D} {vs : List V} {n k : Nat} (hφ : BasePred.Φ ⟨B, m, H, none⟩) (hN : N.length = n + k) (hn : ds.length = n) (c : Cells K B m [] H S) (r : Reps (wo K B m [] H) ds vs) :
    At K ⟨B, m, H, none⟩ m (List.replicate (n + k) none) H (L2.start N vs) (ds.map Sl.val ++ List.replicate k .no) S := by
  have hv := reps_len r
  have none_mem : ∀ a : Addr, some a ∉ List.replicate (n + k) (none : Option Addr) := fun a h => by
    have := (List.mem_replicate.mp h).2
    cases this
  have none_get : ∀ (i : Nat) (a : Addr), (List.replicate (n + k) (none : Option Addr))[i]? ≠ some (some a) := fun i a h => none_mem a (List.mem_of_getElem? h)
  have ze : wo K B m (List.replicate (n + k) none) H = wo K B m [] H := by
    show (⟨K, zf B m (List.replicate (n + k) none), m, H⟩ : Wo) = ⟨K, zf B m [], m, H⟩
    congr 1
    funext a
    unfold zf
    apply propext
    constructor
    · rintro (h | h | h)
      · exact .inl h
      · exact .inr (.inl h)
      · exact (none_mem a h).elim
    · rintro (h | h | h)
      · exact .inl h
      · exact .inr (.inl h)
      · exact (List.not_mem_nil h).elim
  refine ⟨⟨c.hB, c.nd, fun a _ h => none_mem a h, fun a h => h.elim (fun h => c.nB a (.inl h)) fun h => (none_mem a h).elim, fun i j a h => (none_get i a h).elim, fun a h => (none_mem a h).elim, c.len, fun n a x h1 h2 => by rw [ze]; exact c.cs n a x h1 h2, c.tb, fun a z => c.nt a (z.imp id fun z => z.imp id fun z => (none_mem a z).elim)⟩, ?_, fun i s hs => ?_, Fut.refl m H, fun a h => (none_mem a h).elim, fun i a h => (none_get i a h).elim, (fun a h => by cases h), hφ⟩
  · unfold L2.start
    simp
    omega
  · rw [ze]
    by_cases l : i < ds.length
    · rw [List.getElem?_append_left (by simpa using l), List.getElem?_map] at hs
      rw [List.getElem?_eq_getElem l] at hs
      cases hs
      obtain ⟨v, h1, h2⟩ := reps_get r (List.getElem?_eq_getElem l)
      refine ⟨v, ?_, h2⟩
      unfold L2.start
      rw [List.getElem?_append_left (by simp; omega), List.getElem?_map, h1]
      rfl
    · rw [List.getElem?_append_right (by simpa using l)] at hs
      have := List.mem_of_getElem? hs
      rw [(List.mem_replicate.mp this).2]
      exact True.intro
theorem body_of {X : Cx} {N : List Str} {body : List Stmt} {f : Sy} {E : XK} {n k : Nat} (hφ : ∀ b, BasePred.Φ b) (hN : N.length = n + k) (h : Ess K X (fun c d _ H => E c d H) body f) {vs : List V} {H : Hp} {Q : VK} (hsp : spSh K (runD n k f) vs H Q E) :
    ∃ t, PSs X body t ∧ t { nx := fun _ H' => Q .non H', rt := Q } (L2.start N vs) H := by
  obtain ⟨ts, p1, h1⟩ := h.run
  refine ⟨ts, p1, ?_⟩
  obtain ⟨B, m, S, ds, c, r, q⟩ := hsp
  unfold runD at q
  split at q
  · rename_i hn
    refine h1 ⟨B, m, H, none⟩ m (List.replicate (n + k) none) H _ (ds.map Sl.val ++ List.replicate k .no) S _ (start_at (hφ _) hN hn c r) ?_
    have none_mem : ∀ a : Addr, some a ∉ ([] : List (Option Addr)) := fun a h => List.not_mem_nil h
    have drop : ∀ {m' : List Addr} {ow' : List (Option Addr)} {H' : Hp} {S' : Store}, Cells K B m' ow' H' S' → Cells K B m' [] H' S' := fun c => c.sub (fun a h => (none_mem a h).elim) fun i j a h => by simp at h
    generalize f (ds.map Sl.val ++ List.replicate k .no) S = rs at q ⊢
    cases rs with
    | nx e' S' => exact fun σ' m' ow' H' t l => q .non m' H' t.fut (drop t.cells) rep_non
    | rt d S' => exact fun v m' ow' H' c' f' _ r' => q v m' H' f' (drop c') (Rep.le (le_ow fun a h => (none_mem a h).elim) d r')
    | er x e' S' => exact fun c d σ' m' ow' H' t l rx => q c d m' H' t.fut (drop t.cells) (ExR.le (le_ow fun a h => (none_mem a h).elim) rx)
    | bk e' S' => exact q.elim
    | ct e' S' => exact q.elim
    | no => exact q.elim
  · exact q.elim
theorem spSh_len {n k : Nat} {f : Sy} {vs : List V} {H : Hp} {Q : VK} {E : XK} (h : spSh K (runD n k f) vs H Q E) : vs.length = n := by
  obtain ⟨B, m, S, ds, c, r, q⟩ := h
  unfold runD at q
  split at q
  · rw [reps_len r]; assumption
  · exact q.elim
theorem fo_sh {x qual : Str} {st : Stmt} {fa : Addr} {N ps : List Str} {lv n k : Nat} {f : Sy} (F : ∃ fd, FunD K x qual (defArgs st) (defBody st) (defScope st) [] [] fa fd) (S : FnScope N ps (defScope st))
    (hb : ∀ (kV doc pm : Value) (an : Option Addr) (cdv ct : Value) (us : List Value), us.length = ps.length → bindArgs (PySem.W.fnOf x qual (defArgs st) (defBody st) (defScope st) .none kV doc pm an cdv ct) ⟨us, []⟩ = pure (ps.zip us)) (hn : ps.length = n) (hN : N.length = n + k) (hφ : ∀ b, BasePred.Φ b)
    (hbody : ∀ (cdv : Value) (A : Around) (outer : List Env) (s : Shared) (H : Hp) (E : XK), Room lv (A.deeper (envOfC qual (defScope st) s.heap.objs.size fa cdv)) →
      Ess K (cxOf (L2.CX P w) P w K mg base N qual (defScope st) fa cdv A outer s H E) (fun c d _ H => E c d H) (defBody st) f) : Fo P w K mg base fa (lv + 1) ps (spSh K (runD n k f)) :=
  fo_mk F S hb (fun vs H Q E h => by rw [spSh_len h, hn]) fun cdv A outer s H vs Q E hr hsp => body_of hφ hN (hbody cdv A outer s H E hr) hsp
theorem df_sh {x qual : Str} {st : Stmt} {fa : Addr} {N ps : List Str} {lv n k : Nat} {f : Sy} (F : ∃ fd, FunD K x qual (defArgs st) (defBody st) (defScope st) [] [] fa fd) (hm : mg x = some (.ref fa)) (S : FnScope N ps (defScope st))
    (hb : ∀ (kV doc pm : Value) (an : Option Addr) (cdv ct : Value) (us : List Value), us.length = ps.length → bindArgs (PySem.W.fnOf x qual (defArgs st) (defBody st) (defScope st) .none kV doc pm an cdv ct) ⟨us, []⟩ = pure (ps.zip us)) (hn : ps.length = n) (hN : N.length = n + k) (hφ : ∀ b, BasePred.Φ b)
    (hbody : ∀ (cdv : Value) (A : Around) (outer : List Env) (s : Shared) (H : Hp) (E : XK), Room lv (A.deeper (envOfC qual (defScope st) s.heap.objs.size fa cdv)) →
      Ess K (cxOf (L2.CX P w) P w K mg base N qual (defScope st) fa cdv A outer s H E) (fun c d _ H => E c d H) (defBody st) f) : Df P w K mg base x (lv + 1) ps (spSh K (runD n k f)) :=
  df_mk F hm S hb (fun vs H Q E h => by rw [spSh_len h, hn]) fun cdv A outer s H vs Q E hr hsp => body_of hφ hN (hbody cdv A outer s H E hr) hsp
end
def eDf (f : List D → Store → R D) (a : Sx (List D)) (e : En) (S : Store) : R D := (a e S).bind fun ds S1 => f ds S1
def D.fld (cs : List String) (f : Str) (S : Store) : D → Option D
  | .obj c fs => if c ∈ cs then fs.lookup f else none
  | .ref n => match S[n]? with
    | some (.ins c fs) => if c ∈ cs then fs.lookup f else none
    | _ => none
  | _ => none
def eFd (cs : List String) (f : Str) (g : Sx D) (e : En) (S : Store) : R D := (g e S).bind fun x S1 => R.of S1 (x.fld cs f S1)
def D.isC (c : String) (m : Str) (S : Store) : D → Bool
  | .obj c' fs => c' == c && (fs.lookup m).isNone
  | .ref n => match S[n]? with
    | some (.ins c' fs) => c' == c && (fs.lookup m).isNone
    | _ => false
  | _ => false
def eMe (c : String) (m : Str) (f : List D → Store → R D) (g : Sx D) (a : Sx (List D)) (e : En) (S : Store) : R D := (g e S).bind fun x S1 => if x.isC c m S1 then (a e S1).bind fun ds S2 => f (x :: ds) S2 else .no
def R.orE {α : Type} : R α → R α → R α
  | .no, s => s
  | r, _ => r
@[simp] theorem orE_no {α : Type} {s : R α} : (R.no : R α).orE s = s := rfl
@[simp] theorem orE_ok {α : Type} {a : α} {S : Store} {s : R α} : (R.ok a S).orE s = .ok a S := rfl
@[simp] theorem orE_er {α : Type} {x : Exn} {S : Store} {s : R α} : (R.er x S : R α).orE s = .er x S := rfl
def FldOk (K : PySem.W.Frag) (f : Str) (cs : List String) : Prop := ∀ c ∈ cs, Cls K (He.ga K c) ∧ NoAttr K (He.ga K c) f
theorem fk_nil {K : PySem.W.Frag} {f : Str} : FldOk K f [] := fun _ h => nomatch h
theorem fk_cons {K : PySem.W.Frag} {f : Str} {c : String} {cs : List String} (h1 : Cls K (He.ga K c)) (h2 : NoAttr K (He.ga K c) f) (h : FldOk K f cs) : FldOk K f (c :: cs) := fun d hd => by
  rcases List.mem_cons.mp hd with rfl | hd
  · exact ⟨h1, h2⟩
  · exact h d hd
theorem cell_ins {K : PySem.W.Frag} {B : Addr → Prop} {m : List Addr} {ow : List (Option Addr)} {H : Hp} {S : Store} {n : Nat} {a : Addr} {c : String} {fs : List (Str × D)} (t : Cells K B m ow H S) (hm : m[n]? = some a) (hS : S[n]? = some (.ins c fs)) : ∃ dx gs, H a = some (.ins (He.ga K c) dx gs) ∧ RepF (wo K B m ow H) fs gs := t.cs n a _ hm hS
section
variable {K : PySem.W.Frag} {X : Cx} {W : WX} {ex ex2 : Expr} {es : List Expr} {f g : Sx D} {a : Sx (List D)} {pos p apos : Pos} {i lv j : Nat} {x m : Str} {ps : List Str} {sp : Sp} {F : List D → Store → R D} {cs : List String} {c : String}
theorem x_df (hd : Df X.prog X.w X.K X.mg X.base x lv ps sp) (hs : Shp K sp F) (hr : Room j X.A) (hk : lv ≤ j) (hg : Gl X x) (tk : Takes X W) (ha : Ea K X W (ex :: es) a)
    (hdb : (x == ("__debug__" : Str)) = false := by decide) (he : starEach (ex :: es) X.env = (false, eval ex X.env) :: starEach es X.env := by rfl) (hpl : (backTo pos (starEach es X.env)).any (·.1) = false := by rfl) : Ev K X W (.Call (.Name x p) (ex :: es) [] pos) (eDf F a) := by
  obtain ⟨ta, p1, h1⟩ := ha.run
  exact ⟨_, pe_df hd hr hk hg tk p1 hdb he hpl, fun b m ow H σ e S Q t q => h1 b m ow H σ e S _ t (Post.bind q fun ds S1 vs m1 H1 f1 c1 rx q => hs.at c1 rx q)⟩
theorem x_fld {fd : Str} (hK : X.K = K) (hc : FldOk K fd cs) (hf : Ev K X W ex f) (hb : attributeBase ex fd X.env (eval ex X.env) = eval ex X.env := by rfl) : Ev K X W (.Attribute ex fd pos) (eFd cs fd f) := by
  subst hK
  obtain ⟨ta, p1, h1⟩ := hf.run
  refine ⟨_, pe_fld p1 hb, fun b m ow H σ e S Q t q => h1 b m ow H σ e S _ t (Post.bind q fun d S1 v m1 H1 f1 c1 rx q => ?_)⟩
  cases d <;> try exact q.elim
  · rename_i c fs
    unfold Rep at rx
    obtain ⟨a, dx, gs, rfl, _, hH, r⟩ := rx
    unfold D.fld at q
    dsimp only at q
    split at q
    · rename_i hm
      cases l : fs.lookup fd with
      | none => rw [l] at q; exact q.elim
      | some d =>
        rw [l] at q
        obtain ⟨u, h2, h3⟩ := repF_get r l
        exact ⟨a, _, dx, gs, u, rfl, hH, (hc c hm).1, (hc c hm).2, h2, q.val c1 h3⟩
    · exact q.elim
  · rename_i n
    unfold Rep at rx
    obtain ⟨a, rfl, hm⟩ := rx
    unfold D.fld at q
    dsimp only at q
    cases s : S1[n]? with
    | none => rw [s] at q; exact q.elim
    | some x =>
      rw [s] at q
      cases x <;> try exact q.elim
      rename_i c fs
      dsimp only at q
      split at q
      · rename_i hmc
        cases l : fs.lookup fd with
        | none => rw [l] at q; exact q.elim
        | some d =>
          rw [l] at q
          obtain ⟨dx, gs, hH, r⟩ := cell_ins c1 hm s
          obtain ⟨u, h2, h3⟩ := repF_get r l
          exact ⟨a, _, dx, gs, u, rfl, hH, (hc c hmc).1, (hc c hmc).2, h2, q.val c1 h3⟩
      · exact q.elim
theorem isC_at {b : Bs} {ow : List (Option Addr)} {m1 : List Addr} {H : Hp} {S : Store} {d : D} {v : V} (t : Cells K b.B m1 ow H S) (r : Rep (wo K b.B m1 ow H) d v) (h : d.isC c m S = true) : ∃ a dx fs, v = .ref a ∧ H a = some (.ins (He.ga K c) dx fs) ∧ fs.lookup m = none := by
  cases d <;> unfold D.isC at h <;> try cases h
  · rename_i c' fs
    simp only [Bool.and_eq_true, beq_iff_eq, Option.isNone_iff_eq_none] at h
    unfold Rep at r
    obtain ⟨a, dx, gs, rfl, _, hH, r⟩ := r
    exact ⟨a, dx, gs, rfl, h.1 ▸ hH, repF_none r h.2⟩
  · rename_i n
    unfold Rep at r
    obtain ⟨a, rfl, hm⟩ := r
    cases s : S[n]? with
    | none => simp only [s] at h; cases h
    | some x =>
      cases x <;> simp only [s] at h <;> try cases h
      rename_i c' fs
      simp only [Bool.and_eq_true, beq_iff_eq, Option.isNone_iff_eq_none] at h
      obtain ⟨dx, gs, hH, r⟩ := cell_ins t hm s
      exact ⟨a, dx, gs, rfl, h.1 ▸ hH, repF_none r h.2⟩
theorem x_me {fa : Addr} {pl : Sem Bool} (hK : X.K = K) (ho : Ev K X W ex2 g) (hc : Cls K (He.ga K c)) (hm : Meth K (He.ga K c) m fa) (hF : Fs X.prog X.w K X.mg X.base fa lv sp) (hs : Shp K sp F) (hr : Room j X.A) (hk : lv ≤ j) (tk : Takes X W) (ha : Ea K X W (ex :: es) a)
    (hst : starEach (ex :: es) X.env = (false, eval ex X.env) :: starEach es X.env := by rfl) (hpl : (backTo pos (starEach es X.env)).any (·.1) = false := by rfl)
    (ht : eval (.Call (.Attribute ex2 m apos) (ex :: es) [] pos) X.env = (do
      let ov ← eval ex2 X.env
      standAt apos.atName
      let (f, first) ← holding [ov] (getMethod ov m pl)
      callWith pos f first (backTo pos (starEach (ex :: es) X.env)) (backToKw pos (keywordEach [] X.env))) := by rfl) : Ev K X W (.Call (.Attribute ex2 m apos) (ex :: es) [] pos) (eMe c m F g a) := by
  subst hK
  obtain ⟨tb, p2, h2⟩ := ho.run
  obtain ⟨ta, p1, h1⟩ := ha.run
  refine ⟨_, pe_meW p2 hc hm hF hr hk tk p1 hst hpl ht, fun b m ow H σ e S Q t q => h2 b m ow H σ e S _ t (Post.bind q fun d S1 v m1 H1 f1 c1 rx q => ?_)⟩
  split at q
  · rename_i hi
    obtain ⟨a, dx, fs, rfl, hH, hl⟩ := isC_at c1 rx hi
    refine ⟨a, dx, fs, rfl, hH, hl, h1 b m1 ow H1 σ e S1 _ (t.go f1 c1) (Post.bind q fun ds S2 vs m2 H2 f2 c2 ry q => hs.at c2 (reps_cons (Rep.le f2.le d rx) ry) q)⟩
  · exact q.elim
def eCm (c : String) (f : List D → Store → R D) (g : Sx D) (a : Sx (List D)) (e : En) (S : Store) : R D := (g e S).bind fun x S1 => match x with
  | .cls c' => if c' = c then (a e S1).bind fun ds S2 => f (.cls c :: ds) S2 else .no
  | _ => .no
theorem x_cm {mc : Value} {fp fa : Addr} {pl : Sem Bool} (hK : X.K = K) (ho : Ev K X W ex2 g) (r : ClX.CRead K (He.ga K c) mc) (hc : ClX.CMet K (He.ga K c) mc m fp fa) (hF : Fs X.prog X.w K X.mg X.base fa lv sp) (hs : Shp K sp F) (hr : Room j X.A) (hk : lv ≤ j) (tk : Takes X W) (ha : Ea K X W (ex :: es) a)
    (hst : starEach (ex :: es) X.env = (false, eval ex X.env) :: starEach es X.env := by rfl) (hpl : (backTo pos (starEach es X.env)).any (·.1) = false := by rfl)
    (ht : eval (.Call (.Attribute ex2 m apos) (ex :: es) [] pos) X.env = (do
      let ov ← eval ex2 X.env
      standAt apos.atName
      let (f, first) ← holding [ov] (getMethod ov m pl)
      callWith pos f first (backTo pos (starEach (ex :: es) X.env)) (backToKw pos (keywordEach [] X.env))) := by rfl) : Ev K X W (.Call (.Attribute ex2 m apos) (ex :: es) [] pos) (eCm c F g a) := by
  subst hK
  obtain ⟨tb, p2, h2⟩ := ho.run
  obtain ⟨ta, p1, h1⟩ := ha.run
  refine ⟨_, pe_cmW p2 r hc hF hr hk tk p1 hst hpl ht, fun b m ow H σ e S Q t q => h2 b m ow H σ e S _ t (Post.bind q fun d S1 v m1 H1 f1 c1 rx q => ?_)⟩
  cases d <;> try exact q.elim
  rename_i c'
  dsimp only at q
  split at q
  · rename_i hi
    subst hi
    have rx0 := rx
    unfold Rep at rx
    subst rx
    exact ⟨rfl, h1 b m1 ow H1 σ e S1 _ (t.go f1 c1) (Post.bind q fun ds S2 vs m2 H2 f2 c2 ry q => hs.at c2 (reps_cons (Rep.le f2.le _ rx0) ry) q)⟩
  · exact q.elim
def ePr (c : String) (f : List D → Store → R D) (g : Sx D) (e : En) (S : Store) : R D := (g e S).bind fun x S1 => if x.isC c "" S1 then (f [x] S1).clean else .no
theorem Post.clean {α β : Type} {B : Addr → Prop} {ow : List (Option Addr)} {m : List Addr} {H : Hp} {RP : Wo → β → α → Prop} {W W' : Value → Option Addr → Hp → Prop} {Q : α → Hp → Prop} {r : R β} (h : Post K B ow m H RP W Q r.clean) : Post K B ow m H RP W' Q r := by
  cases r with
  | ok y S => exact h
  | er x S => exact h.elim
  | no => exact h.elim
theorem x_pr {pp pg : Addr} (hK : X.K = K) (hf : Ev K X W ex g) (hc : Cls K (He.ga K c)) (hp : PropOf K (He.ga K c) m pp pg) (hF : Fo X.prog X.w K X.mg X.base pg lv ps sp) (hs : Shp K sp F) (hr : Room j X.A) (hk : lv + 1 ≤ j) (hab : attributeBase ex m X.env (eval ex X.env) = eval ex X.env := by rfl) : Ev K X W (.Attribute ex m pos) (ePr c F g) := by
  subst hK
  obtain ⟨tb, p2, h2⟩ := hf.run
  refine ⟨_, pe_pr p2 hc hp hF hr hk hab, fun b m ow H σ e S Q t q => h2 b m ow H σ e S _ t (Post.bind q fun d S1 v m1 H1 f1 c1 rx q => ?_)⟩
  split at q
  · rename_i hi
    obtain ⟨a, dx, fs, rfl, hH, hl⟩ := isC_at c1 rx hi
    exact ⟨a, dx, fs, rfl, hH, hs.at c1 (reps_cons rx reps_nil) q.clean⟩
  · exact q.elim
end
def off (a : Addr) (H : Hp) : Hp := fun x => if x = a then none else H x
theorem off_fz {a : Addr} {H : Hp} : ∀ x o u, off a H x = some (.frz o u) → H x = some (.frz o u) := fun x o u e => by
  by_cases z : x = a
  · rw [z] at e; unfold off at e; rw [if_pos rfl] at e; cases e
  · unfold off at e; rwa [if_neg z] at e
theorem off_ne {a x : Addr} {H : Hp} (h : x ≠ a) : off a H x = H x := by unfold off; rw [if_neg h]
theorem off_self {a : Addr} {H : Hp} : off a H a = none := by unfold off; rw [if_pos rfl]
section
variable (K : PySem.W.Frag) (B : Addr → Prop) (m : List Addr) (a : Addr)
def PostN (H : Hp) (E : XK) (Q : VK) : R Cell → Prop
  | .ok c' S' => ∀ m' H', Fut m (off a H) m' H' → Cells K (fun x => B x ∨ x = a) m' [] H' S' → CRep (wo K (fun x => B x ∨ x = a) m' [] H') a c' → Q .non H'
  | .er x S' => ∀ c d m' H', Fut m (off a H) m' H' → Cells K (fun x => B x ∨ x = a) m' [] H' S' → ExR (wo K (fun x => B x ∨ x = a) m' [] H') x c d → E c d H'
  | .no => False
end
def spIn (K : PySem.W.Frag) (f : Cell → List D → Store → R Cell) : Sp := fun vs H Q E => ∃ B m S c ds a us, vs = .ref a :: us ∧ ¬ zf B m [] a ∧ Cells K (fun x => B x ∨ x = a) m [] H S ∧ CRep (wo K (fun x => B x ∨ x = a) m [] H) a c ∧ (∃ k fs, c = .ins k fs) ∧ Reps (wo K (fun x => B x ∨ x = a) m [] H) ds us ∧ PostN K B m a H E Q (f c ds S)
def RS.resI : RS → R Cell
  | .nx e S => match (e[0]? : Option Sl) with
    | some (Sl.own c) => .ok c S
    | _ => .no
  | .er x _ S => .er x S
  | _ => .no
@[simp] theorem resI_er {x : Exn} {e : En} {S : Store} : (RS.er x e S).resI = .er x S := rfl
@[simp] theorem resI_nx {c : Cell} {e : En} {S : Store} : (RS.nx (.own c :: e) S).resI = .ok c S := rfl
@[simp] theorem resI_no : RS.no.resI = .no := rfl
@[simp] theorem ite_resI {c : Prop} [Decidable c] {r s : RS} : (if c then r else s).resI = if c then r.resI else s.resI := by split <;> rfl
@[simp] theorem run_resI {α : Type} {r : R α} {e : En} {k : α → Store → RS} : (r.run e k).resI = r.bind fun a S => (k a S).resI := by cases r <;> rfl
def runI (n k : Nat) (f : Sy) (c : Cell) (ds : List D) (S : Store) : R Cell := if ds.length + 1 = n then (f (.own c :: (ds.map Sl.val ++ List.replicate k .no)) S).resI else .no
theorem zf_a {B : Addr → Prop} {m : List Addr} {n : Nat} {a : Addr} : zf (fun x => B x ∨ x = a) m [] = zf B m (some a :: List.replicate n none) := by
  funext x
  unfold zf
  apply propext
  constructor
  · rintro ((h | h) | h | h)
    · exact .inl h
    · exact .inr (.inr (h ▸ List.mem_cons_self))
    · exact .inr (.inl h)
    · exact (List.not_mem_nil h).elim
  · rintro (h | h | h)
    · exact .inl (.inl h)
    · exact .inr (.inl h)
    · rcases List.mem_cons.mp h with h | h
      · exact .inl (.inr (Option.some.inj h))
      · cases (List.mem_replicate.mp h).2
section
variable {K : PySem.W.Frag} {P : Program} {w : World} {mg : Str → Option Value} {base : Heap}
theorem spIn_len {n k : Nat} {f : Sy} {vs : List V} {H : Hp} {Q : VK} {E : XK} (h : spIn K (runI n k f) vs H Q E) : vs.length = n := by
  obtain ⟨B, m, S, c, ds, a, us, rfl, _, _, _, _, r, q⟩ := h
  unfold runI at q
  split at q
  · rw [List.length_cons, reps_len r]; assumption
  · exact q.elim
theorem bodyI_of {X : Cx} {N : List Str} {body : List Stmt} {f : Sy} {E : XK} {n k : Nat} (hφ : ∀ b, BasePred.Φ b) (hN : N.length = n + k) (h : Ess K X (fun c d _ H => E c d H) body f) {vs : List V} {H : Hp} {Q : VK} (hsp : spIn K (runI n k f) vs H Q E) :
    ∃ t, PSs X body t ∧ t { nx := fun _ H' => Q .non H', rt := Q } (L2.start N vs) H := by
  obtain ⟨ts, p1, h1⟩ := h.run
  refine ⟨ts, p1, ?_⟩
  have hl := spIn_len hsp
  obtain ⟨B, m, S, c, ds, a, us, rfl, hz, cl, cr, ⟨k0, fs0, rfl⟩, r, q⟩ := hsp
  have hus := reps_len r
  unfold runI at q
  split at q
  · rename_i hn
    have ze : ∀ {m' : List Addr} {H' : Hp} {n : Nat}, wo K (fun x => B x ∨ x = a) m' [] H' = wo K B m' (some a :: List.replicate n none) H' := by
      intro m' H' n
      show (⟨K, zf (fun x => B x ∨ x = a) m' [], m', H'⟩ : Wo) = ⟨K, zf B m' (some a :: List.replicate n none), m', H'⟩
      rw [zf_a]
    have mem1 : ∀ {x : Addr} {n : Nat}, some x ∈ (some a :: List.replicate n (none : Option Addr)) → x = a := fun {x n} h => by
      rcases List.mem_cons.mp h with h | h
      · exact Option.some.inj h
      · cases (List.mem_replicate.mp h).2
    have get1 : ∀ {i n : Nat} {x : Addr}, (some a :: List.replicate n (none : Option Addr))[i]? = some (some x) → i = 0 ∧ x = a := fun {i n x} h => by
      cases i with
      | zero => simp at h; exact ⟨rfl, h.symm⟩
      | succ i =>
        rw [List.getElem?_cons_succ] at h
        cases (List.mem_replicate.mp (List.mem_of_getElem? h)).2
    have oa : ¬ Fr H a := by
      obtain ⟨dx, gs, e, _⟩ := cr
      exact fun z => z.no e fun _ z => by cases z
    refine h1 ⟨B, m, off a H, some a⟩ m (some a :: List.replicate (ds.length + k) none) H _ (.own (.ins k0 fs0) :: (ds.map Sl.val ++ List.replicate k .no)) S _ ⟨⟨fun x hx => cl.hB x (.inl hx), cl.nd, fun x hx z => cl.nB x (.inl hx) (.inr (mem1 z)), fun x hx z => ?_, fun i j x h1 h2 => (get1 h1).1.trans (get1 h2).1.symm, fun x hx => ?_, cl.len, fun n x c h1 h2 => by rw [← ze]; exact cl.cs n x c h1 h2, cl.tb, fun x z => cl.nt x (z.elim (fun h => .inl (.inl h)) fun h => h.elim (fun h => .inr (.inl h)) fun h => .inl (.inr (mem1 h)))⟩, ?_, fun i s hs => ?_, ?_, fun x hx => ?_, fun i x hx => ?_, fun x hx => ?_, hφ _⟩ ?_
    · rcases hx with hx | hx
      · exact cl.nB x (.inl hx) (.inl z)
      · rw [mem1 hx] at z
        exact hz (.inl z)
    · rw [mem1 hx]; exact oa
    · unfold L2.start
      simp
      omega
    · rw [← ze]
      cases i with
      | zero =>
        simp at hs
        subst hs
        exact ⟨a, by simp [L2.start], by simp, cr⟩
      | succ i =>
        rw [List.getElem?_cons_succ] at hs
        by_cases l : i < ds.length
        · rw [List.getElem?_append_left (by simpa using l), List.getElem?_map, List.getElem?_eq_getElem l] at hs
          cases hs
          obtain ⟨v, h1, h2⟩ := reps_get r (List.getElem?_eq_getElem l)
          refine ⟨v, ?_, h2⟩
          unfold L2.start
          rw [List.map_cons, List.cons_append, List.getElem?_cons_succ, List.getElem?_append_left (by simp; omega), List.getElem?_map, h1]
          rfl
        · rw [List.getElem?_append_right (by simpa using l)] at hs
          have := List.mem_of_getElem? hs
          rw [(List.mem_replicate.mp this).2]
          exact True.intro
    · refine ⟨⟨[], by simp, by simp⟩, fun x o e _ _ => ?_, fun x e => ?_, off_fz⟩
      · by_cases z : x = a
        · have e : off a H x = some o := e
          rw [z, off_self] at e; cases e
        · have e : off a H x = some o := e
          rwa [off_ne z] at e
      · intro o eo
        by_cases z : x = a
        · have eo : off a H x = some o := eo
          rw [z, off_self] at eo; cases eo
        · have eo : off a H x = some o := eo
          rw [off_ne z] at eo; exact e o eo
    · rw [mem1 hx]; exact .none off_self
    · rw [(get1 hx).1]
      exact ⟨_, rfl⟩
    · cases hx
      exact ⟨by simp [L2.start], by simp, k0, fs0, by simp⟩
    · generalize f (.own (.ins k0 fs0) :: (ds.map Sl.val ++ List.replicate k .no)) S = rs at q ⊢
      have back : ∀ {m' : List Addr} {ow' : List (Option Addr)} {H' : Hp} {S' : Store}, some a ∈ ow' → Cells K B m' ow' H' S' → Cells K (fun x => B x ∨ x = a) m' [] H' S' ∧ Le (wo K B m' ow' H') (wo K (fun x => B x ∨ x = a) m' [] H') := fun {m' ow' H' S'} ha c => by
        have l : Le (wo K B m' ow' H') (wo K (fun x => B x ∨ x = a) m' [] H') := ⟨rfl, fun x o _ _ z => by
          rintro ((h | h) | h | h)
          · exact z (.inl h)
          · exact z (.inr (.inr (h ▸ ha)))
          · exact z (.inr (.inl h))
          · exact (List.not_mem_nil h).elim, fun _ _ e => e, fun _ _ e _ _ => e, fun _ _ _ e => e⟩
        refine ⟨⟨fun x hx => hx.elim (c.hB x) fun h => h ▸ c.oh a ha, c.nd, fun x _ h => (List.not_mem_nil h).elim, fun x hx z => ?_, fun i j x h => by simp at h, fun x h => (List.not_mem_nil h).elim, c.len, fun n x y h1 h2 => (c.cs n x y h1 h2).le l fun o e _ => e, c.tb, fun x z => z.elim (fun h => h.elim (fun h => c.nt x (.inl h)) fun h => c.nt x (.inr (.inr (h ▸ ha)))) fun h => h.elim (fun h => c.nt x (.inr (.inl h))) fun h => (List.not_mem_nil h).elim⟩, l⟩
        rcases hx with hx | hx
        · rcases z with z | z
          · exact c.nB x (.inl hx) z
          · exact c.no x hx (z ▸ ha)
        · exact (List.not_mem_nil hx).elim
      cases rs with
      | nx e' S' =>
        intro σ' m' ow' H' t l
        obtain ⟨g1, g2, k1, fs1, g3⟩ := t.sf a rfl
        unfold RS.resI at q
        simp only [g3] at q
        obtain ⟨c2, l2⟩ := back (List.mem_of_getElem? g2) t.cells
        obtain ⟨a', h1, h2, h3⟩ := t.slots 0 _ g3
        rw [g1] at h1
        cases h1
        exact q m' H' t.fut c2 (h3.le l2 fun o e _ => e)
      | er x e' S' =>
        intro c d σ' m' ow' H' t l rx
        obtain ⟨g1, g2, k1, fs1, g3⟩ := t.sf a rfl
        obtain ⟨c2, l2⟩ := back (List.mem_of_getElem? g2) t.cells
        exact q c d m' H' t.fut c2 (ExR.le l2 rx)
      | rt d S' => exact q.elim
      | bk e' S' => exact q.elim
      | ct e' S' => exact q.elim
      | no => exact q.elim
  · exact q.elim
end
end Sh
namespace Sh
open PySem PySem.Spec PyProof.Rows L2 Nk StX
variable [TabSet] [BasePred]
def Shi (K : PySem.W.Frag) (sp : Sp) (f : Cell → List D → Store → R Cell) : Prop := ∀ B m S c ds a us H Q E, ¬ zf B m [] a → Cells K (fun x => B x ∨ x = a) m [] H S → CRep (wo K (fun x => B x ∨ x = a) m [] H) a c → (∃ k fs, c = .ins k fs) → Reps (wo K (fun x => B x ∨ x = a) m [] H) ds us → PostN K B m a H E Q (f c ds S) → sp (.ref a :: us) H Q E
theorem shi_in {K : PySem.W.Frag} {f : Cell → List D → Store → R Cell} : Shi K (spIn K f) f := fun B m S c ds a us H Q E h1 h2 h3 h4 h5 h6 => ⟨B, m, S, c, ds, a, us, rfl, h1, h2, h3, h4, h5, h6⟩
def starI (n : Nat) (f : Cell → List D → Store → R Cell) (c : Cell) (ds : List D) (S : Store) : R Cell := if n ≤ ds.length ∧ ds.length ≤ sizeLine then f c (ds.take n ++ [.tup (ds.drop n)]) S else .no
section
variable {K : PySem.W.Frag}
theorem Cells.grow {B : Addr → Prop} {m : List Addr} {ow : List (Option Addr)} {H H' : Hp} {S : Store} (c : Cells K B m ow H S) (s : Same H H') : Cells K B m ow H' S := c.same s
theorem fut_off {m m' : List Addr} {a : Addr} {H H1 H' : Hp} (s : Same H H1) (f : Fut m (off a H1) m' H') : Fut m (off a H) m' H' := by
  obtain ⟨⟨r, e, hr⟩, k, d, kf⟩ := f
  have g : ∀ x, Fr (off a H1) x → Fr (off a H) x := fun x h o e => by
    by_cases z : x = a
    · rw [z, off_self] at e; cases e
    · rw [off_ne z] at e
      exact h o (by rw [off_ne z]; exact s _ _ e)
  refine ⟨⟨r, e, fun x hx => g x (hr x hx)⟩, fun x o h n hm => k x o ?_ n hm, fun x h => g x (d x h), fun x o u h => kf x o u ?_⟩
  rotate_left
  · by_cases z : x = a
    · rw [z, off_self] at h; cases h
    · rw [off_ne z] at h ⊢
      exact s _ _ h
  by_cases z : x = a
  · rw [z, off_self] at h; cases h
  · rw [off_ne z] at h ⊢
    exact s _ _ h
theorem PostN.same {B : Addr → Prop} {m : List Addr} {a : Addr} {H H1 : Hp} {E : XK} {Q : VK} {r : R Cell} (h : PostN K B m a H E Q r) (s : Same H H1) : PostN K B m a H1 E Q r := by
  cases r with
  | ok y S => exact fun m' H' f => h m' H' (fut_off s f)
  | er x S => exact fun c d m' H' f => h c d m' H' (fut_off s f)
  | no => exact h
theorem shi_star {sp : Sp} {f : Cell → List D → Store → R Cell} (n : Nat) (h : Shi K sp f) : Shi K (starSp (n + 1) sp) (starI n f) := by
  intro B m S c ds a us H Q E hz cl cr hk r q
  unfold starI at q
  split at q
  · rename_i hn
    have hl := reps_len r
    refine ⟨.ref a :: us.take n, us.drop n, by rw [List.cons_append, List.take_append_drop], by rw [List.length_cons, List.length_take]; omega, by rw [List.length_drop]; omega, fun p hp => ?_⟩
    have s : Same H (upd H p (.tup (us.drop n))) := same_mut (Same.refl _) hp
    exact h B m S c _ a _ _ Q E hz (cl.same s) (cr.le (Fut.same s).le fun o e _ => s _ _ e) hk (reps_app (Reps.le (Fut.same s).le _ (reps_take n r)) (reps_cons (rep_tup cl.full hp (by rw [List.length_drop]; omega) (reps_drop n r)) reps_nil)) (q.same s)
  · exact q.elim
theorem made_post {B : Addr → Prop} {ow : List (Option Addr)} {m : List Addr} {H : Hp} {S : Store} {W : Value → Option Addr → Hp → Prop} {Q : VK} {r : R Cell} {a dx : Addr} {C : Addr} (cl : Cells K B m ow H S) (ha : H a = none) (hd : H dx = none) (hne : dx ≠ a)
    (q : Post K B ow m H Rep W Q (r.bind fun c S => .ok c.tree S)) : PostN K (hidB B ow) m a (upd (upd H dx (.own a)) a (.ins C dx [])) (fun c d => W c d) (fun v H3 => v = .non ∧ Q (.ref a) H3) r := by
  have s : Same H (upd (upd H dx (.own a)) a (.ins C dx [])) := fun b o hb => by
    rw [upd_ne (ne_of_none hb ha), upd_ne (ne_of_none hb hd)]
    exact hb
  have fut : ∀ {m' : List Addr} {H' : Hp}, Fut m (off a (upd (upd H dx (.own a)) a (.ins C dx []))) m' H' → Fut m H m' H' := fun {m' H'} f => by
    have f2 := fut_off s f
    obtain ⟨⟨r, e, hr⟩, k, d, kf⟩ := f2
    have g : ∀ x, Fr (off a H) x → Fr H x := fun x h o e => by
      by_cases z : x = a
      · rw [z, ha] at e; cases e
      · exact h o (by rw [off_ne z]; exact e)
    refine ⟨⟨r, e, fun x hx => g x (hr x hx)⟩, fun x o h n hm => k x o ?_ n hm, fun x h => g x (d x h), fun x o u h => kf x o u (by rw [off_ne (ne_of_none h ha)]; exact h)⟩
    rw [off_ne (ne_of_none h ha)]
    exact h
  have cells : ∀ {m' : List Addr} {H' : Hp} {S' : Store}, Cells K (fun x => hidB B ow x ∨ x = a) m' [] H' S' → Cells K B m' ow H' S' := fun c => cl.ofHid c.unhide
  have le : ∀ {m' : List Addr} {H' : Hp}, Le (wo K (fun x => hidB B ow x ∨ x = a) m' [] H') (wo K B m' ow H') := fun {m' H'} => by
    rw [← wo_hid (B := B) (ow := ow)]
    exact le_hid
  cases r with
  | no => exact q
  | er x S => exact fun c d m' H' f c' rx => q c d m' H' (fut f) (cells c') (ExR.le le rx)
  | ok c S =>
    intro m' H' f c' rc
    refine ⟨rfl, q _ m' H' (fut f) (cells c') (crep_tree (rc.le le fun o e _ => e) ?_)⟩
    rintro (z | z | z)
    · exact cl.hB a z (.none ha)
    · exact c'.nB a (.inl z) (.inr rfl)
    · exact cl.oh a z (.none ha)
end
def eMk (c : String) (f : Cell → List D → Store → R Cell) (g : Sx D) (a : Sx (List D)) (e : En) (S : Store) : R D := (g e S).bind fun x S1 => match x with
  | .cls c' => if c' = c then (a e S1).bind fun ds S2 => (f (.ins c []) ds S2).bind fun c' S3 => .ok c'.tree S3 else .no
  | _ => .no
section
variable {K : PySem.W.Frag} {X : Cx} {W : WX} {ex ex2 : Expr} {es : List Expr} {f g : Sx D} {a : Sx (List D)} {pos p p0 apos : Pos} {i lv j : Nat} {x m : Str} {ps : List Str} {sp : Sp} {F : Cell → List D → Store → R Cell} {cs : List String} {c : String} {fa : Addr}
theorem mk_rd {tf : TE} {ta : TA} (h2 : ∀ b m ow H σ e S Q, At K b m ow H σ e S → Post K b.B ow m H Rep (fun c d => W c d σ) Q (g e S) → tf σ H Q) (h1 : ∀ b m ow H σ e S Q, At K b m ow H σ e S → Post K b.B ow m H Reps (fun c d => W c d σ) Q (a e S) → ta σ H Q) (hs : Shi K sp F) :
    ∀ b m ow H σ e S Q, At K b m ow H σ e S → Post K b.B ow m H Rep (fun c d => W c d σ) Q (eMk c F g a e S) → tMkW (He.ga K c) sp W tf ta σ H Q := by
  refine fun b m ow H σ e S Q t q => h2 b m ow H σ e S _ t (Post.bind q fun d S1 v m1 H1 f1 c1 rx q => ?_)
  cases d <;> try exact q.elim
  rename_i c'
  dsimp only at q
  split at q
  · rename_i hi
    subst hi
    unfold Rep at rx
    subst rx
    refine ⟨rfl, h1 b m1 ow H1 σ e S1 _ (t.go f1 c1) (Post.bind q fun ds S2 vs m2 H2 f2 c2 ry q => fun x dx hx hd hne => ?_)⟩
    have s : Same H2 (upd (upd H2 dx (.own x)) x (.ins (He.ga K c') dx [])) := fun b o hb => by
      rw [upd_ne (ne_of_none hb hx), upd_ne (ne_of_none hb hd)]
      exact hb
    have hz : ¬ zf (hidB b.B ow) m2 [] x := by
      rw [zf_hid]
      exact fun z => c2.full x z (.none hx)
    have ch := c2.toHid.same s
    have le : Le (wo K (hidB b.B ow) m2 [] H2) (wo K (fun y => hidB b.B ow y ∨ y = x) m2 [] (upd (upd H2 dx (.own x)) x (.ins (He.ga K c') dx []))) := ⟨rfl, fun y o e _ z => by
      rintro ((h | h) | h | h)
      · exact z (.inl h)
      · have e : H2 y = some o := e
        rw [h, hx] at e; cases e
      · exact z (.inr (.inl h))
      · exact z (.inr (.inr h)), fun _ _ e => e, fun y o e _ _ => s _ _ e, fun y o u e => s _ _ e⟩
    refine hs (hidB b.B ow) m2 S2 (.ins c' []) ds x vs _ _ _ hz ⟨fun y hy z => ?_, ch.nd, fun y _ h => (List.not_mem_nil h).elim, fun y hy z => ?_, fun i j y h => by simp at h, fun y h => (List.not_mem_nil h).elim, ch.len, fun n y cc h1 h2 => ?_, ch.tb, fun y z xs hx => if e : y = x then (by rw [e, upd_same] at hx; cases hx) else ch.nt y (z.imp (fun h => h.elim id fun h => (e h).elim) id) xs hx⟩ ⟨dx, [], upd_same, by unfold RepF; rfl⟩ ⟨_, _, rfl⟩ (Reps.le le ds (by rw [wo_hid]; exact ry)) (made_post c2 hx hd hne q)
    · rcases hy with hy | hy
      · exact ch.hB y hy z
      · exact (hy ▸ z : Fr _ x).no upd_same fun _ z => by cases z
    · rcases hy with hy | hy
      · rcases z with z | z
        · exact ch.nB y (.inl hy) z
        · rw [z] at hy; exact hz (.inr (.inl hy))
      · exact (List.not_mem_nil hy).elim
    · have := c2.toHid.cs n y cc h1 h2
      exact this.le le fun o e _ => s _ _ e
  · exact q.elim
theorem x_mk (hK : X.K = K) (hf : Ev K X W (.Name x p) g) (M : Mk K (He.ga K c) fa) (hF : Fs X.prog X.w K X.mg X.base fa lv sp) (hs : Shi K sp F) (hr : Room j X.A) (hk : lv + 1 ≤ j) (tk : Takes X W) (ha : Ea K X W (ex :: es) a)
    (he : starEach (ex :: es) X.env = (false, eval ex X.env) :: starEach es X.env := by rfl) (hpl : (backTo pos (starEach es X.env)).any (·.1) = false := by rfl) : Ev K X W (.Call (.Name x p) (ex :: es) [] pos) (eMk c F g a) := by
  subst hK
  obtain ⟨tb, p2, h2⟩ := hf.run
  obtain ⟨ta, p1, h1⟩ := ha.run
  exact ⟨_, pe_clsW p2 M hF hr hk tk p1 he hpl, mk_rd h2 h1 hs⟩
theorem x_mk0 (hK : X.K = K) (hf : Ev K X W (.Name x p) g) (M : Mk K (He.ga K c) fa) (hF : Fs X.prog X.w K X.mg X.base fa lv sp) (hs : Shi K sp F) (hr : Room j X.A) (hk : lv + 1 ≤ j) (tk : Takes X W) : Ev K X W (.Call (.Name x p) [] [] pos) (eMk c F g aNil) := by
  subst hK
  obtain ⟨tb, p2, h2⟩ := hf.run
  exact ⟨_, pe_clsW0 p2 M hF hr hk tk, mk_rd h2 (fun b m ow H σ e S Q t q => q [] m H (Fut.refl _ _) t.cells reps_nil) hs⟩
end
def putD (f : Str) (d : D) : List (Str × D) → List (Str × D)
  | [] => [(f, d)]
  | (g, x) :: r => if f = g then (g, d) :: r else (g, x) :: putD f d r
def sFdO (c : String) (fd : Str) (f : Sx D) (e : En) (S : Store) : RS := (f e S).run e fun d S1 => match (e[0]? : Option Sl) with
  | some (Sl.own (.ins c' fs)) => if c' = c ∧ fs.length < 999 then .nx (e.set 0 (.own (.ins c' (putD fd d fs)))) S1 else .no
  | _ => .no
end Sh
namespace Sh
open PySem PySem.Spec PyProof.Rows L2 Nk StX
variable [TabSet] [BasePred]
theorem repF_put {w : Wo} {f : Str} {d : D} {v : V} (r : Rep w d v) : ∀ {fs : List (Str × D)} {gs : List (Str × V)}, RepF w fs gs → RepF w (putD f d fs) (putF f v gs)
  | [], _, h => by unfold RepF at h; rw [h]; unfold putD putF RepF; exact ⟨v, [], rfl, r, by unfold RepF; rfl⟩
  | (g, x) :: fs, _, h => by
    unfold RepF at h
    obtain ⟨u, k, rfl, a, h⟩ := h
    unfold putD putF
    by_cases e : f = g
    · rw [if_pos e, if_pos e.symm]
      unfold RepF
      exact ⟨v, k, rfl, r, h⟩
    · rw [if_neg e, if_neg (fun z => e z.symm)]
      unfold RepF
      exact ⟨u, _, rfl, a, repF_put r h⟩
section
variable {K : PySem.W.Frag} {X : Cx} {W : WX} {ex ex2 value : Expr} {es : List Expr} {f g : Sx D} {a : Sx (List D)} {pos p p0 apos pos' : Pos} {i lv j : Nat} {x m fd : Str} {ps : List Str} {sp : Sp} {cs : List String} {c : String} {fa : Addr}
theorem s_fdO (hK : X.K = K) (hN : X.N[0]? = some x) (hv : Vis X.env.scope x) (hc : Cls K (He.ga K c)) (hn : NoAttr K (He.ga K c) fd) (hf : Ev K X W value f) (hs : swapsWith value (some (.Attribute (.Name x p) fd pos')) pos.line X.env = pure false := by rfl)
    (hd : (x == ("__debug__" : Str)) = false := by decide) (hcd : (x == ("__classdict__" : Str)) = false := by decide) : Es K X W (.Assign [.Attribute (.Name x p) fd pos'] value pos) (sFdO c fd f) := by
  subst hK
  obtain ⟨te, p1, h1⟩ := hf.run
  refine ⟨_, ps_fld (pe_var hN hv hd hcd) p1 hs, fun b m ow H σ e S D t z => h1 b m ow H σ e S _ t (PostS.run t z fun d S1 v m1 H1 t1 f1 r y => ?_)⟩
  split at y
  · rename_i c' fs q
    split at y
    · rename_i hi
      obtain ⟨rfl, hl⟩ := hi
      obtain ⟨a, h2, h3, dx, gs, hH, rf⟩ := t1.slots 0 _ q
      have hH : H1 a = some (.ins (He.ga X.K c') dx gs) := hH
      have hgl := repF_len rf
      refine ⟨.ref a, h2, a, _, dx, gs, rfl, hH, hc, hn, by omega, ?_⟩
      have keep : ∀ x o, x ≠ a → H1 x = some o → upd H1 a (.ins (He.ga X.K c') dx (putF fd v gs)) x = some o := fun x o n h => by rw [upd_ne n]; exact h
      have dom : ∀ x, Fr (upd H1 a (.ins (He.ga X.K c') dx (putF fd v gs))) x → Fr H1 x := fun x h => h.upd fun _ z => by cases z
      have le : Le (wo X.K b.B m1 ow H1) (wo X.K b.B m1 ow (upd H1 a (.ins (He.ga X.K c') dx (putF fd v gs)))) := ⟨rfl, fun _ _ _ _ h => h, fun _ _ h => h, fun x o h _ z => keep x o (fun q => z (by rw [q]; exact .inr (.inr (List.mem_of_getElem? h3)))) h, upd_fz (nz_of hH fun _ _ z => by cases z)⟩
      obtain ⟨t2, l2⟩ := t1.own_upd (c' := .ins c' (putD fd d fs)) h3 q h2 keep dom ⟨dx, _, upd_same, repF_put (Rep.le le d r) (RepF.le le fs rf)⟩ fun _ _ _ => ⟨_, _, rfl⟩
      exact y _ m1 _ _ t2 l2
    · exact y.elim
  · exact y.elim
theorem cell_put {b : Bs} {m : List Addr} {ow : List (Option Addr)} {H H' : Hp} {σ : L2.St} {e : En} {S : Store} {n : Nat} {a : Addr} {c' : Cell} (t : At K b m ow H σ e S) (hm : m[n]? = some a) (keep : ∀ x o, x ≠ a → H x = some o → H' x = some o) (dom : ∀ x, Fr H' x → Fr H x) (r : CRep (wo K b.B m ow H') a c') (nz : ∀ o u, H a ≠ some (.frz o u) := by (intro _ _ z; simp_all; done)) :
    At K b m ow H' σ e (S.set n c') ∧ Fut m H m H' := by
  obtain ⟨c, f⟩ := t.cells.put hm keep dom r nz
  exact ⟨t.go f c, f⟩
theorem upd_keep {H : Hp} {a : Addr} {o : HO} : ∀ x u, x ≠ a → H x = some u → L2.upd H a o x = some u := fun x u n h => by rw [upd_ne n]; exact h
theorem le_put {B : Addr → Prop} {m : List Addr} {ow : List (Option Addr)} {H : Hp} {a : Addr} {o : HO} (h : zf B m ow a) (nz : ∀ o u, H a ≠ some (.frz o u) := by (intro _ _ z; simp_all; done)) : Le (wo K B m ow H) (wo K B m ow (L2.upd H a o)) := ⟨rfl, fun _ _ _ _ h => h, fun _ _ h => h, fun x u e _ z => upd_keep x u (fun q => z (q ▸ h)) e, upd_fz nz⟩
def sRs (c : String) (fs : List Str) (a : Sx (List D)) (e : En) (S : Store) : RS := (a e S).run e fun ds S1 => if ds.length = fs.length then .er ⟨c, (fs.zip ds).reverse⟩ e S1 else .no
theorem mkO1 {C : Addr} {fld : Str} {v : V} {H : Hp} {Q : XK} (h : ∀ d H', Same H H' → H d = none → H' d = some (.xd [(fld, v)]) → Q (.ref C) (some d) H') : [v].length ≤ 1000 ∧ ∀ a, H a = none → spExc1 C fld (.ref a :: ([v] ++ [])) (L2.upd H a (exo a C none))
    (fun u H2 => u = .non ∧ ∃ (d : Addr) (fs : List (Str × V)), H2 a = some (exo a C (some d)) ∧ H2 d = some (exd d fs) ∧ H d = none ∧ Q (.ref C) (some d) (L2.upd (del H2 a) d (.xd fs))) (fun _ _ _ => False) := by
  refine ⟨by simp, fun a ha => ⟨a, v, rfl, upd_same, fun dx hd hne => ⟨rfl, dx, [(fld, v)], upd_same, by rw [upd_ne hne, upd_same], ?_, ?_⟩⟩⟩
  · rw [upd_ne hne] at hd
    exact hd
  · have hd' : H dx = none := by rw [upd_ne hne] at hd; exact hd
    refine h dx _ (fun b o hb => ?_) hd' upd_same
    have h1 : b ≠ dx := ne_of_none hb hd'
    have h2 : b ≠ a := ne_of_none hb ha
    rw [upd_ne h1, del_ne h2, upd_ne h2, upd_ne h1, upd_ne h2]
    exact hb
theorem exr_new {B : Addr → Prop} {m : List Addr} {ow : List (Option Addr)} {H H' : Hp} {S : Store} {c : String} {fs : List (Str × D)} {gs : List (Str × V)} {d : Addr} (cl : Cells K B m ow H S) (s : Same H H') (hd : H d = none) (h : H' d = some (.xd gs)) (r : RepF (wo K B m ow H) fs gs) : ExR (wo K B m ow H') ⟨c, fs⟩ (.ref (He.ga K c)) (some d) :=
  ⟨rfl, d, gs, rfl, fun z => cl.full d z (.none hd), h, RepF.le (Fut.same s).le fs r⟩
theorem s_rs1 {g1 : Str} {fI : Addr} (hK : X.K = K) (hc : X.calm = true) (tk : Takes X W) (T : OexC K (He.ga K c)) (iC : PySem.W.findIn K (.ref (He.ga K c)) "__init__" = some (some (.ref fI))) (tI : PySem.W.typeIn K (.ref fI) = some (.type "function")) (hF : Fo X.prog X.w K X.mg X.base fI lv ps (spExc1 (He.ga K c) g1)) (hr : Room j X.A) (hk : lv + 1 ≤ j) (hg : Gl X x) (hm : X.mg x = some (.ref (He.ga K c))) (ha : Ea K X W (ex :: es) a)
    (hdb : (x == ("__debug__" : Str)) = false := by decide) (he : starEach (ex :: es) X.env = (false, eval ex X.env) :: starEach es X.env := by rfl) (hpl : (backTo pos (starEach es X.env)).any (·.1) = false := by rfl) : Es K X W (.Raise (some (.Call (.Name x p) (ex :: es) [] pos)) none pos') (sRs c [g1] a) := by
  subst hK
  obtain ⟨ta, p1, h1⟩ := ha.run
  refine ⟨_, ps_raise hc tk (pmk_ex T iC tI hF hr hk hg hm p1 hdb he hpl), fun b m ow H σ e S D t z => h1 b m ow H σ e S _ t (PostS.run t z fun ds S1 vs m1 H1 t1 f1 r z => ?_)⟩
  split at z
  · rename_i hl
    match ds, hl with
    | [d], _ =>
      unfold Reps at r
      obtain ⟨v, us, rfl, rv, r⟩ := r
      unfold Reps at r
      subst r
      refine mkO1 (Q := fun c d H' => W c d σ H') fun dd H' s hd e => z _ _ _ _ _ _ (t1.same s) (Fut.same s).le (exr_new t1.cells s hd e ?_)
      show RepF _ [(g1, d)] _
      unfold RepF RepF
      exact ⟨v, [], rfl, rv, rfl⟩
  · exact z.elim
end
end Sh
namespace Sh
open PySem PySem.Spec PyProof.Rows L2 Nk StX
variable [TabSet] [BasePred]
section
variable {K : PySem.W.Frag} {X : Cx}
def dLen : List D → Option D
  | [.str x] => some (.int x.length)
  | [.lst xs] => some (.int xs.length)
  | [.tup xs] => some (.int xs.length)
  | _ => none
theorem reps1 {w : Wo} {ds : List D} {vs : List V} {d : D} (r : Reps w ds vs) (e : ds = [d]) : ∃ v, vs = [v] ∧ Rep w d v := by
  subst e
  unfold Reps at r
  obtain ⟨v, us, rfl, a, r⟩ := r
  unfold Reps at r
  subst r
  exact ⟨v, rfl, a⟩
theorem rep_tree {w : Wo} {ds : List D} {v : V} (h : Rep w (.tup ds) v) : ∃ a vs, v = .ref a ∧ TrT w a vs ∧ Reps w ds vs := by unfold Rep at h; exact h
theorem rep_list {w : Wo} {ds : List D} {v : V} (h : Rep w (.lst ds) v) : ∃ a vs, v = .ref a ∧ TrL w a vs ∧ Reps w ds vs := by unfold Rep at h; exact h
theorem rep_strD {w : Wo} {x : Str} {v : V} (h : Rep w (.str x) v) : v = .str x ∧ x.length ≤ sizeLine := by unfold Rep at h; exact h
theorem rep_intD {w : Wo} {x : Int} {v : V} (h : Rep w (.int x) v) : v = .int x := by unfold Rep at h; exact h
theorem rep_blD {w : Wo} {x : Bool} {v : V} (h : Rep w (.bl x) v) : v = .bl x := by unfold Rep at h; exact h
theorem calls_len (hK : X.K = K) : CallS K X (.builtin "len") dLen := by
  subst hK
  refine ⟨_, call_len, fun w hw hf xs ds Q r q => ?_⟩
  unfold dLen at q
  split at q
  · obtain ⟨v, rfl, r1⟩ := reps1 r rfl
    obtain ⟨rfl, hl⟩ := rep_strD r1
    exact ⟨_, _, rfl, ⟨hl, rfl⟩, q.here rep_int⟩
  · obtain ⟨v, rfl, r1⟩ := reps1 r rfl
    obtain ⟨a, vs, rfl, t, r2⟩ := rep_list r1
    rw [← reps_len r2] at q
    exact ⟨_, _, rfl, .inl ⟨vs, hw ▸ t.sq, rfl⟩, q.here rep_int⟩
  · obtain ⟨v, rfl, r1⟩ := reps1 r rfl
    obtain ⟨a, vs, rfl, t, r2⟩ := rep_tree r1
    rw [← reps_len r2] at q
    exact ⟨_, _, rfl, .inr ⟨vs, hw ▸ t.sq, rfl⟩, q.here rep_int⟩
  · exact (q : False).elim
def dInt : List D → Option D
  | [.int i] => some (.int i)
  | [.bl b] => some (.int (if b then 1 else 0))
  | _ => none
theorem calls_int : CallS K X (.type "int") dInt := by
  refine ⟨_, call_int1, fun w hw hf xs ds Q r q => ?_⟩
  unfold dInt at q
  split at q
  · obtain ⟨v, rfl, r1⟩ := reps1 r rfl
    cases rep_intD r1
    exact .inl ⟨_, rfl, q.here rep_int⟩
  · obtain ⟨v, rfl, r1⟩ := reps1 r rfl
    cases rep_blD r1
    exact .inr ⟨_, rfl, q.here rep_int⟩
  · exact (q : False).elim
def dAbs : List D → Option D
  | [.int i] => some (.int (if i < 0 then -i else i))
  | _ => none
theorem calls_abs : CallS K X (.builtin "abs") dAbs := by
  refine ⟨_, call_abs, fun w hw hf xs ds Q r q => ?_⟩
  unfold dAbs at q
  split at q
  · obtain ⟨v, rfl, r1⟩ := reps1 r rfl
    cases rep_intD r1
    exact ⟨_, rfl, q.here rep_int⟩
  · exact (q : False).elim
def dList : List D → Option D
  | [.lst xs] => some (.lst xs)
  | [.tup xs] => some (.lst xs)
  | _ => none
theorem calls_list (hK : X.K = K) : CallS K X (.type "list") dList := by
  subst hK
  refine ⟨_, call_list_of, fun w hw hf xs ds Q r q => ?_⟩
  unfold dList at q
  split at q
  · obtain ⟨v, rfl, r1⟩ := reps1 r rfl
    obtain ⟨a, vs, rfl, t, r2⟩ := rep_list r1
    exact ⟨a, vs, rfl, .inl (hw ▸ t.sq), fun l hl => q _ _ (same_mut (Same.refl _) hl) (rep_lst hf hl t.2.2 r2)⟩
  · obtain ⟨v, rfl, r1⟩ := reps1 r rfl
    obtain ⟨a, vs, rfl, t, r2⟩ := rep_tree r1
    exact ⟨a, vs, rfl, .inr (hw ▸ t.sq), fun l hl => q _ _ (same_mut (Same.refl _) hl) (rep_lst hf hl t.2 r2)⟩
  · exact (q : False).elim
def dTuple : List D → Option D
  | [.lst xs] => some (.tup xs)
  | [.tup xs] => some (.tup xs)
  | _ => none
theorem calls_tuple (hK : X.K = K) : CallS K X (.type "tuple") dTuple := by
  subst hK
  refine ⟨_, call_tuple_of, fun w hw hf xs ds Q r q => ?_⟩
  unfold dTuple at q
  split at q
  · obtain ⟨v, rfl, r1⟩ := reps1 r rfl
    obtain ⟨a, vs, rfl, t, r2⟩ := rep_list r1
    exact ⟨a, vs, rfl, .inl ⟨hw ▸ t.sq, fun l hl => q _ _ (same_mut (Same.refl _) hl) (rep_tup hf hl t.2.2 r2)⟩⟩
  · obtain ⟨v, rfl, r1⟩ := reps1 r rfl
    have r0 := r1
    obtain ⟨a, vs, rfl, t, r2⟩ := rep_tree r1
    exact ⟨a, vs, rfl, .inr ⟨hw ▸ t.sq, q.here r0⟩⟩
  · exact (q : False).elim
def D.bs : List D → Option (List Bool)
  | [] => some []
  | d :: ds => match d.b, D.bs ds with
    | some b, some bs => some (b :: bs)
    | _, _ => none
theorem reps_bs {w : Wo} : ∀ {ds : List D} {vs : List V} {bs : List Bool}, Reps w ds vs → D.bs ds = some bs → vs = bs.map V.bl
  | [], vs, bs, r, e => by unfold Reps at r; unfold D.bs at e; cases e; rw [r]; rfl
  | d :: ds, vs, bs, r, e => by
    unfold Reps at r
    obtain ⟨v, us, rfl, a, r⟩ := r
    unfold D.bs at e
    cases h1 : d.b with
    | none => rw [h1] at e; cases e
    | some b =>
      cases h2 : D.bs ds with
      | none => rw [h1, h2] at e; cases e
      | some bs' =>
        rw [h1, h2] at e
        cases e
        rw [rep_b a h1, reps_bs r h2]
        rfl
def dAll : List D → Option D
  | [.lst xs] => (D.bs xs).map fun bs => .bl (bs.all id)
  | _ => none
theorem calls_all (hK : X.K = K) (hc : X.calm = true) : CallS K X (.builtin "all") dAll := by
  subst hK
  refine ⟨_, cr_all hc, fun w hw hf xs ds Q r q => ?_⟩
  unfold dAll at q
  split at q
  · obtain ⟨v, rfl, r1⟩ := reps1 r rfl
    obtain ⟨a, vs, rfl, t, r2⟩ := rep_list r1
    rename_i ys
    cases e : D.bs ys with
    | none => rw [e] at q; exact (q : False).elim
    | some bs =>
      rw [e] at q
      have := reps_bs r2 e
      subst this
      exact ⟨a, bs, rfl, hw ▸ t.sq, Pz.here q rep_bl⟩
  · exact (q : False).elim
def dStrI : List D → Option D
  | [.int i] => if i.natAbs.log2 < 1920 then some (.str (toString i)) else none
  | _ => none
def isiF (bi : List String) (own : List (String × Bool)) : D → Option Bool
  | .non => some (bi.contains "NoneType")
  | .bl _ => some (bi.contains "bool")
  | .int _ => some (bi.contains "int")
  | .str _ => some (bi.contains "str")
  | .lst _ => some (bi.contains "list")
  | .scr _ => some (bi.contains "list")
  | .tup _ => some (bi.contains "tuple")
  | .dk _ => some (bi.contains "dict")
  | .dt _ => some (bi.contains "dict")
  | .fk _ => some (bi.contains "dict")
  | .obj c _ => own.lookup c
  | _ => none
def BT : List String := ["NoneType", "bool", "int", "str", "list", "tuple", "dict"]
structure IsiOk (K : PySem.W.Frag) (T : Value) (bi : List String) (own : List (String × Bool)) : Prop where
  b : ∀ t ∈ BT, PySem.W.kitOne K (.type t) T = some (bi.contains t)
  o : ∀ p ∈ own, Cls K (He.ga K p.1) ∧ InsC K (He.ga K p.1) ∧ PySem.W.kitOne K (.ref (He.ga K p.1)) T = some p.2
theorem io_b {n : String} {bi : List String} (h : (BT.all fun t => decide (kitB t n = some (bi.contains t))) = true) : ∀ t ∈ BT, PySem.W.kitOne K (.type t) (.type n) = some (bi.contains t) := fun t ht => kit_ty (of_decide_eq_true (List.all_eq_true.mp h t ht))
theorem io_own {C : Addr} (h : ∀ t ∈ BT, PySem.W.kitOne K (.type t) (.ref C) = some false) : ∀ t ∈ BT, PySem.W.kitOne K (.type t) (.ref C) = some (([] : List String).contains t) := fun t ht => by rw [h t ht]; rfl
theorem oo_nil {T : Value} : ∀ p ∈ ([] : List (String × Bool)), Cls K (He.ga K p.1) ∧ InsC K (He.ga K p.1) ∧ PySem.W.kitOne K (.ref (He.ga K p.1)) T = some p.2 := fun _ h => nomatch h
theorem oo_cons {T : Value} {c : String} {b : Bool} {r : List (String × Bool)} (h1 : Cls K (He.ga K c)) (h2 : InsC K (He.ga K c)) (h3 : PySem.W.kitOne K (.ref (He.ga K c)) T = some b) (h : ∀ p ∈ r, Cls K (He.ga K p.1) ∧ InsC K (He.ga K p.1) ∧ PySem.W.kitOne K (.ref (He.ga K p.1)) T = some p.2) :
    ∀ p ∈ (c, b) :: r, Cls K (He.ga K p.1) ∧ InsC K (He.ga K p.1) ∧ PySem.W.kitOne K (.ref (He.ga K p.1)) T = some p.2 := fun p hp => by
  rcases List.mem_cons.mp hp with rfl | hp
  · exact ⟨h1, h2, h3⟩
  · exact h p hp
theorem lookup_mem {own : List (String × Bool)} {c : String} {b : Bool} (h : own.lookup c = some b) : (c, b) ∈ own := by
  induction own with
  | nil => cases h
  | cons p r ih =>
    rw [List.lookup_cons] at h
    cases e : c == p.1 with
    | true =>
      rw [e] at h
      cases h
      rw [beq_iff_eq.mp e]
      exact List.mem_cons_self
    | false => rw [e] at h; exact List.mem_cons_of_mem _ (ih h)
theorem isi_at {w : Wo} {T : Value} {bi : List String} {own : List (String × Bool)} (ok : IsiOk K T bi own) (hw : w.K = K) {d : D} {v : V} {b : Bool} (r : Rep w d v) (h : isiF bi own d = some b) : ∃ t, TyX K w.H v t ∧ PySem.W.kitOne K t T = some b := by
  subst hw
  cases d <;> unfold isiF at h <;> try cases h
  case non => unfold Rep at r; subst r; exact ⟨_, .base .non, ok.b _ (by decide)⟩
  case bl => cases rep_blD r; exact ⟨_, .base (.bl _), ok.b _ (by decide)⟩
  case int => cases rep_intD r; exact ⟨_, .base (.int _), ok.b _ (by decide)⟩
  case str => obtain ⟨rfl, _⟩ := rep_strD r; exact ⟨_, .base (.str _), ok.b _ (by decide)⟩
  case tup =>
    obtain ⟨a, vs, rfl, t, _⟩ := rep_tree r
    obtain ⟨t, _⟩ := t
    obtain ⟨_, t⟩ := t
    exact ⟨_, .base (.tup t), ok.b _ (by decide)⟩
  case lst => obtain ⟨a, vs, rfl, t, _⟩ := rep_list r; exact ⟨_, .base (.lst t.2.1), ok.b _ (by decide)⟩
  case scr =>
    unfold Rep at r
    obtain ⟨a, vs, rfl, ⟨t, _⟩, _⟩ := r
    rcases t with ⟨_, t | ⟨o, t⟩⟩ | ⟨o, its, n, t, c, _⟩
    · exact ⟨_, .base (.lst t), ok.b _ (by decide)⟩
    · exact ⟨_, .base (.frz t), ok.b _ (by decide)⟩
    · exact ⟨_, .kList t c, ok.b _ (by decide)⟩
  case dk => unfold Rep at r; obtain ⟨a, vs, rfl, _, t, _⟩ := r; exact ⟨_, .base (.dK t), ok.b _ (by decide)⟩
  case dt => unfold Rep at r; obtain ⟨a, vs, rfl, _, t, _⟩ := r; exact ⟨_, .base (.dT t), ok.b _ (by decide)⟩
  case fk => unfold Rep at r; obtain ⟨a, o, vs, rfl, _, t, _⟩ := r; exact ⟨_, .fDict t, ok.b _ (by decide)⟩
  case obj c fs =>
    unfold Rep at r
    obtain ⟨a, dx, gs, rfl, _, t, _⟩ := r
    obtain ⟨h1, h2, h3⟩ := ok.o _ (lookup_mem h)
    exact ⟨_, .base (.ins t h1 h2.ha h2.hn h2.ht h2.hm), h3⟩
end
def eIsi (bi : List String) (own : List (String × Bool)) (f : Sx D) (e : En) (S : Store) : R D := (f e S).bind fun x S1 => R.of S1 ((isiF bi own x).map .bl)
section
variable {K : PySem.W.Frag} {X : Cx} {W : WX} {ex ex2 value : Expr} {es : List Expr} {f g : Sx D} {a : Sx (List D)} {pos p p0 apos pos' : Pos} {i lv j : Nat} {x m fd : Str} {ps : List Str} {sp : Sp} {cs : List String} {c : String} {fa : Addr}
theorem x_isi {T : Value} {vT : V} {bi : List String} {own : List (String × Bool)} (hK : X.K = K) (hg : Gl X "isinstance") (hm : X.mg "isinstance" = none) (hf : Ev K X W ex f) (hT : PE X ex2 (tC vT)) (ok : IsiOk K T bi own) (hv : ClsV vT T)
    (he : starEach [ex, ex2] X.env = (false, eval ex X.env) :: starEach [ex2] X.env := by rfl) (he2 : starEach [ex2] X.env = (false, eval ex2 X.env) :: starEach [] X.env := by rfl) (hpl : (backTo pos (starEach [ex2] X.env)).any (·.1) = false := by rfl) : Ev K X W (.Call (.Name "isinstance" p) [ex, ex2] [] pos) (eIsi bi own f) := by
  subst hK
  obtain ⟨te, p1, h1⟩ := hf.run
  refine ⟨_, pe_callB call_isi hg hm (by decide +kernel) (pa_cons p1 (pa_cons hT pa_nil he2) he) (by decide) (by decide) he hpl, fun b m ow H σ e S Q t q => h1 b m ow H σ e S _ t (Post.bind q fun d S1 v m1 H1 f1 c1 rx q => ?_)⟩
  cases e : isiF bi own d with
  | none => rw [e] at q; exact q.elim
  | some r =>
    rw [e] at q
    obtain ⟨t, h2, h3⟩ := isi_at ok (w := wo X.K b.B m1 ow H1) rfl rx e
    exact ⟨v, vT, t, T, r, rfl, hv, h2, h3, q.val c1 rep_bl⟩
def fmtD : D → Option D
  | .str y => some (.str y)
  | .int i => if i.natAbs.log2 < 1920 then some (.str (toString i)) else none
  | _ => none
def eFmt (f : Sx D) (e : En) (S : Store) : R D := (f e S).bind fun x S1 => R.of S1 (fmtD x)
theorem x_fmt (hf : Ev K X W ex f) : Ev K X W (.FormattedValue ex (-1) none pos) (eFmt f) := by
  obtain ⟨te, p1, h1⟩ := hf.run
  refine ⟨_, pe_fmt p1, fun b m ow H σ e S Q t q => h1 b m ow H σ e S _ t (Post.bind q fun d S1 v m1 H1 f1 c1 rx q => ?_)⟩
  cases d <;> try exact q.elim
  · rename_i i
    cases rep_intD rx
    have q : Post K b.B ow m1 H1 Rep (fun c d => W c d σ) Q (R.of S1 (if i.natAbs.log2 < 1920 then some (.str (toString i)) else none)) := q
    split at q
    · rename_i h
      exact .inr ⟨i, rfl, h, q.val c1 (rep_str (int_text_fits h))⟩
    · exact q.elim
  · obtain ⟨rfl, hl⟩ := rep_strD rx
    exact .inl ⟨_, rfl, hl, q.val c1 (rep_str hl)⟩
def eJs : List (Sx D) → Str → Sx D
  | [], acc, _, S => .ok (.str acc) S
  | f :: fs, acc, e, S => (f e S).bind fun x S1 => match x with
    | .str y => if (acc ++ y).length ≤ sizeLine then eJs fs (acc ++ y) e S1 else .no
    | _ => .no
inductive Ejs (K : PySem.W.Frag) (X : Cx) (W : WX) : List Expr → List (Sx D) → Prop
  | nil : Ejs K X W [] []
  | cons {ex : Expr} {f : Sx D} {es : List Expr} {fs : List (Sx D)} (h : Ev K X W ex f) (r : Ejs K X W es fs) : Ejs K X W (ex :: es) (f :: fs)
theorem js_rd {es : List Expr} {fs : List (Sx D)} (h : Ejs K X W es fs) : ∃ ts, PJ X es ts ∧ ∀ b m ow H σ e S acc (Q : Str → Hp → Prop), At K b m ow H σ e S → acc.length ≤ sizeLine → Post K b.B ow m H Rep (fun c d => W c d σ) (fun v H => ∃ z, v = .str z ∧ Q z H) (eJs fs acc e S) → tJs ts acc σ H Q := by
  induction h with
  | nil => exact ⟨[], .nil, fun b m ow H σ e S acc Q t hl q => by
      obtain ⟨z, e1, q⟩ := q.val t.cells (rep_str hl)
      cases e1
      exact q⟩
  | cons h r ih =>
    obtain ⟨te, p1, h1⟩ := h.run
    obtain ⟨ts, p2, h2⟩ := ih
    refine ⟨te :: ts, .cons p1 p2, fun b m ow H σ e S acc Q t hl q => ?_⟩
    unfold tJs
    refine h1 b m ow H σ e S _ t (Post.bind q fun d S1 v m1 H1 f1 c1 rx q => ?_)
    cases d <;> try exact q.elim
    rename_i y
    obtain ⟨rfl, hy⟩ := rep_strD rx
    dsimp only at q
    split at q
    · rename_i hc
      exact ⟨y, rfl, hc, h2 b m1 ow H1 σ e S1 _ Q (t.go f1 c1) hc q⟩
    · exact q.elim
theorem js_imp {B : Addr → Prop} {ow : List (Option Addr)} {m : List Addr} {H : Hp} {Wp : Value → Option Addr → Hp → Prop} {Q : VK} {e : En} : ∀ {fs : List (Sx D)} {acc : Str} {S : Store}, Post K B ow m H Rep Wp Q (eJs fs acc e S) → Post K B ow m H Rep Wp (fun v H => ∃ z, v = .str z ∧ Q (.str z) H) (eJs fs acc e S)
  | [], acc, S, q => fun v m' H' f c r => by
    obtain ⟨rfl, hl⟩ := rep_strD r
    exact ⟨_, rfl, q _ m' H' f c r⟩
  | f :: fs, acc, S, q => by
    unfold eJs at q ⊢
    cases r : f e S with
    | no => rw [r] at q; exact q
    | er x S1 => rw [r] at q; exact q
    | ok d S1 =>
      rw [r, ok_bind] at q
      rw [ok_bind]
      cases d <;> try exact q.elim
      dsimp only at q ⊢
      split
      · rename_i h
        rw [if_pos h] at q
        exact js_imp q
      · rename_i h
        rw [if_neg h] at q
        exact q
theorem x_js {v1 v2 : Expr} {rest : List Expr} {fs : List (Sx D)} (h : Ejs K X W (v1 :: v2 :: rest) fs) : Ev K X W (.JoinedStr (v1 :: v2 :: rest) pos) (eJs fs Str.empty) := by
  obtain ⟨ts, p1, h1⟩ := js_rd h
  exact ⟨_, pe_joined p1, fun b m ow H σ e S Q t q => h1 b m ow H σ e S _ _ t (Nat.zero_le _) (js_imp q)⟩
end
end Sh
namespace Sh
open PySem PySem.Spec PyProof.Rows L2 Nk StX
variable [TabSet] [BasePred]
section
variable {K : PySem.W.Frag} {X : Cx} {W : WX} {ex ex2 value : Expr} {es : List Expr} {f g h : Sx D} {a : Sx (List D)} {pos p p0 apos pos' : Pos} {i lv j : Nat} {x m fd : Str} {ps : List Str} {sp : Sp} {cs : List String} {c : String} {fa : Addr}
theorem atI_map {α β : Type} {xs : List α} {ys : List β} {k : Int} {x : α} (hl : ys.length = xs.length) (h : atI xs k = some x) : ∃ j : Nat, xs[j]? = some x ∧ ∀ y, ys[j]? = some y → atI ys k = some y := by
  unfold atI at h ⊢
  rw [hl]
  cases e : ixN xs.length k with
  | none => rw [e] at h; cases h
  | some j => rw [e] at h; exact ⟨j, h, fun y hy => hy⟩
theorem reps_at {w : Wo} {ds : List D} {vs : List V} {k : Int} {d : D} (r : Reps w ds vs) (h : atI ds k = some d) : ∃ v, atI vs k = some v ∧ Rep w d v := by
  obtain ⟨j, h1, h2⟩ := atI_map (reps_len r) h
  obtain ⟨v, h3, h4⟩ := reps_get r h1
  exact ⟨v, h2 v h3, h4⟩
theorem x_ix (hK : X.K = K) (hf : Ev K X W ex f) (hg : Ev K X W ex2 g) (hs : PlainIx ex2) : Ev K X W (.Subscript ex ex2 pos) (eIx f g) := by
  subst hK
  obtain ⟨ta, p1, h1⟩ := hf.run
  obtain ⟨tb, p2, h2⟩ := hg.run
  refine ⟨_, pe_ix ix_seq p1 p2 hs, fun b m ow H σ e S Q t q => h1 b m ow H σ e S _ t (Post.bind q fun x S1 v m1 H1 f1 c1 rx q => h2 b m1 ow H1 σ e S1 _ (t.go f1 c1) (Post.bind q fun y S2 u m2 H2 f2 c2 ry q => ?_))⟩
  have rx := Rep.le f2.le x rx
  cases x with
  | ref n =>
    unfold Rep at rx
    obtain ⟨a, rfl, hm⟩ := rx
    dsimp only at q
    cases hS : S2[n]? with
    | none => rw [hS] at q; exact q.elim
    | some cc =>
      cases cc with
      | lst xs =>
        cases y with
        | int i =>
          rw [hS] at q
          dsimp only at q
          cases rep_intD ry
          obtain ⟨vs, hH, hl, r⟩ := c2.cs n a _ hm hS
          cases e : atI xs i with
          | none => rw [e] at q; exact q.elim
          | some d =>
            rw [e] at q
            obtain ⟨u, h3, h4⟩ := reps_at r e
            exact .inl ⟨a, vs, i, u, rfl, rfl, .inl (.inl hH), h3, q.val c2 h4⟩
        | _ => rw [hS] at q; exact q.elim
      | _ => rw [hS] at q; exact q.elim
  | lst xs =>
    cases y with
    | int k =>
      cases rep_intD ry
      obtain ⟨a, vs, rfl, t, r⟩ := rep_list rx
      cases e : atI xs k with
      | none =>
        have q : Post X.K b.B ow m2 H2 Rep (fun c d => W c d σ) Q (R.of S2 (match atI xs k with | some d => some d | none => none)) := q
        rw [e] at q; exact q.elim
      | some d =>
        have q : Post X.K b.B ow m2 H2 Rep (fun c d => W c d σ) Q (R.of S2 (match atI xs k with | some d => some d | none => none)) := q
        rw [e] at q
        obtain ⟨u, h3, h4⟩ := reps_at r e
        exact .inl ⟨a, vs, k, u, rfl, rfl, t.sq, h3, q.val c2 h4⟩
    | _ => exact q.elim
  | tup xs =>
    cases y with
    | int k =>
      cases rep_intD ry
      obtain ⟨a, vs, rfl, t, r⟩ := rep_tree rx
      cases e : atI xs k with
      | none =>
        have q : Post X.K b.B ow m2 H2 Rep (fun c d => W c d σ) Q (R.of S2 (match atI xs k with | some d => some d | none => none)) := q
        rw [e] at q; exact q.elim
      | some d =>
        have q : Post X.K b.B ow m2 H2 Rep (fun c d => W c d σ) Q (R.of S2 (match atI xs k with | some d => some d | none => none)) := q
        rw [e] at q
        obtain ⟨u, h3, h4⟩ := reps_at r e
        exact .inr (.inl ⟨a, vs, k, u, rfl, rfl, t.sq, h3, q.val c2 h4⟩)
    | _ => exact q.elim
  | str z =>
    cases y with
    | int k =>
      cases rep_intD ry
      obtain ⟨rfl, hl⟩ := rep_strD rx
      cases e : atI z.cps.toList k with
      | none =>
        have q : Post X.K b.B ow m2 H2 Rep (fun c d => W c d σ) Q (R.of S2 ((atI z.cps.toList k).map fun c => .str ⟨#[c]⟩)) := q
        rw [e] at q; exact q.elim
      | some c =>
        have q : Post X.K b.B ow m2 H2 Rep (fun c d => W c d σ) Q (R.of S2 ((atI z.cps.toList k).map fun c => .str ⟨#[c]⟩)) := q
        rw [e] at q; exact .inr (.inr ⟨z, k, c, rfl, rfl, hl, e, q.val c2 (rep_str (show (1 : Nat) ≤ sizeLine by decide))⟩)
    | _ => exact q.elim
  | _ => exact q.elim
def cutD {α : Type} (xs : List α) (lo hi : Option Int) : List α := (xs.drop (HT.sIx xs.length 0 lo)).take (HT.sIx xs.length xs.length hi - HT.sIx xs.length 0 lo)
def D.sl (lo hi : Option Int) : D → Option D
  | .lst xs => some (.lst (cutD xs lo hi))
  | .tup xs => some (.tup (cutD xs lo hi))
  | .str z => some (.str (cutS z lo hi))
  | .scr xs => some (.lst (cutD xs lo hi))
  | _ => none
def pNo (_ : En) (S : Store) : R (Option Int) := .ok none S
def pSo (f : Sx D) (e : En) (S : Store) : R (Option Int) := (f e S).bind fun x S1 => match x with
  | .int i => .ok (some i) S1
  | _ => .no
def eSl (f : Sx D) (lo hi : Sx (Option Int)) (e : En) (S : Store) : R D := (f e S).bind fun x S1 => (lo e S1).bind fun l S2 => (hi e S2).bind fun u S3 => match x with
  | .ref n => match S3[n]? with
    | some (.lst xs) => .ok (.lst (cutD xs l u)) S3
    | _ => .no
  | _ => R.of S3 (x.sl l u)
def RO : Wo → Option Int → Option Int → Prop := fun _ x y => y = x
structure Ep (K : PySem.W.Frag) (X : Cx) (W : WX) (e : Option Expr) (f : Sx (Option Int)) : Prop where
  run : ∃ t, PO X e t ∧ ∀ b m ow H σ e S Q, At K b m ow H σ e S → Post K b.B ow m H RO (fun c d => W c d σ) Q (f e S) → t σ H Q
theorem p_no : Ep K X W none pNo := ⟨_, po_none, fun b m ow H σ e S Q t q => q none m H (Fut.refl _ _) t.cells rfl⟩
theorem p_so (hf : Ev K X W ex f) : Ep K X W (some ex) (pSo f) := by
  obtain ⟨te, p1, h1⟩ := hf.run
  refine ⟨_, po_some p1, fun b m ow H σ e S Q t q => h1 b m ow H σ e S _ t (Post.bind q fun x S1 v m1 H1 f1 c1 rx q => ?_)⟩
  cases x <;> try exact q.elim
  cases rep_intD rx
  exact ⟨_, rfl, q _ m1 H1 (Fut.refl _ _) c1 rfl⟩
theorem reps_cut {w : Wo} {ds : List D} {vs : List V} (r : Reps w ds vs) (lo hi : Option Int) : Reps w (cutD ds lo hi) (cutV vs lo hi) := by
  unfold cutD cutV
  rw [reps_len r]
  exact reps_take _ (reps_drop _ r)
theorem slr_or3 {r r' r2 : V → Option Int → Option Int → Hp → VK → Prop} (h : L2.SlR X r) (h' : L2.SlR X r') (h2 : L2.SlR X r2) : L2.SlR X (fun x lo hi H Q => r x lo hi H Q ∨ r' x lo hi H Q ∨ r2 x lo hi H Q) := L2.SlR.or h (L2.SlR.or h' h2)
theorem x_sl {lo hi : Option Expr} {p2 : Pos} {l u : Sx (Option Int)} (hK : X.K = K) (hf : Ev K X W ex f) (hl : Ep K X W lo l) (hu : Ep K X W hi u) : Ev K X W (.Subscript ex (.Slice lo hi none p2) pos) (eSl f l u) := by
  subst hK
  obtain ⟨ta, p1, h1⟩ := hf.run
  obtain ⟨tl, pl, h2⟩ := hl.run
  obtain ⟨tu, pu, h3⟩ := hu.run
  refine ⟨_, pe_slice (slr_or3 sl_list sl_tupA sl_str) p1 pl pu, fun b m ow H σ e S Q t q => h1 b m ow H σ e S _ t (Post.bind q fun x S1 v m1 H1 f1 c1 rx q => h2 b m1 ow H1 σ e S1 _ (t.go f1 c1) (Post.bind q fun y S2 y' m2 H2 f2 c2 ry q => h3 b m2 ow H2 σ e S2 _ ((t.go f1 c1).go f2 c2) (Post.bind q fun z S3 z' m3 H3 f3 c3 rz q => ?_)))⟩
  obtain rfl : y' = y := ry
  obtain rfl : z' = z := rz
  have rx := Rep.le (f2.trans f3).le x rx
  cases x with
  | str s =>
    obtain ⟨rfl, hz⟩ := rep_strD rx
    exact .inr (.inr ⟨_, rfl, hz, q.val c3 (rep_str (Nat.le_trans (cutS_length _ _ _) hz))⟩)
  | tup ds =>
    have rx0 := rx
    obtain ⟨a, vs, rfl, t, r⟩ := rep_tree rx
    have hl := reps_len r
    refine .inr (.inl ⟨a, vs, rfl, t.sq, fun hw => ?_, fun _ p hp => (q.pz c3) _ _ (same_mut (Same.refl _) hp) (rep_tup c3.full hp (Nat.le_trans (cutV_length _ _ _) t.2) (reps_cut r y' z'))⟩)
    have e : cutD ds y' z' = ds := by
      unfold cutD
      rw [← hl, hw.1, hw.2]
      simp [hl]
    have q : Post X.K b.B ow m3 H3 Rep (fun c d => W c d σ) Q (.ok (.tup (cutD ds y' z')) S3) := q
    rw [e] at q
    exact q.val c3 rx0
  | lst ds =>
    obtain ⟨a, vs, rfl, t, r⟩ := rep_list rx
    exact .inl ⟨a, vs, rfl, t.sq, fun p hp => (q.pz c3) _ _ (same_mut (Same.refl _) hp) (rep_lst c3.full hp (Nat.le_trans (cutV_length _ _ _) t.2.2) (reps_cut r y' z'))⟩
  | scr ds =>
    unfold Rep at rx
    obtain ⟨a, vs, rfl, t, r⟩ := rx
    exact .inl ⟨a, vs, rfl, t.sq, fun p hp => (q.pz c3) _ _ (same_mut (Same.refl _) hp) (rep_lst c3.full hp (Nat.le_trans (cutV_length _ _ _) t.2) (reps_cut r y' z'))⟩
  | ref n =>
    unfold Rep at rx
    obtain ⟨a, rfl, hm⟩ := rx
    dsimp only at q
    cases hS : S3[n]? with
    | none => rw [hS] at q; exact q.elim
    | some cc =>
      cases cc with
      | lst ds =>
        rw [hS] at q
        obtain ⟨vs, hH, hl, r⟩ := c3.cs n a _ hm hS
        exact .inl ⟨a, vs, rfl, .inl (.inl hH), fun p hp => (Post.pz (o := some (.lst (cutD ds y' z'))) q c3) _ _ (same_mut (Same.refl _) hp) (rep_lst c3.full hp (Nat.le_trans (cutV_length _ _ _) hl) (reps_cut r y' z'))⟩
      | _ => rw [hS] at q; exact q.elim
  | _ => exact q.elim
structure MtS (K : PySem.W.Frag) (X : Cx) (id : String) (o : Str → D → Option D) : Prop where
  run : ∃ r, MtR X id r ∧ ∀ (w : Wo), w.K = K → w.Full → ∀ z y dy Q, z.length ≤ sizeLine → Rep w dy y → Pz w Q (o z dy) → r (.str z) [y] w.H Q
def eM1 (o : Str → D → Option D) (f g : Sx D) (e : En) (S : Store) : R D := (f e S).bind fun x S1 => match x with
  | .str z => (g e S1).bind fun y S2 => R.of S2 (o z y)
  | _ => .no
theorem x_m1 {id : String} {name : Str} {o : Str → D → Option D} (slot : Slot "str" name id) (ty : typeOf (.builtin id) = pure (.type "method_descriptor")) (ho : MtS K X id o) (hf : Ev K X W ex f) (hg : Ev K X W ex2 g)
    (hs : starEach [ex2] X.env = [(false, eval ex2 X.env)] := by rfl) (hbase : attributeBase ex name X.env (eval ex X.env) = eval ex X.env := by rfl) (hline : (apos.endLine == pos.line) = true := by rfl) : Ev K X W (.Call (.Attribute ex name apos) [ex2] [] pos) (eM1 o f g) := by
  obtain ⟨ta, p1, h1⟩ := hf.run
  obtain ⟨tb, p2, h2⟩ := hg.run
  obtain ⟨r, p3, h3⟩ := ho.run
  refine ⟨_, pe_m1 slot ty p3 p1 p2 hs hbase hline, fun b m ow H σ e S Q t q => h1 b m ow H σ e S _ t (Post.bind q fun x S1 v m1 H1 f1 c1 rx q => ?_)⟩
  cases x with
  | str z =>
    obtain ⟨rfl, hz⟩ := rep_strD rx
    exact ⟨⟨z, rfl⟩, h2 b m1 ow H1 σ e S1 _ (t.go f1 c1) (Post.bind q fun y S2 u m2 H2 f2 c2 ry q => h3 _ rfl c2.full z u y Q hz ry (q.pz c2))⟩
  | _ => exact q.elim
def D.strs : List D → Option (List Str)
  | [] => some []
  | .str x :: ds => (D.strs ds).map (x :: ·)
  | _ => none
theorem reps_strs {w : Wo} : ∀ {ds : List D} {vs : List V} {ys : List Str}, Reps w ds vs → D.strs ds = some ys → vs = ys.map V.str
  | [], vs, ys, r, e => by unfold Reps at r; unfold D.strs at e; cases e; rw [r]; rfl
  | d :: ds, vs, ys, r, e => by
    unfold Reps at r
    obtain ⟨v, us, rfl, a, r⟩ := r
    cases d <;> unfold D.strs at e <;> try cases e
    rename_i x
    cases h2 : D.strs ds with
    | none => rw [h2] at e; cases e
    | some zs =>
      rw [h2] at e
      cases e
      rw [(rep_strD a).1, reps_strs r h2]
      rfl
theorem reps_ofStrs {w : Wo} : ∀ {ys : List Str}, (∀ y ∈ ys, y.length ≤ sizeLine) → Reps w (ys.map D.str) (ys.map V.str)
  | [], _ => reps_nil
  | y :: ys, h => reps_cons (rep_str (h y List.mem_cons_self)) (reps_ofStrs fun z hz => h z (List.mem_cons_of_mem _ hz))
def dJoin (z : Str) : D → Option D
  | .lst ds => match D.strs ds with
    | some ys => if (ys.map (·.length)).sum + ys.length * z.length ≤ 16777216 then some (.str (Txt.join z ys)) else none
    | none => none
  | .tup ds => match D.strs ds with
    | some ys => if (ys.map (·.length)).sum + ys.length * z.length ≤ 16777216 then some (.str (Txt.join z ys)) else none
    | none => none
  | _ => none
theorem join_len (z : Str) (ys : List Str) : (Txt.join z ys).length ≤ (ys.map (·.length)).sum + ys.length * z.length := by
  have h : ∀ (l : List (List Nat)) (s : List Nat), (TL.joinL s l).length ≤ (l.map (·.length)).sum + l.length * s.length := by
    intro l s
    induction l with
    | nil => exact Nat.zero_le _
    | cons p r ih =>
      cases r with
      | nil => show p.length ≤ _; simp
      | cons q r =>
        show (p ++ (s ++ TL.joinL s (q :: r))).length ≤ _
        rw [List.length_append, List.length_append]
        simp only [List.map_cons, List.sum_cons, List.length_cons] at ih ⊢
        rw [Nat.add_mul (r.length + 1) 1 s.length]
        omega
  have e : (Txt.join z ys).length = (TL.joinL (TL.tl z) (ys.map TL.tl)).length := by
    rw [TL.join_eq, ← TL.tl_join]
    unfold TL.tl Str.length
    simp
  have tlen : ∀ y : Str, (TL.tl y).length = y.length := fun y => by unfold TL.tl Str.length; simp
  rw [e]
  refine Nat.le_trans (h _ _) ?_
  rw [List.map_map, List.length_map, tlen]
  have : (ys.map ((·.length) ∘ TL.tl)) = ys.map (·.length) := List.map_congr_left fun y _ => tlen y
  rw [this]
  exact Nat.le_refl _
theorem mts_join (hK : X.K = K) : MtS K X "str.join" dJoin := by
  subst hK
  refine ⟨_, mt_join, fun w hw hf z y dy Q hz ry q => ?_⟩
  cases dy <;> try exact (q : False).elim
  · rename_i ds
    obtain ⟨a, vs, rfl, t, r⟩ := rep_tree ry
    unfold dJoin at q
    cases e : D.strs ds with
    | none => simp only [e] at q; exact (q : False).elim
    | some ys =>
      simp only [e] at q
      obtain ⟨h, q⟩ := Pz.ite q
      have := reps_strs r e
      subst this
      exact ⟨z, a, ys, rfl, rfl, .inr (hw ▸ t.sq), h, q.here (rep_str (Nat.le_trans (join_len z ys) h))⟩
  · rename_i ds
    obtain ⟨a, vs, rfl, t, r⟩ := rep_list ry
    unfold dJoin at q
    cases e : D.strs ds with
    | none => simp only [e] at q; exact (q : False).elim
    | some ys =>
      simp only [e] at q
      obtain ⟨h, q⟩ := Pz.ite q
      have := reps_strs r e
      subst this
      exact ⟨z, a, ys, rfl, rfl, .inl (hw ▸ t.sq), h, q.here (rep_str (Nat.le_trans (join_len z ys) h))⟩
def sApp (i : Nat) (f : Sx D) (e : En) (S : Store) : RS := match e[i]? with
  | some (Sl.own (.lst ds)) => (f e S).run e fun d S1 => if ds.length < sizeLine then .nx (e.set i (.own (.lst (ds ++ [d])))) S1 else .no
  | _ => .no
theorem s_app (hN : X.N[i]? = some x) (hv : Vis X.env.scope x) (hf : Ev K X W ex f) (hd : (x == ("__debug__" : Str)) = false := by decide) (hcd : (x == ("__classdict__" : Str)) = false := by decide)
    (hbase : attributeBase (.Name x p) "append" X.env (eval (.Name x p) X.env) = eval (.Name x p) X.env := by rfl)
    (hfew : ((backTo pos (starEach [ex] X.env)).all (fun x => !x.1) && (backToKw pos (keywordEach [] X.env)).all (fun x => x.1.isSome)
      && decide ([ex].length + ([] : List Keyword).length + (if ([] : List Keyword).isEmpty then 0 else 1) < 30)) = true := by rfl)
    (hline : (apos.endLine == pos.line) = true := by rfl) (hs : starEach [ex] X.env = (false, eval ex X.env) :: starEach [] X.env := by rfl) (hplain : (backTo pos (starEach [] X.env)).any (·.1) = false := by rfl)
    (hsw : swapsWith (.Call (.Attribute (.Name x p) "append" apos) [ex] [] pos) none pos'.line X.env = pure false := by rfl) : Es K X W (.Expr (.Call (.Attribute (.Name x p) "append" apos) [ex] [] pos) pos') (sApp i f) := by
  obtain ⟨te, p1, h1⟩ := hf.run
  refine ⟨_, ps_expr (pe_bm PySem.F.plainAttrs_list PySem.F.slot_list_append PySem.F.type_list_append mt_append (pe_var hN hv hd hcd) (pa_cons p1 pa_nil hs) hbase hfew hline hs hplain) hsw, fun b m ow H σ e S D t z => ?_⟩
  unfold sApp at z
  split at z
  · rename_i ds q
    obtain ⟨a, h2, h3, vs, hH, hl, r⟩ := t.slots i _ q
    refine ⟨.ref a, h2, .inl ⟨rfl, vs, .inl (.inl hH)⟩, h1 b m ow H σ e S _ t (PostS.run t z fun d S1 v m1 H1 t1 f1 rv y => ?_)⟩
    split at y
    · rename_i hlt
      have hH1 : H1 a = some (.lst vs) := f1.keep a _ hH (fun _ z => by cases z) fun hm => t.cells.no a hm (List.mem_of_getElem? h3)
      have r1 := Reps.le f1.le _ r
      have hvl := reps_len r
      refine ⟨a, vs, v, rfl, rfl, hH1, by omega, ?_⟩
      have am : zf b.B m1 ow a := .inr (.inr (List.mem_of_getElem? h3))
      obtain ⟨t2, l2⟩ := t1.own_upd (c' := .lst (ds ++ [d])) h3 q h2 (upd_keep (o := .lst (vs ++ [v]))) (fun x h => h.upd fun _ z => by cases z) ⟨_, upd_same, by rw [List.length_append]; simp; omega, reps_app (Reps.le (le_put am) _ r1) (reps_cons (Rep.le (le_put am) d rv) reps_nil)⟩ fun _ _ z => by cases z
      exact y _ m1 _ _ t2 l2
    · exact y.elim
  · exact z.elim
def sIxC (g k f : Sx D) (e : En) (S : Store) : RS := (f e S).run e fun d S1 => (g e S1).run e fun o S2 => (k e S2).run e fun y S3 => match o, y with
  | .ref n, .int l => match S3[n]? with
    | some (.lst ds) => match ixN ds.length l with
      | some j => .nx e (S3.set n (.lst (ds.set j d)))
      | none => .no
    | _ => .no
  | _, _ => .no
theorem s_ixC {ex3 : Expr} {p2 : Pos} (ho : Ev K X W ex g) (hk : Ev K X W ex2 h) (hf : Ev K X W ex3 f) (hs : swapsWithSole [.Subscript ex ex2 p2] ex3 pos.line X.env = pure false := by rfl) (hw : swappedStores [.Subscript ex ex2 p2] ex3 X.env = pure none := by rfl) (h1 : (assignEach [.Subscript ex ex2 p2] X.env).map (·.2) = [assign (.Subscript ex ex2 p2) X.env] := by rfl)
    (ha : ∀ v, assign (.Subscript ex ex2 p2) X.env v = (do
      let ov ← holding [v] (eval ex X.env)
      let iv ← holding [v, ov] (eval ex2 X.env)
      standAt p2
      holding [v, ov, iv] (setItem ov iv v)
      release [v, ov, iv] []) := by intro _; rfl) : Es K X W (.Assign [.Subscript ex ex2 p2] ex3 pos) (sIxC g h f) := by
  obtain ⟨te, p1, h2⟩ := hf.run
  obtain ⟨to, p3, h3⟩ := ho.run
  obtain ⟨tk, p4, h4⟩ := hk.run
  refine ⟨_, ps_asg p1 (pg_sub p3 p4 set_list ha) hs hw h1, fun b m ow H σ e S D t z => h2 b m ow H σ e S _ t (PostS.run t z fun d S1 v m1 H1 t1 f1 r z => h3 b m1 ow H1 σ e S1 _ t1 (PostS.run t1 z fun o S2 u m2 H2 t2 f2 ro z => h4 b m2 ow H2 σ e S2 _ t2 (PostS.run t2 z fun y S3 u3 m3 H3 t3 f3 ry z => ?_)))⟩
  cases o with
  | ref n =>
    cases y with
    | int l =>
      dsimp only at z
      cases rep_intD ry
      unfold Rep at ro
      obtain ⟨a, rfl, hm⟩ := ro
      have hm3 : m3[n]? = some a := f3.le (K := K) (B := b.B) (ow := ow) |>.m n a hm
      cases hS : S3[n]? with
      | none => rw [hS] at z; exact z.elim
      | some cc =>
        cases cc with
        | lst ds =>
          rw [hS] at z
          dsimp only at z
          obtain ⟨vs, hH, hl, rr⟩ := t3.cells.cs n a _ hm3 hS
          cases e1 : ixN ds.length l with
          | none => rw [e1] at z; exact z.elim
          | some j =>
            rw [e1] at z
            have am : zf b.B m3 ow a := .inr (.inl (List.mem_of_getElem? hm3))
            have rv := Rep.le (f2.trans f3).le d r
            refine ⟨a, vs, l, j, rfl, rfl, hH, by rw [reps_len rr]; exact e1, ?_⟩
            obtain ⟨t4, f4⟩ := cell_put (c' := .lst (ds.set j d)) t3 hm3 (upd_keep (o := .lst (vs.set j v))) (fun x h => h.upd fun _ z => by cases z) ⟨_, upd_same, by simpa using hl, reps_set (Rep.le (le_put am) d rv) j (Reps.le (le_put am) _ rr)⟩
            exact z _ m3 _ _ t4 f4.le
        | _ => rw [hS] at z; exact z.elim
    | _ => exact z.elim
  | _ => exact z.elim
end
end Sh
namespace Sh
open PySem PySem.Spec PyProof.Rows L2 Nk StX
variable [TabSet] [BasePred]
section
variable {K : PySem.W.Frag} {b : Bs} {m : List Addr} {ow : List (Option Addr)} {H H1 : Hp} {σ : L2.St} {e : En} {S : Store}
theorem fut_ext (x : LamX.ExtN H H1) : Fut m H m H1 := ⟨⟨[], by simp, by simp⟩, fun a o h n _ => x a o h n, fun a f o h => Classical.byContradiction fun z => f.no (x a o h fun ps q => z ⟨ps, q⟩) fun ps q => z ⟨ps, q⟩, fun a o u h => x a _ h fun _ z => by cases z⟩
theorem Cells.ext {B : Addr → Prop} (c : Cells K B m ow H S) (x : LamX.ExtN H H1) (tb : LamX.Tabs (TabSet.TS K) H1) : Cells K B m ow H1 S := by
  have f : Fut m H m H1 := fut_ext x
  exact ⟨fun a h z => c.hB a h (f.dom a z), c.nd, c.no, c.nB, c.od, fun a h z => c.oh a h (f.dom a z), c.len, fun n a y h1 h2 => (c.cs n a y h1 h2).le f.le fun o e n => x a o e n, tb, c.ntK fun a o h n _ => x a o h n⟩
theorem At.ext (t : At K b m ow H σ e S) (x : LamX.ExtN H H1) (tb : LamX.Tabs (TabSet.TS K) H1) : At K b m ow H1 σ e S := t.go (fut_ext x) (t.cells.ext x tb)
end
def tsOf (K : PySem.W.Frag) (W : WX) (f : Sy) : TS := fun D σ H => ∃ b m ow e S, At K b m ow H σ e S ∧ PostS K b (wo K b.B m ow H) W D (f e S)
theorem Ess.canon {K : PySem.W.Frag} {X : Cx} {W : WX} {st : List Stmt} {f : Sy} (h : Ess K X W st f) : PSs X st (tsOf K W f) := by
  obtain ⟨ts, p1, h1⟩ := h.run
  exact ⟨fun pins s σ H D I ⟨b, m, ow, e, S, t, q⟩ => p1.run pins s σ H D I (h1 b m ow H σ e S D t q)⟩
def runL (k : Nat) (f : Addr → (Store → R D) → Sy) (a : Addr) (th : (Store → R D)) (S : Store) : R D := (f a th (.val (.adr a) :: List.replicate k .no) S).res
section
variable {K : PySem.W.Frag} {B1 B2 : Addr → Prop} {m : List Addr} {o1 o2 : List (Option Addr)} {H : Hp} {S : Store}
structure Swap (B1 : Addr → Prop) (o1 : List (Option Addr)) (B2 : Addr → Prop) (o2 : List (Option Addr)) : Prop where
  eq : ∀ a, (B1 a ∨ some a ∈ o1) ↔ (B2 a ∨ some a ∈ o2)
  dis : ∀ a, some a ∈ o2 → ¬ B2 a
  od : ∀ (i j : Nat) (a : Addr), o2[i]? = some (some a) → o2[j]? = some (some a) → i = j
theorem Swap.zf (w : Swap B1 o1 B2 o2) : zf B1 m o1 = zf B2 m o2 := by
  funext a
  unfold Sh.zf
  have := w.eq a
  apply propext
  constructor
  · rintro (h | h | h)
    · rcases this.mp (.inl h) with h | h
      · exact .inl h
      · exact .inr (.inr h)
    · exact .inr (.inl h)
    · rcases this.mp (.inr h) with h | h
      · exact .inl h
      · exact .inr (.inr h)
  · rintro (h | h | h)
    · rcases this.mpr (.inl h) with h | h
      · exact .inl h
      · exact .inr (.inr h)
    · exact .inr (.inl h)
    · rcases this.mpr (.inr h) with h | h
      · exact .inl h
      · exact .inr (.inr h)
theorem Swap.wo (w : Swap B1 o1 B2 o2) : wo K B1 m o1 H = wo K B2 m o2 H := by
  show (⟨K, Sh.zf B1 m o1, m, H⟩ : Wo) = ⟨K, Sh.zf B2 m o2, m, H⟩
  rw [w.zf]
theorem Cells.swap (c : Cells K B1 m o1 H S) (w : Swap B1 o1 B2 o2) : Cells K B2 m o2 H S :=
  ⟨fun a h => ((w.eq a).mpr (.inl h)).elim (c.hB a) (c.oh a), c.nd, fun a h q => ((w.eq a).mpr (.inr q)).elim (c.nB a (.inl h)) (c.no a h), fun a h q => h.elim (fun h => ((w.eq a).mpr (.inl q)).elim (c.nB a (.inl h)) (c.no a h)) fun h => w.dis a h q, w.od, fun a h => ((w.eq a).mpr (.inr h)).elim (c.hB a) (c.oh a), c.len,
    fun n a x h1 h2 => by rw [← w.wo]; exact c.cs n a x h1 h2, c.tb, fun a z => c.nt a (by rw [w.zf]; exact z)⟩
theorem Post.swap {α β : Type} {RP : Wo → β → α → Prop} {W : Value → Option Addr → Hp → Prop} {Q : α → Hp → Prop} {r : R β} (h : Post K B1 o1 m H RP W Q r) (w : Swap B1 o1 B2 o2) (w' : Swap B2 o2 B1 o1) : Post K B2 o2 m H RP W Q r := by
  cases r with
  | ok y S1 => exact fun a m1 H1 f1 c1 r1 => h a m1 H1 f1 (c1.swap w') (by rw [w.wo]; exact r1)
  | er x S1 => exact fun a d m1 H1 f1 c1 r1 => h a d m1 H1 f1 (c1.swap w') (by rw [w.wo]; exact r1)
  | no => exact h
end
end Sh
namespace Sh
open PySem PySem.Spec PyProof.Rows L2 Nk StX
variable [TabSet] [BasePred]
def D.tyIn (bi cs : List String) (S : Store) : D → Bool
  | .non => bi.contains "NoneType"
  | .bl _ => bi.contains "bool"
  | .int _ => bi.contains "int"
  | .str _ => bi.contains "str"
  | .lst _ => bi.contains "list"
  | .scr _ => bi.contains "list"
  | .tup _ => bi.contains "tuple"
  | .dk _ => bi.contains "dict"
  | .dt _ => bi.contains "dict"
  | .fk _ => bi.contains "dict"
  | .obj c _ => cs.contains c
  | .ref n => match S[n]? with
    | some (.ins c _) => cs.contains c
    | some (.lst _) => bi.contains "list"
    | some (.dk _) => bi.contains "dict"
    | some (.fk _) => bi.contains "dict"
    | _ => false
  | _ => false
structure TyOk (K : PySem.W.Frag) (P : Value → Prop) (bi cs : List String) : Prop where
  b : ∀ t ∈ bi, P (.type t)
  o : ∀ c ∈ cs, Cls K (He.ga K c) ∧ InsC K (He.ga K c) ∧ P (.ref (He.ga K c))
theorem to_nil {K : PySem.W.Frag} {P : Value → Prop} : ∀ c ∈ ([] : List String), Cls K (He.ga K c) ∧ InsC K (He.ga K c) ∧ P (.ref (He.ga K c)) := fun _ h => nomatch h
theorem to_cons {K : PySem.W.Frag} {P : Value → Prop} {c : String} {cs : List String} (h1 : Cls K (He.ga K c)) (h2 : InsC K (He.ga K c)) (h3 : P (.ref (He.ga K c))) (h : ∀ c ∈ cs, Cls K (He.ga K c) ∧ InsC K (He.ga K c) ∧ P (.ref (He.ga K c))) : ∀ x ∈ c :: cs, Cls K (He.ga K x) ∧ InsC K (He.ga K x) ∧ P (.ref (He.ga K x)) := fun d hd => by
  rcases List.mem_cons.mp hd with rfl | hd
  · exact ⟨h1, h2, h3⟩
  · exact h d hd
section
variable {K : PySem.W.Frag} {B : Addr → Prop} {m : List Addr} {ow : List (Option Addr)} {H : Hp} {S : Store}
theorem ty_at {P : Value → Prop} {bi cs : List String} {d : D} {v : V} (ok : TyOk K P bi cs) (t : Cells K B m ow H S) (r : Rep (wo K B m ow H) d v) (h : d.tyIn bi cs S = true) : ∃ T, TyX K H v T ∧ P T := by
  cases d <;> unfold D.tyIn at h <;> try cases h
  case non => unfold Rep at r; subst r; exact ⟨_, .base .non, ok.b _ (by simpa using h)⟩
  case bl => cases rep_blD r; exact ⟨_, .base (.bl _), ok.b _ (by simpa using h)⟩
  case int => cases rep_intD r; exact ⟨_, .base (.int _), ok.b _ (by simpa using h)⟩
  case str => obtain ⟨rfl, _⟩ := rep_strD r; exact ⟨_, .base (.str _), ok.b _ (by simpa using h)⟩
  case tup =>
    obtain ⟨a, vs, rfl, t, _⟩ := rep_tree r
    obtain ⟨t, _⟩ := t
    obtain ⟨_, t⟩ := t
    exact ⟨_, .base (.tup t), ok.b _ (by simpa using h)⟩
  case lst => obtain ⟨a, vs, rfl, t, _⟩ := rep_list r; exact ⟨_, .base (.lst t.2.1), ok.b _ (by simpa using h)⟩
  case scr =>
    unfold Rep at r
    obtain ⟨a, vs, rfl, ⟨t, _⟩, _⟩ := r
    rcases t with ⟨_, t | ⟨o, t⟩⟩ | ⟨o, its, n, t, c, _⟩
    · exact ⟨_, .base (.lst t), ok.b _ (by simpa using h)⟩
    · exact ⟨_, .base (.frz t), ok.b _ (by simpa using h)⟩
    · exact ⟨_, .kList t c, ok.b _ (by simpa using h)⟩
  case dk => unfold Rep at r; obtain ⟨a, vs, rfl, _, t, _⟩ := r; exact ⟨_, .base (.dK t), ok.b _ (by simpa using h)⟩
  case dt => unfold Rep at r; obtain ⟨a, vs, rfl, _, t, _⟩ := r; exact ⟨_, .base (.dT t), ok.b _ (by simpa using h)⟩
  case fk => unfold Rep at r; obtain ⟨a, o, vs, rfl, _, t, _⟩ := r; exact ⟨_, .fDict t, ok.b _ (by simpa using h)⟩
  case obj c fs =>
    unfold Rep at r
    obtain ⟨a, dx, gs, rfl, _, t, _⟩ := r
    obtain ⟨h1, h2, h3⟩ := ok.o c (by simpa using h)
    exact ⟨_, .base (.ins t h1 h2.ha h2.hn h2.ht h2.hm), h3⟩
  case ref n =>
    unfold Rep at r
    obtain ⟨a, rfl, hm⟩ := r
    cases s : S[n]? with
    | none => simp only [s] at h; cases h
    | some x =>
      cases x with
      | ins c fs =>
        simp only [s] at h
        obtain ⟨dx, gs, hH, r⟩ := cell_ins t hm s
        obtain ⟨h1, h2, h3⟩ := ok.o c (by simpa using h)
        exact ⟨_, .base (.ins hH h1 h2.ha h2.hn h2.ht h2.hm), h3⟩
      | lst ds =>
        simp only [s] at h
        obtain ⟨vs, hH, hl, r⟩ := t.cs n a _ hm s
        exact ⟨_, .base (.lst hH), ok.b _ (by simpa using h)⟩
      | dk kvs =>
        simp only [s] at h
        obtain ⟨vs, hH, r⟩ := t.cs n a _ hm s
        exact ⟨_, .base (.dK hH), ok.b _ (by simpa using h)⟩
      | fk kvs =>
        simp only [s] at h
        obtain ⟨vs, o, hH, r⟩ := t.cs n a _ hm s
        exact ⟨_, .fDict hH, ok.b _ (by simpa using h)⟩
      | _ => simp only [s] at h; cases h
def D.isO (c : String) (S : Store) : D → Bool
  | .obj c' _ => c' == c
  | .ref n => match S[n]? with
    | some (.ins c' _) => c' == c
    | _ => false
  | _ => false
theorem isO_at {c : String} {d : D} {v : V} (t : Cells K B m ow H S) (r : Rep (wo K B m ow H) d v) (h : d.isO c S = true) : ∃ a dx fs, v = .ref a ∧ H a = some (.ins (He.ga K c) dx fs) := by
  cases d <;> unfold D.isO at h <;> try cases h
  · rename_i c' fs
    simp only [beq_iff_eq] at h
    unfold Rep at r
    obtain ⟨a, dx, gs, rfl, _, hH, r⟩ := r
    exact ⟨a, dx, gs, rfl, h ▸ hH⟩
  · rename_i n
    unfold Rep at r
    obtain ⟨a, rfl, hm⟩ := r
    cases s : S[n]? with
    | none => simp only [s] at h; cases h
    | some x =>
      cases x <;> simp only [s] at h <;> try cases h
      rename_i c' fs
      simp only [beq_iff_eq] at h
      obtain ⟨dx, gs, hH, r⟩ := cell_ins t hm s
      exact ⟨a, dx, gs, rfl, h ▸ hH⟩
end
structure OpE (K : PySem.W.Frag) (X : Cx) (f : Value → Value → Sem Value) (o : D → D → Store → R D) : Prop where
  run : ∃ r, OpR X f r ∧ ∀ B m ow H S x y dx dy Q (W : Value → Option Addr → Hp → Prop), Cells K B m ow H S → Rep (wo K B m ow H) dx x → Rep (wo K B m ow H) dy y → Post K B ow m H Rep W Q (o dx dy S).clean → r x y H Q
structure CallE (K : PySem.W.Frag) (X : Cx) (f : Value) (o : List D → Store → R D) : Prop where
  run : ∃ r, CallR X f r ∧ ∀ B m ow H S xs ds Q (W : Value → Option Addr → Hp → Prop), Cells K B m ow H S → Reps (wo K B m ow H) ds xs → Post K B ow m H Rep W Q (o ds S).clean → r xs H Q
def oOf (o : D → D → Option D) (x : D) (y : D) (S : Store) : R D := R.of S (o x y)
def cOf (o : List D → Option D) (x : List D) (S : Store) : R D := R.of S (o x)
def oOr (o p : D → D → Store → R D) (x : D) (y : D) (S : Store) : R D := (o x y S).orE (p x y S)
def cOr (o p : List D → Store → R D) (x : List D) (S : Store) : R D := (o x S).orE (p x S)
def oOwn (neg : Bool) (c : String) (bi cs : List String) (F : List D → Store → R D) (x : D) (y : D) (S : Store) : R D := if x.isO c S = true ∧ y.tyIn bi cs S = true then (F [x, y] S).clean.bind fun z S1 => R.of S1 (z.b.map fun b => .bl (if neg then !b else b)) else .no
def okLen (n : Int) : Bool := match n with
  | .ofNat k => Nat.ble k 9223372036854775807
  | .negSucc k => false
theorem of_okLen {n : Int} (h : okLen n = true) : 0 ≤ n ∧ n < 2 ^ 63 := by
  cases n with
  | ofNat k =>
    have h2 : k ≤ 9223372036854775807 := Nat.le_of_ble_eq_true h
    exact ⟨by simp only [Int.ofNat_eq_natCast]; omega, by simp only [Int.ofNat_eq_natCast]; omega⟩
  | negSucc k => cases h
theorem okLen_of {n : Int} (h : 0 ≤ n) (h2 : n < 2 ^ 63) : okLen n = true := by
  cases n with
  | ofNat k =>
    simp only [Int.ofNat_eq_natCast] at h2
    exact Nat.ble_eq_true_of_le (by omega)
  | negSucc k => rw [Int.negSucc_eq] at h; omega
def cLen (c : String) (F : List D → Store → R D) : List D → Store → R D
  | [x], S => if x.isO c S = true then (F [x] S).clean.bind fun z S1 => match z with
    | .int n => if okLen n = true then .ok (.int n) S1 else .no
    | _ => .no else .no
  | _, _ => .no
def cStr (c : String) (F : List D → Store → R D) : List D → Store → R D
  | [x], S => if x.isO c S = true then (F [x] S).clean.bind fun z S1 => match z with
    | .str n => .ok (.str n) S1
    | _ => .no else .no
  | _, _ => .no
def eBinE (o : D → D → Store → R D) (f g : Sx D) (e : En) (S : Store) : R D := (f e S).bind fun x S1 => (g e S1).bind fun y S2 => (o x y S2).clean
def eCallE (o : List D → Store → R D) (g : Sx (List D)) (e : En) (S : Store) : R D := (g e S).bind fun xs S1 => (o xs S1).clean
section
variable {α : Type}
@[simp] theorem clean_of {o : Option α} {S : Store} : (R.of S o).clean = R.of S o := by cases o <;> rfl
@[simp] theorem ite_clean {c : Prop} [Decidable c] {r s : R α} : (if c then r else s).clean = if c then r.clean else s.clean := by split <;> rfl
theorem post_clean {β : Type} {K : PySem.W.Frag} {B : Addr → Prop} {ow : List (Option Addr)} {m : List Addr} {H : Hp} {RP : Wo → β → α → Prop} {W : Value → Option Addr → Hp → Prop} {Q : α → Hp → Prop} {r : R β} (h : Post K B ow m H RP W Q r.clean) : Post K B ow m H RP W Q r := by
  cases r with
  | ok y S => exact h
  | er x S => exact h.elim
  | no => exact h.elim
end
section
variable {K : PySem.W.Frag} {X : Cx}
theorem OpS.e {f : Value → Value → Sem Value} {o : D → D → Option D} (h : OpS K X f o) : OpE K X f (oOf o) := by
  obtain ⟨r, a, b⟩ := h.run
  refine ⟨r, a, fun B m ow H S x y dx dy Q W c rx ry q => b _ rfl c.full x y dx dy Q rx ry ?_⟩
  unfold oOf at q
  rw [clean_of] at q
  exact q.pz c
theorem CallS.e {f : Value} {o : List D → Option D} (h : CallS K X f o) : CallE K X f (cOf o) := by
  obtain ⟨r, a, b⟩ := h.run
  refine ⟨r, a, fun B m ow H S x dx Q W c rx q => b _ rfl c.full x dx Q rx ?_⟩
  unfold cOf at q
  rw [clean_of] at q
  exact q.pz c
theorem OpE.or {f : Value → Value → Sem Value} {o p : D → D → Store → R D} (h : OpE K X f o) (g : OpE K X f p) : OpE K X f (oOr o p) := by
  obtain ⟨r1, a1, b1⟩ := h.run
  obtain ⟨r2, a2, b2⟩ := g.run
  refine ⟨_, op_alt a1 a2, fun B m ow H S x y dx dy Q W c rx ry q => ?_⟩
  unfold oOr at q
  cases e : o dx dy S with
  | ok d S1 => rw [e] at q; exact .inl (b1 B m ow H S x y dx dy Q W c rx ry (by rw [e]; exact q))
  | er d S1 => rw [e] at q; exact q.elim
  | no => rw [e] at q; exact .inr (b2 B m ow H S x y dx dy Q W c rx ry q)
theorem CallE.or {f : Value} {o p : List D → Store → R D} (h : CallE K X f o) (g : CallE K X f p) : CallE K X f (cOr o p) := by
  obtain ⟨r1, a1, b1⟩ := h.run
  obtain ⟨r2, a2, b2⟩ := g.run
  refine ⟨fun xs H Q => r1 xs H Q ∨ r2 xs H Q, fun pins s σ H xs us Q I r h => h.elim (a1 pins s σ H xs us Q I r) (a2 pins s σ H xs us Q I r), fun B m ow H S x dx Q W c rx q => ?_⟩
  unfold cOr at q
  cases e : o dx S with
  | ok d S1 => rw [e] at q; exact .inl (b1 B m ow H S x dx Q W c rx (by rw [e]; exact q))
  | er d S1 => rw [e] at q; exact q.elim
  | no => rw [e] at q; exact .inr (b2 B m ow H S x dx Q W c rx q)
theorem own_at {neg : Bool} {bi cs : List String} {c : String} {sp : Sp} {F : List D → Store → R D} {B : Addr → Prop} {m : List Addr} {ow : List (Option Addr)} {H : Hp} {S : Store} {x y : V} {dx dy : D} {Q : VK} {W : Value → Option Addr → Hp → Prop} (ok : TyOk K (fun t => PySem.W.notFirst K (He.ga K c) t = true) bi cs) (hs : Shp K sp F) (cl : Cells K B m ow H S) (rx : Rep (wo K B m ow H) dx x) (ry : Rep (wo K B m ow H) dy y) (q : Post K B ow m H Rep W Q (oOwn neg c bi cs F dx dy S).clean) : rOwn neg K (He.ga K c) sp x y H Q := by
  have q := post_clean q
  unfold oOwn at q
  split at q
  · rename_i hi
    obtain ⟨a, dx', fs, rfl, hH⟩ := isO_at cl rx hi.1
    obtain ⟨T, hT, hP⟩ := ty_at ok cl ry hi.2
    refine ⟨a, dx', fs, T, rfl, hH, hT, hP, hs.at cl (reps_cons rx (reps_cons ry reps_nil)) ((Post.bind q fun z S1 v m1 H1 f1 c1 rz q => ?_ : Post K B ow m H Rep W _ _).clean)⟩
    cases e : z.b with
    | none => rw [e] at q; exact q.elim
    | some b => rw [e] at q; exact ⟨b, rep_b rz e, q.val c1 rep_bl⟩
  · exact q.elim
variable {bi cs : List String} {c : String} {sp : Sp} {F : List D → Store → R D} {fa : Addr} {lv j : Nat} {ps : List Str}
theorem oe_eq (hK : X.K = K) (T : EqC K (He.ga K c) fa) (hF : Fo X.prog X.w K X.mg X.base fa lv ps sp) (hs : Shp K sp F) (ok : TyOk K (fun t => PySem.W.notFirst K (He.ga K c) t = true) bi cs) (hr : Room j X.A) (hk : lv ≤ j) : OpE K X (compareOp .Eq) (oOwn false c bi cs F) := by
  subst hK
  exact ⟨_, op_eqF T hF hr hk, fun B m ow H S x y dx dy Q W cl rx ry q => own_at ok hs cl rx ry q⟩
theorem oe_ne (hK : X.K = K) (T : EqC K (He.ga K c) fa) (hF : Fo X.prog X.w K X.mg X.base fa lv ps sp) (hs : Shp K sp F) (ok : TyOk K (fun t => PySem.W.notFirst K (He.ga K c) t = true) bi cs) (hr : Room j X.A) (hk : lv + 1 ≤ j) : OpE K X (compareOp .NotEq) (oOwn true c bi cs F) := by
  subst hK
  exact ⟨_, op_neF T hF hr hk, fun B m ow H S x y dx dy Q W cl rx ry q => own_at ok hs cl rx ry q⟩
theorem ce_len (hK : X.K = K) (T : OwnM K (He.ga K c) "__len__" fa) (hF : Fo X.prog X.w K X.mg X.base fa lv ps sp) (hs : Shp K sp F) (hr : Room j X.A) (hk : lv + 1 ≤ j) : CallE K X (.builtin "len") (cLen c F) := by
  subst hK
  refine ⟨_, call_lenO T hF hr hk, fun B m ow H S xs ds Q W cl r q => ?_⟩
  have q := post_clean q
  unfold cLen at q
  split at q
  · obtain ⟨v, rfl, r1⟩ := reps1 r rfl
    split at q
    · rename_i hi
      obtain ⟨a, dx', fs, rfl, hH⟩ := isO_at cl r1 hi
      refine ⟨a, dx', fs, rfl, hH, hs.at cl (reps_cons r1 reps_nil) ((Post.bind q fun z S1 v m1 H1 f1 c1 rz q => ?_ : Post X.K B ow m H Rep W _ _).clean)⟩
      cases z <;> try exact q.elim
      rename_i n
      cases rep_intD rz
      dsimp only at q
      split at q
      · rename_i hn
        exact ⟨n, rfl, (of_okLen hn).1, (of_okLen hn).2, q.val c1 rep_int⟩
      · exact q.elim
    · exact q.elim
  · exact q.elim
theorem ce_str (hK : X.K = K) (hs' : PySem.W.findIn K (.ref (He.ga K c)) "__str__" = some (some (.ref fa))) (hf : PySem.W.isFn K (.ref fa) = true) (hF : Fo X.prog X.w K X.mg X.base fa lv ps sp) (hs : Shp K sp F) (hr : Room j X.A) (hk : lv + 2 ≤ j) : CallE K X (.type "str") (cStr c F) := by
  subst hK
  refine ⟨_, call_strF hs' hf hF hr hk, fun B m ow H S xs ds Q W cl r q => ?_⟩
  have q := post_clean q
  unfold cStr at q
  split at q
  · obtain ⟨v, rfl, r1⟩ := reps1 r rfl
    split at q
    · rename_i hi
      obtain ⟨a, dx', fs, rfl, hH⟩ := isO_at cl r1 hi
      refine ⟨a, dx', fs, rfl, hH, hs.at cl (reps_cons r1 reps_nil) ((Post.bind q fun z S1 v m1 H1 f1 c1 rz q => ?_ : Post X.K B ow m H Rep W _ _).clean)⟩
      cases z <;> try exact q.elim
      rename_i n
      have rz0 := rz
      obtain ⟨rfl, hl⟩ := rep_strD rz
      exact ⟨n, rfl, q.val c1 rz0⟩
    · exact q.elim
  · exact q.elim
end
section
variable {K : PySem.W.Frag} {X : Cx} {W : WX} {ex ex2 value : Expr} {es : List Expr} {f g h : Sx D} {a : Sx (List D)} {pos p p0 apos pos' : Pos} {i lv j : Nat} {x m fd : Str} {ps : List Str} {sp : Sp} {F : List D → Store → R D} {bi cs : List String} {c : String} {fa : Addr}
theorem x_cmpE {op : CmpOp} {o : D → D → Store → R D} (ho : OpE K X (compareOp op) o) (hf : Ev K X W ex f) (hg : Ev K X W ex2 g) (hm : behindInMarks op ex2 = false) : Ev K X W (.Compare ex [op] [ex2] pos) (eBinE o f g) := by
  obtain ⟨ta, p1, h1⟩ := hf.run
  obtain ⟨tb, p2, h2⟩ := hg.run
  obtain ⟨r, p3, h3⟩ := ho.run
  refine ⟨_, pe_cmpR p3 p1 p2 hm, fun b m ow H σ e S Q t q => h1 b m ow H σ e S _ t (Post.bind q fun x S1 v m1 H1 f1 c1 rx q => h2 b m1 ow H1 σ e S1 _ (t.go f1 c1) (Post.bind q fun y S2 u m2 H2 f2 c2 ry q => ?_))⟩
  exact h3 _ _ _ _ _ v u x y Q _ c2 (Rep.le f2.le x rx) ry q
theorem t_cmpE {op : CmpOp} {o : D → D → Store → R D} (ho : OpE K X (compareOp op) o) (hf : Ev K X W ex f) (hg : Ev K X W ex2 g) (hm : behindInMarks op ex2 = false) : Et K X W (.Compare ex [op] [ex2] pos) (tVal (eBinE o f g)) := by
  obtain ⟨ta, p1, h1⟩ := hf.run
  obtain ⟨tb, p2, h2⟩ := hg.run
  obtain ⟨r, p3, h3⟩ := ho.run
  refine ⟨_, pt_cmpR p3 p1 p2 hm, fun b m ow H σ e S Q t q => ?_⟩
  unfold tVal eBinE at q
  simp only [bind_bind] at q
  refine h1 b m ow H σ e S _ t (Post.bind q fun x S1 v m1 H1 f1 c1 rx q => h2 b m1 ow H1 σ e S1 _ (t.go f1 c1) (Post.bind q fun y S2 u m2 H2 f2 c2 ry q => ?_))
  refine h3 _ _ _ _ _ v u x y _ (fun c d => W c d σ) c2 (Rep.le f2.le x rx) ry ?_
  exact Post.bind q fun z S3 v3 m3 H3 f3 c3 rz q => q.tst c3 rz
theorem x_callBE {id : String} {o : List D → Store → R D} (hc : CallE K X (.builtin id) o) (hg : Gl X x) (hm : X.mg x = none) (hv : bootBuiltins x = some (.builtin id)) (ha : Ea K X W (ex :: es) a) (hn : x ≠ "__name__" := by decide) (hdb : (x == ("__debug__" : Str)) = false := by decide)
    (he : starEach (ex :: es) X.env = (false, eval ex X.env) :: starEach es X.env := by rfl) (hpl : (backTo pos (starEach es X.env)).any (·.1) = false := by rfl) : Ev K X W (.Call (.Name x p) (ex :: es) [] pos) (eCallE o a) := by
  obtain ⟨ta, p1, h1⟩ := ha.run
  obtain ⟨r, p2, h2⟩ := hc.run
  exact ⟨_, pe_callB p2 hg hm hv p1 hn hdb he hpl, fun b m ow H σ e S Q t q => h1 b m ow H σ e S _ t (Post.bind q fun x S1 v m1 H1 f1 c1 rx q => h2 _ _ _ _ _ v x Q _ c1 rx q)⟩
theorem x_callTE {T : String} {o : List D → Store → R D} (hc : CallE K X (.type T) o) (hg : Gl X x) (hm : X.mg x = none) (hv : bootBuiltins x = some (.type T)) (ha : Ea K X W (ex :: es) a) (hn : x ≠ "__name__" := by decide) (hdb : (x == ("__debug__" : Str)) = false := by decide)
    (he : starEach (ex :: es) X.env = (false, eval ex X.env) :: starEach es X.env := by rfl) (hpl : (backTo pos (starEach es X.env)).any (·.1) = false := by rfl) : Ev K X W (.Call (.Name x p) (ex :: es) [] pos) (eCallE o a) := by
  obtain ⟨ta, p1, h1⟩ := ha.run
  obtain ⟨r, p2, h2⟩ := hc.run
  exact ⟨_, pe_callTy p2 hg hm hv p1 hn hdb he hpl, fun b m ow H σ e S Q t q => h1 b m ow H σ e S _ t (Post.bind q fun x S1 v m1 H1 f1 c1 rx q => h2 _ _ _ _ _ v x Q _ c1 rx q)⟩
end
section
variable {K : PySem.W.Frag} {B : Addr → Prop} {m : List Addr} {ow : List (Option Addr)} {H H' : Hp} {S : Store} {c : Cell} {a : Addr}
theorem Cells.pub (cl : Cells K (fun x => B x ∨ x = a) m ow H S) (hB : ¬ B a) (ho : some a ∉ ow) (ham : a ∉ m) (r : CRep (wo K (fun x => B x ∨ x = a) m ow H) a c) : Cells K B (m ++ [a]) ow H (S ++ [c]) ∧ Le (wo K (fun x => B x ∨ x = a) m ow H) (wo K B (m ++ [a]) ow H) := by
  have le : Le (wo K (fun x => B x ∨ x = a) m ow H) (wo K B (m ++ [a]) ow H) := by
    refine ⟨rfl, fun x o e n z => ?_, fun n x e => ?_, fun _ _ e _ _ => e, fun _ _ _ e => e⟩
    · rintro (h | h | h)
      · exact z (.inl (.inl h))
      · rcases List.mem_append.mp h with h | h
        · exact z (.inr (.inl h))
        · exact z (.inl (.inr (List.mem_singleton.mp h)))
      · exact z (.inr (.inr h))
    · show (m ++ [a])[n]? = some x
      have e : m[n]? = some x := e
      rw [List.getElem?_append_left (List.getElem?_eq_some_iff.mp e).1]
      exact e
  refine ⟨⟨fun x hx => cl.hB x (.inl hx), ?_, fun x hx => ?_, fun x hx z => ?_, cl.od, cl.oh, by simp [cl.len], fun n x y h1 h2 => ?_, cl.tb, fun x z => z.elim (fun h => cl.nt x (.inl (.inl h))) fun h => h.elim (fun h => (List.mem_append.mp h).elim (fun h => cl.nt x (.inr (.inl h))) fun h => cl.nt x (.inl (.inr (List.mem_singleton.mp h)))) fun h => cl.nt x (.inr (.inr h))⟩, le⟩
  · rw [List.nodup_append]
    exact ⟨cl.nd, by simp, fun x hx y hy => by rw [List.mem_singleton.mp hy]; exact fun z => ham (z ▸ hx)⟩
  · rcases List.mem_append.mp hx with hx | hx
    · exact cl.no x hx
    · rw [List.mem_singleton.mp hx]; exact ho
  · rcases hx with hx | hx
    · rcases List.mem_append.mp hx with hx | hx
      · exact cl.nB x (.inl hx) (.inl z)
      · rw [List.mem_singleton.mp hx] at z; exact hB z
    · exact cl.nB x (.inr hx) (.inl z)
  · by_cases l : n < m.length
    · rw [List.getElem?_append_left l] at h1
      rw [List.getElem?_append_left (by rw [← cl.len]; exact l)] at h2
      exact (cl.cs n x y h1 h2).le le fun o e _ => e
    · rw [List.getElem?_append_right (by omega)] at h1
      rw [List.getElem?_append_right (by rw [← cl.len]; omega)] at h2
      rw [cl.len] at h1
      cases n' : n - S.length with
      | zero =>
        rw [n'] at h1 h2
        simp at h1 h2
        subst h1 h2
        exact r.le le fun o e _ => e
      | succ k => rw [n'] at h1; simp at h1
end
def pubC (c : Cell) (S : Store) : R D := .ok (.ref S.length) (S ++ [c])
def eLstC (a : Sx (List D)) (e : En) (S : Store) : R D := (a e S).bind fun xs S1 => if xs.length ≤ sizeLine then pubC (.lst xs) S1 else .no
section
variable {K : PySem.W.Frag} {X : Cx} {W : WX} {ex ex2 : Expr} {es : List Expr} {f g : Sx D} {a : Sx (List D)} {pos p p0 apos : Pos} {i lv j : Nat} {x m : Str} {ps : List Str} {sp : Sp} {F : Cell → List D → Store → R Cell} {cs : List String} {c : String} {fa : Addr}
theorem x_lstC (ha : Ea K X W es a) : Ev K X W (.List es pos) (eLstC a) := by
  obtain ⟨ta, p1, h1⟩ := ha.run
  refine ⟨_, pe_lst p1, fun b m ow H σ e S Q t q => h1 b m ow H σ e S _ t (Post.bind q fun x S1 v m1 H1 f1 c1 rx q => ?_)⟩
  split at q
  · rename_i hl
    have hvl := reps_len rx
    rw [← hvl] at hl
    refine ⟨hl, fun p hp => ?_⟩
    have s : Same H1 (L2.upd H1 p (.lst v)) := same_mut (Same.refl _) hp
    have cs := c1.same s
    have nB : ¬ b.B p := fun z => c1.hB p z (.none hp)
    have no : some p ∉ ow := fun z => c1.oh p z (.none hp)
    have nm : p ∉ m1 := fun z => c1.full p (.inr (.inl z)) (.none hp)
    have le : Le (wo K b.B m1 ow (L2.upd H1 p (.lst v))) (wo K (fun x => b.B x ∨ x = p) m1 ow (L2.upd H1 p (.lst v))) → True := fun _ => True.intro
    have l1 : Le (wo K b.B m1 ow H1) (wo K (fun x => b.B x ∨ x = p) m1 ow (L2.upd H1 p (.lst v))) := le_hide hp
    have ch : Cells K (fun x => b.B x ∨ x = p) m1 ow (L2.upd H1 p (.lst v)) S1 := ⟨fun x hx z => hx.elim (fun h => cs.hB x h z) fun h => (h ▸ z : Fr _ p).no upd_same fun _ z => (by cases z), cs.nd, cs.no, fun x hx z => z.elim (cs.nB x hx) fun h => hx.elim (fun q => nm (h ▸ q)) fun q => no (h ▸ q), cs.od, cs.oh, cs.len, fun n y cc h1 h2 => (c1.cs n y cc h1 h2).le l1 fun o e _ => s _ _ e, cs.tb, fun y z xs hx => if e : y = p then (by rw [e, upd_same] at hx; cases hx) else cs.nt y (z.imp (fun h => h.elim id fun h => (e h).elim) id) xs hx⟩
    obtain ⟨c2, l2⟩ := ch.pub (c := .lst x) nB no nm ⟨v, upd_same, hl, Reps.le l1 x rx⟩
    refine q _ (m1 ++ [p]) _ ⟨⟨[p], rfl, fun x hx => by rw [List.mem_singleton.mp hx]; exact .none hp⟩, fun x o h n _ => s _ _ h, fun x h => h.same s, fun x o u h => s _ _ h⟩ c2 ?_
    unfold Rep
    refine ⟨p, rfl, ?_⟩
    show (m1 ++ [p])[S1.length]? = some p
    rw [← c1.len]
    simp
  · exact q.elim
end
end Sh
namespace Sh
open PySem PySem.Spec PyProof.Rows L2 Nk StX
variable [TabSet] [BasePred]
theorem room64 {k : Nat} {A : Around} (h : Room k A) : A.units + 64 < cLine := h.units
theorem room65 {k : Nat} {A : Around} (h : Room k A) : A.units + 65 < cLine := by have := h.un; omega
def allB (B : Addr → Prop) (m : List Addr) (ow : List (Option Addr)) : Addr → Prop := fun a => B a ∨ a ∈ m ∨ some a ∈ ow
section
variable {K : PySem.W.Frag} {B : Addr → Prop} {m : List Addr} {ow : List (Option Addr)} {H H' : Hp} {S : Store}
theorem zf_all : zf (allB B m ow) [] [] = zf B m ow := by
  funext a
  unfold zf allB
  apply propext
  constructor
  · rintro (h | h | h)
    · exact h
    · exact (List.not_mem_nil h).elim
    · exact (List.not_mem_nil h).elim
  · exact fun h => .inl h
theorem Cells.all (c : Cells K B m ow H S) : Cells K (allB B m ow) [] [] H [] :=
  ⟨fun a h => c.fullF a h, List.nodup_nil, fun _ h => (List.not_mem_nil h).elim, fun a h => h.elim (fun h => (List.not_mem_nil h).elim) fun h => (List.not_mem_nil h).elim, fun i j a h => by simp at h, fun a h => (List.not_mem_nil h).elim, rfl, fun n a x h1 h2 => by simp at h1, c.tb, fun a z => c.nt a (zf_all ▸ z)⟩
theorem fut_pure (f : Fut [] H [] H') : Fut m H m H' := ⟨⟨[], by simp, by simp⟩, fun a o h n _ => f.keep a o h n List.not_mem_nil, f.dom, f.fz⟩
theorem Cells.pure (c : Cells K B m ow H S) (f : Fut [] H [] H') (c' : Cells K (allB B m ow) [] [] H' []) : Cells K B m ow H' S := by
  have f2 : Fut m H m H' := fut_pure f
  exact ⟨fun a h z => c.hB a h (f.dom a z), c.nd, c.no, c.nB, c.od, fun a h z => c.oh a h (f.dom a z), c.len, fun n a x h1 h2 => (c.cs n a x h1 h2).le f2.le fun o e n => f.keep a o e n List.not_mem_nil, c'.tb, fun a z => c'.nt a (zf_all.symm ▸ z)⟩
mutual
def D.pureD : D → Bool
  | .tup ds => D.puresD ds
  | .lst ds => D.puresD ds
  | .scr ds => D.puresD ds
  | .tpl ds => D.puresD ds
  | .obj _ fs => D.puresF fs
  | .exc _ fs => D.puresF fs
  | .dk _ => false
  | .dt _ => false
  | .fk kvs => D.puresK kvs
  | .ft _ => false
  | .ref _ => false
  | _ => true
def D.puresD : List D → Bool
  | [] => true
  | d :: ds => d.pureD && D.puresD ds
def D.puresF : List (Str × D) → Bool
  | [] => true
  | d :: ds => d.2.pureD && D.puresF ds
def D.puresK : List (Key × D) → Bool
  | [] => true
  | d :: ds => d.2.pureD && D.puresK ds
end
end
def eqO (Fs : List (String × (List D → Store → R D))) : D → D → Bool
  | .obj c fs, .obj c' gs => c == c' && (D.obj c fs).pureD && (D.obj c gs).pureD && match Fs.lookup c with
    | some F => match F [.obj c fs, .obj c gs] [] with
      | .ok (.bl true) [] => true
      | _ => false
    | none => false
  | _, _ => false
end Sh
namespace Sh
open PySem
def Sl.free : Sl → Bool
  | .own _ => false
  | _ => true
theorem notOwn_free {i : Nat} {e : En} : notOwn i e = (match e[i]? with | some s => s.free | none => true) := by
  unfold notOwn
  cases e[i]? with
  | none => rfl
  | some s => cases s <;> rfl
theorem free_no : Sl.no.free = true := rfl
theorem free_val {d : D} : (Sl.val d).free = true := rfl
theorem free_own {c : Cell} : (Sl.own c).free = false := rfl
theorem ofStr_inj {a b : String} (h : Str.ofString a = Str.ofString b) : a = b := by
  rw [Str.ofString_eq_toList, Str.ofString_eq_toList] at h
  have h1 : (a.toList.map Char.toNat).toArray = (b.toList.map Char.toNat).toArray := Str.mk.inj h
  have h2 : a.toList.map Char.toNat = b.toList.map Char.toNat := by simpa using h1
  have inj : ∀ (xs ys : List Char), xs.map Char.toNat = ys.map Char.toNat → xs = ys := by
    intro xs
    induction xs with
    | nil => intro ys h; cases ys with
      | nil => rfl
      | cons y r => cases h
    | cons x xs ih => intro ys h; cases ys with
      | nil => cases h
      | cons y r =>
        have h := List.cons.inj h
        rw [ih r h.2, show x = y from Char.ext (UInt32.toNat_inj.mp h.1)]
  have h3 : a.toList = b.toList := inj _ _ h2
  exact String.toList_inj.mp h3
theorem ofStr_beq {a b : String} : (Str.ofString a == Str.ofString b) = (a == b) := by
  by_cases h : a = b
  · subst h; simp
  · have h2 : Str.ofString a ≠ Str.ofString b := fun z => h (ofStr_inj z)
    rw [beq_eq_false_iff_ne.mpr h, beq_eq_false_iff_ne.mpr h2]
theorem ofStr_eq {a b : String} : (Str.ofString a = Str.ofString b) = (a = b) := propext ⟨ofStr_inj, fun h => h ▸ rfl⟩
end Sh
namespace Sh
open PySem PyProof.Rows L2
theorem dMul_L {a b : Int} (h : -(2 ^ 64) < a ∧ a < 2 ^ 64) : dMul (.int a) (.int b) = some (.int (a * b)) := by
  show alt2 (oI CMul _) _ (.int a) (.int b) = _
  unfold alt2 oI
  dsimp only
  rw [if_pos (show CMul a b from .inl h)]
theorem dMul_R {a b : Int} (h : -(2 ^ 64) < b ∧ b < 2 ^ 64) : dMul (.int a) (.int b) = some (.int (a * b)) := by
  show alt2 (oI CMul _) _ (.int a) (.int b) = _
  unfold alt2 oI
  dsimp only
  rw [if_pos (show CMul a b from .inr h)]
theorem dAdd_I {a b : Int} : dAdd (.int a) (.int b) = some (.int (a + b)) := rfl
theorem dSub_I {a b : Int} : dSub (.int a) (.int b) = some (.int (a - b)) := rfl
theorem dMod_I {a b : Int} (h : 0 < b) : dMod (.int a) (.int b) = some (.int (a % b)) := by
  unfold dMod oI
  dsimp only
  rw [if_pos h]
theorem dFdiv_I {a b : Int} (h : 0 < b) (hb : b < 2 ^ 64) : dFdiv (.int a) (.int b) = some (.int (a / b)) := by
  unfold dFdiv oI
  dsimp only
  rw [if_pos (show CDivW a b from Nk.c_divW h (by omega))]
theorem dPow_I {a b : Int} (h : 0 ≤ b ∧ b ≤ 1000000) (ha : -(2 ^ 63) ≤ a ∧ a < 2 ^ 63) : dPow (.int a) (.int b) = some (.int (a ^ b.toNat)) := by
  unfold dPow oI
  dsimp only
  rw [if_pos (show CPow a b from Nk.c_pow h ha)]
theorem dLt_I {a b : Int} : dLt (.int a) (.int b) = some (.bl (decide (a < b))) := rfl
theorem dLe_I {a b : Int} : dLe (.int a) (.int b) = some (.bl (decide (a ≤ b))) := rfl
theorem dGt_I {a b : Int} : dGt (.int a) (.int b) = some (.bl (decide (b < a))) := rfl
theorem dGe_I {a b : Int} : dGe (.int a) (.int b) = some (.bl (decide (b ≤ a))) := rfl
theorem dInt_I {a : Int} : dInt [.int a] = some (.int a) := rfl
theorem dInt_B {a : Bool} : dInt [.bl a] = some (.int (if a then 1 else 0)) := rfl
theorem dAbs_I {a : Int} : dAbs [.int a] = some (.int (if a < 0 then -a else a)) := rfl
theorem dLen_L {xs : List D} : dLen [.lst xs] = some (.int xs.length) := rfl
theorem pys_ints (xs : List Int) : D.pys (xs.map D.int) = some (xs.map PyData.int) := by
  induction xs with
  | nil => rfl
  | cons x r ih => simp only [List.map_cons, D.pys, D.py, ih]
theorem ix_L {xs : List D} {k : Int} : D.ix (.lst xs) (.int k) = atI xs k := by
  show (match atI xs k with | some d => some d | none => _) = _
  cases atI xs k <;> rfl
theorem at0 {a b c : D} : atI [a, b, c] 0 = some a := rfl
theorem at1 {a b c : D} : atI [a, b, c] 1 = some b := rfl
theorem at2 {a b c : D} : atI [a, b, c] 2 = some c := rfl
theorem ixN0 : ixN 3 0 = some 0 := rfl
theorem ixN1 : ixN 3 1 = some 1 := rfl
theorem ixN2 : ixN 3 2 = some 2 := rfl
end Sh
namespace Sh
open PySem PySem.Spec PyProof.Rows L2 Nk StX
variable [TabSet]
theorem entry {K : PySem.W.Frag} {H : Hp} {a : Addr} {ns : List Int} {f : List D → Store → R D} (hT : LamX.Tabs (TabSet.TS K) H) (hS : SqL K H a (ns.map V.int)) (hl : ns.length ≤ 63) (h : ∃ S, f [.scr (ns.map D.int)] [] = .ok (.bl true) S) : spSh K f [.ref a] H (fun v _ => v = .bl true) (fun _ _ _ => False) := by
  obtain ⟨S, e⟩ := h
  refine ⟨fun _ => False, [], [], [.scr (ns.map D.int)], ⟨fun _ h => h.elim, List.nodup_nil, fun _ h => (List.not_mem_nil h).elim, fun _ h => h.elim (fun h => (List.not_mem_nil h).elim) fun h => (List.not_mem_nil h).elim, fun i j x h => by simp at h, fun _ h => (List.not_mem_nil h).elim, rfl, fun n x c h1 h2 => by simp at h1, hT, fun a z => z.elim (fun h => h.elim) fun h => h.elim (fun h => (List.not_mem_nil h).elim) fun h => (List.not_mem_nil h).elim⟩, reps_cons ?_ reps_nil, ?_⟩
  · unfold Rep
    refine ⟨a, ns.map V.int, rfl, ⟨?_, by rw [List.length_map]; exact Nat.le_trans hl (by decide)⟩, reps_ints ns⟩
    rcases hS with h | h
    · refine .inl ⟨?_, h⟩
      rintro (z | z | z)
      · exact z
      · exact List.not_mem_nil z
      · exact List.not_mem_nil z
    · exact .inr h
  · rw [e]
    intro v m' H' f c r
    unfold Rep at r
    exact r
end Sh
namespace Sh
open PySem L2
theorem forD_cons {g : Tg} {b : Sy} {d : D} {ds : List D} {e : En} {S : Store} : forD g b (d :: ds) e S = match g d e with | none => .no | some e1 => (b e1 S).turn (forD g b ds) := rfl
theorem forD_nil {g : Tg} {b : Sy} {e : En} {S : Store} : forD g b [] e S = .nx e S := rfl
theorem mapA_cons {g : Tg} {t : Sx Bool} {f : Sx D} {acc : List D} {d : D} {ds : List D} {e : En} {S : Store} : mapA g t f acc (d :: ds) e S = match g d e with | none => .no | some e1 => (t e1 S).bind fun c S1 => if c = true then (f e1 S1).bind fun y S2 => mapA g t f (acc ++ [y]) ds e S2 else mapA g t f acc ds e S1 := rfl
theorem mapA_nil {g : Tg} {t : Sx Bool} {f : Sx D} {acc : List D} {e : En} {S : Store} : mapA g t f acc [] e S = .ok acc S := rfl
theorem mapA_map {g : Tg} {f : Sx D} {e : En} {S : Store} (k : D → D) : ∀ (ds acc : List D), (∀ d ∈ ds, ∃ e1, g d e = some e1 ∧ f e1 S = .ok (k d) S) → mapA g tYesD f acc ds e S = .ok (acc ++ ds.map k) S
  | [], acc, _ => by rw [mapA_nil, List.map_nil, List.append_nil]
  | d :: ds, acc, h => by
    obtain ⟨e1, h1, h2⟩ := h d List.mem_cons_self
    rw [mapA_cons, h1]
    show (R.ok true S).bind _ = _
    rw [ok_bind, if_pos rfl, h2, ok_bind, mapA_map k ds (acc ++ [k d]) fun d hd => h d (List.mem_cons_of_mem _ hd), List.append_assoc]
    rfl
end Sh
namespace Sh
open PySem PySem.Spec PyProof.Rows L2 Nk
variable [TabSet] [BasePred]
def D.pyq : D → Option PyData
  | .dk [] => some (.dict [])
  | d => d.py
def dRepr : List D → Option D
  | [x] => match x.pyq with
    | some p => if p.showable = true ∧ p.depth ≤ 60 ∧ p.shown.length ≤ sizeLine then some (.str p.shown) else none
    | none => none
  | _ => none
theorem rep_pyq {w : Wo} : ∀ {d : D} {v : V} {p : PyData}, Rep w d v → d.pyq = some p → Dq w.K w.H v p := by
  intro d v p r e
  unfold D.pyq at e
  split at e
  · cases e
    unfold Rep at r
    obtain ⟨a, vs, rfl, _, h, k⟩ := r
    unfold RepK at k
    subst k
    exact .dic h
  · exact .of (rep_dp _ r e).1
section
variable {K : PySem.W.Frag} {X : Cx}
theorem calls_repr (hK : X.K = K) (hgd : X.A.guards = some []) (hu : X.A.units + 64 < cLine) : CallS K X (.builtin "repr") dRepr := by
  subst hK
  refine ⟨_, call_reprG hgd hu, fun w hw hf xs ds Q r q => ?_⟩
  unfold dRepr at q
  split at q
  · rename_i x
    obtain ⟨v, rfl, r1⟩ := reps1 r rfl
    cases e : x.pyq with
    | none => rw [e] at q; exact (q : False).elim
    | some p =>
      rw [e] at q
      dsimp only at q
      obtain ⟨h, q⟩ := Pz.ite q
      exact ⟨v, p, rfl, hw ▸ rep_pyq r1 e, h.1, h.2.1, h.2.2, Pz.here q (rep_str h.2.2)⟩
  · exact (q : False).elim
end
section
variable {K : PySem.W.Frag} {P : Program} {w : World} {mg : Str → Option Value} {base : Heap}
theorem dg_sh {x qual : Str} {st : Stmt} {fa : Addr} {N ps : List Str} {lv n k : Nat} {f : Sy} (F : ∃ fd, FunD K x qual (defArgs st) (defBody st) (defScope st) [] [] fa fd) (hm : mg x = some (.ref fa)) (S : FnScope N ps (defScope st))
    (hb : ∀ (kV doc pm : Value) (an : Option Addr) (cdv ct : Value) (us : List Value), us.length = ps.length → bindArgs (PySem.W.fnOf x qual (defArgs st) (defBody st) (defScope st) .none kV doc pm an cdv ct) ⟨us, []⟩ = pure (ps.zip us)) (hn : ps.length = n) (hN : N.length = n + k) (hφ : ∀ b, BasePred.Φ b)
    (hbody : ∀ (cdv : Value) (A : Around) (outer : List Env) (s : Shared) (H : Hp) (E : XK), A.guards = some [] → Room lv (A.deeper (envOfC qual (defScope st) s.heap.objs.size fa cdv)) →
      Ess K (cxOf (L2.CX P w) P w K mg base N qual (defScope st) fa cdv A outer s H E) (fun c d _ H => E c d H) (defBody st) f) : Dg P w K mg base x (lv + 1) ps (spSh K (runD n k f)) :=
  dg_mk F hm S hb (fun vs H Q E h => by rw [spSh_len h, hn]) fun cdv A outer s H vs Q E hgd hr hsp => body_of hφ hN (hbody cdv A outer s H E hgd hr) hsp
end
section
variable {K : PySem.W.Frag} {X : Cx} {W : WX} {ex : Expr} {es : List Expr} {a : Sx (List D)} {pos p : Pos} {lv j : Nat} {x : Str} {ps : List Str} {sp : Sp} {F : List D → Store → R D}
theorem x_dg (hgd : X.A.guards = some []) (hd : Dg X.prog X.w X.K X.mg X.base x lv ps sp) (hs : Shp K sp F) (hr : Room j X.A) (hk : lv ≤ j) (hg : Gl X x) (tk : Takes X W) (ha : Ea K X W (ex :: es) a)
    (hdb : (x == ("__debug__" : Str)) = false := by decide) (he : starEach (ex :: es) X.env = (false, eval ex X.env) :: starEach es X.env := by rfl) (hpl : (backTo pos (starEach es X.env)).any (·.1) = false := by rfl) : Ev K X W (.Call (.Name x p) (ex :: es) [] pos) (eDf F a) := by
  obtain ⟨ta, p1, h1⟩ := ha.run
  exact ⟨_, pe_dg hd hgd hr hk hg tk p1 hdb he hpl, fun b m ow H σ e S Q t q => h1 b m ow H σ e S _ t (Post.bind q fun ds S1 vs m1 H1 f1 c1 rx q => hs.at c1 rx q)⟩
end
end Sh
namespace Sh
open PySem PySem.Spec PyProof.Rows L2 Nk
variable [TabSet] [BasePred]
section
variable {K : PySem.W.Frag} {B : Addr → Prop} {m : List Addr} {ow : List (Option Addr)} {H : Hp}
def PostO (K : PySem.W.Frag) (B : Addr → Prop) (ow : List (Option Addr)) (m : List Addr) (H : Hp) (RP : Wo → α → β → Prop) (W : Value → Option Addr → Hp → Prop) (Q : β → Hp → Prop) : R α → Prop
  | .ok y S' => ∀ a m' H', Fut m H m' H' → Cells K B m' ow H' S' → RP (wo K B m' [] H') y a → Q a H'
  | .er x S' => ∀ c d m' H', Fut m H m' H' → Cells K B m' ow H' S' → ExR (wo K B m' ow H') x c d → W c d H'
  | .no => False
end
section
variable {K : PySem.W.Frag} {B : Addr → Prop} {m m' : List Addr} {ow : List (Option Addr)} {H H' : Hp} {α β γ δ : Type} {RP : Wo → β → α → Prop} {RP2 : Wo → δ → γ → Prop} {W : Value → Option Addr → Hp → Prop} {Q : α → Hp → Prop} {Q2 : γ → Hp → Prop}
theorem PostO.go {r : R β} (h : PostO K B ow m H RP W Q r) (f : Fut m H m' H') : PostO K B ow m' H' RP W Q r := by
  cases r with
  | ok y S' => exact fun a m2 H2 f2 => h a m2 H2 (f.trans f2)
  | er x S' => exact fun c d m2 H2 f2 => h c d m2 H2 (f.trans f2)
  | no => exact h
theorem PostO.bind {r : R β} {k : β → Store → R δ} (h : PostO K B ow m H RP2 W Q2 (r.bind k)) (g : ∀ y S' a m' H', Fut m H m' H' → Cells K B m' ow H' S' → RP (wo K B m' [] H') y a → PostO K B ow m' H' RP2 W Q2 (k y S') → Q a H') : PostO K B ow m H RP W Q r := by
  cases r with
  | ok y S' => exact fun a m2 H2 f2 c2 r2 => g y S' a m2 H2 f2 c2 r2 (PostO.go h f2)
  | er x S' => exact h
  | no => exact h
end
end Sh
namespace Sh
open PySem PySem.Spec PyProof.Rows L2 Nk StX
section
variable {X : Cx} {k j : Nat} {C f : Addr} {ps : List Str} {sp : Sp} {W : WX} {ta : TE}
def tGetO (C : Addr) (sp : Sp) (W : WX) (ta tb : TE) : TE := fun σ H Q => ta σ H fun x H1 => tb σ H1 fun y H2 => ∃ a dx fs, x = .ref a ∧ H2 a = some (.ins C dx fs) ∧ sp [x, y] H2 Q (WE W σ)
theorem pe_getO {a b : Expr} {tb : TE} {pos : Pos} (T : OwnM X.K C "__getitem__" f) (hfi : PySem.W.fnIn X.K f = true) (F : Fs X.prog X.w X.K X.mg X.base f k sp) (hr : Room j X.A) (hk : k + 1 ≤ j) (tk : Takes X W)
    (ha : PE X a ta) (hb : PE X b tb) (hsl : ∀ v u, subscripted b true v u = runValue (.builtin "lifetime.subscript" ⟨[v, u], []⟩) := by intro _ _; with_unfolding_all rfl) : PE X (.Subscript a b pos) (tGetO C sp W ta tb) := by
  refine ⟨fun pins s σ H Q I h => ?_⟩
  refine Subscript_ (binT ha hb I (R := fun x y H2 => ∃ a dx fs, x = .ref a ∧ H2 a = some (.ins C dx fs) ∧ sp [x, y] H2 Q (WE W σ)) h fun v u s2 x y H2 I2 rx ry q => ?_)
  obtain ⟨a, dx, fs, rfl, ea, hsp⟩ := q
  cases rx
  obtain ⟨mA, O, _⟩ := ins_get I2.hok ea
  obtain ⟨od, J, _⟩ := O.look
  obtain ⟨m, hF⟩ := I2.fr
  refine PySem.W.sub_K hF I2.ok.mod.kin J T.at_ hfi T.fn ?_ (hsl _ _)
  refine wpAny_call (codeAny_mono (F X.A.in1 X.stack s2 H2 [Value.ref a, u] [.ref a, y] Q (WE W σ) (hr.mono hk).in1 (Env0.within I2.env0 rfl) (.cons rfl (.cons ry .nil)) hsp) fun r s' hq => ?_)
  match r, hq with
  | .error e, hq => exact passAt tk σ pins H2 s2 e s' I2 hq
  | .ok (.ret u), hq => exact I2.after hq
  | .ok .next, hq => exact False.elim hq
  | .ok .brk, hq => exact False.elim hq
  | .ok .cont, hq => exact False.elim hq
def rInO (neg : Bool) (C : Addr) (sp : Sp) : R2 := fun y x H Q => ∃ a dx fs, x = .ref a ∧ H a = some (.ins C dx fs) ∧ sp [x, y] H (fun v H' => ∃ b, v = .bl b ∧ Q (.bl (if neg then !b else b)) H') noE
theorem op_inO (T : OwnM X.K C "__contains__" f) (F : Fs X.prog X.w X.K X.mg X.base f k sp) (hr : Room j X.A) (hk : k ≤ j) : OpR X (compareOp .In) (rInO false C sp) := by
  intro pins s σ H y x u v Q I ry rx h
  obtain ⟨a, dx, fs, rfl, ea, hsp⟩ := h
  cases rx
  obtain ⟨mA, O, _⟩ := ins_get I.hok ea
  obtain ⟨od, J, _⟩ := O.look
  obtain ⟨m, hF⟩ := I.fr
  refine PySem.W.in_K hF I.ok.mod.kin J T.at_ T.fn ?_
  refine wpAny_mono (wpAny_call (run_fnR (us := [Value.ref a, u]) (vs := [.ref a, y]) F (hr.mono hk) (passes_call (W := fun _ _ _ _ => False) LamX.takes0 fun _ _ _ _ z => z) I (.cons rfl (.cons ry .nil)) hsp)) (fun v s' hv => ?_) fun _ _ z => z
  obtain ⟨z, H', I', rz, b, rfl, q⟩ := hv
  cases rz
  exact wpAny_truthy_bool ⟨.bl b, H', I', rfl, q⟩
theorem fnIn_of {K : PySem.W.Frag} {x qual : Str} {params : Arguments} {body : List Stmt} {scope : Scope} {f : Addr} (F : ∃ fd, FunD K x qual params body scope [] [] f fd) : PySem.W.fnIn K f = true := by
  obtain ⟨fd, F⟩ := F
  obtain ⟨oc, od, dV, kV, doc, pm, an, cdv, ct, osl, rfl, lk, hcd, _, _⟩ := F.ex
  unfold PySem.W.fnIn
  rw [lk]
end
variable [TabSet] [BasePred]
def eGi (c : String) (F : List D → Store → R D) (f g : Sx D) (e : En) (S : Store) : R D := (f e S).bind fun x S1 => (g e S1).bind fun y S2 => if x.isO c S2 = true then F [x, y] S2 else .no
def oInO (neg : Bool) (c : String) (F : List D → Store → R D) (x : D) (y : D) (S : Store) : R D := if y.isO c S = true then (F [y, x] S).clean.bind fun z S1 => R.of S1 (z.b.map fun b => .bl (if neg then !b else b)) else .no
section
variable {K : PySem.W.Frag} {X : Cx} {W : WX} {ex ex2 : Expr} {f g : Sx D} {pos p pos' : Pos} {i lv j : Nat} {x m : Str} {ps : List Str} {sp : Sp} {F : List D → Store → R D} {bi cs : List String} {c : String} {fa : Addr} {tg : Expr} {fd : Str}
theorem x_gi (hK : X.K = K) (T : OwnM K (He.ga K c) "__getitem__" fa) (hfi : PySem.W.fnIn K fa = true) (hF : Fs X.prog X.w K X.mg X.base fa lv sp) (hs : Shp K sp F) (hr : Room j X.A) (hk : lv + 1 ≤ j) (tk : Takes X W)
    (hf : Ev K X W ex f) (hg : Ev K X W ex2 g) (hsl : ∀ v u, subscripted ex2 true v u = runValue (.builtin "lifetime.subscript" ⟨[v, u], []⟩) := by intro _ _; with_unfolding_all rfl) : Ev K X W (.Subscript ex ex2 pos) (eGi c F f g) := by
  subst hK
  obtain ⟨ta, p1, h1⟩ := hf.run
  obtain ⟨tb, p2, h2⟩ := hg.run
  refine ⟨_, pe_getO T hfi hF hr hk tk p1 p2 hsl, fun b m ow H σ e S Q t q => h1 b m ow H σ e S _ t (Post.bind q fun x S1 v m1 H1 f1 c1 rx q => h2 b m1 ow H1 σ e S1 _ (t.go f1 c1) (Post.bind q fun y S2 u m2 H2 f2 c2 ry q => ?_))⟩
  split at q
  · rename_i hi
    have rx := Rep.le f2.le x rx
    obtain ⟨a, dx, fs, rfl, hH⟩ := isO_at c2 rx hi
    exact ⟨a, dx, fs, rfl, hH, hs.at c2 (reps_cons rx (reps_cons ry reps_nil)) q⟩
  · exact q.elim
theorem in_at {neg : Bool} {B : Addr → Prop} {m : List Addr} {ow : List (Option Addr)} {H : Hp} {S : Store} {x y : V} {dx dy : D} {Q : VK} {Wp : Value → Option Addr → Hp → Prop} (hs : Shp K sp F) (cl : Cells K B m ow H S) (rx : Rep (wo K B m ow H) dx x) (ry : Rep (wo K B m ow H) dy y) (q : Post K B ow m H Rep Wp Q (oInO neg c F dx dy S).clean) : rInO neg (He.ga K c) sp x y H Q := by
  unfold oInO at q
  split at q
  · rename_i hi
    obtain ⟨a, ddx, fs, rfl, hH⟩ := isO_at cl ry hi
    refine ⟨a, ddx, fs, rfl, hH, hs.at cl (reps_cons ry (reps_cons rx reps_nil)) ?_⟩
    cases r : F [dy, dx] S with
    | no => rw [r] at q; exact q.elim
    | er z S2 => rw [r] at q; exact q.elim
    | ok z S2 =>
      rw [r] at q
      cases z <;> try exact q.elim
      rename_i b
      intro v m2 H2 f2 c2 r2
      unfold Rep at r2
      subst r2
      exact ⟨b, rfl, q _ m2 H2 f2 c2 rep_bl⟩
  · exact q.elim
theorem oe_in (hK : X.K = K) (T : OwnM K (He.ga K c) "__contains__" fa) (hF : Fs X.prog X.w K X.mg X.base fa lv sp) (hs : Shp K sp F) (hr : Room j X.A) (hk : lv ≤ j) : OpE K X (compareOp .In) (oInO false c F) := by
  subst hK
  exact ⟨_, op_inO T hF hr hk, fun B m ow H S x y dx dy Q W cl rx ry q => in_at hs cl rx ry q⟩
end
end Sh
namespace Sh
open PySem PySem.Spec PyProof.Rows L2 Nk StX
variable [TabSet] [BasePred]
def insS (x : Str) : List Str → List Str
  | [] => [x]
  | y :: r => if x.cps.toList ≤ y.cps.toList then x :: y :: r else y :: insS x r
def srtS : List Str → List Str
  | [] => []
  | x :: r => insS x (srtS r)
theorem insS_perm (x : Str) : ∀ l, (insS x l).Perm (x :: l)
  | [] => .refl _
  | y :: r => by
    unfold insS
    split
    · exact .refl _
    · exact ((insS_perm x r).cons y).trans (.swap x y r)
theorem srtS_perm : ∀ l, (srtS l).Perm l
  | [] => .refl _
  | x :: r => by
    unfold srtS
    exact (insS_perm x _).trans ((srtS_perm r).cons x)
theorem pw_of_rising : ∀ (p : Str) (l : List Str), risingS p l = true → (p :: l).Pairwise (fun a b => a.cps.toList ≤ b.cps.toList)
  | p, [], _ => List.pairwise_singleton _ _
  | p, x :: r, h => by
    have h : (!ltCps x.cps.toList p.cps.toList && risingS x r) = true := h
    rw [Bool.and_eq_true, ltCps_eq] at h
    have h2 := pw_of_rising x r h.2
    have hx : p.cps.toList ≤ x.cps.toList := by
      have := h.1
      simp only [Bool.not_eq_true', decide_eq_false_iff_not] at this
      exact List.not_lt.mp this
    refine List.pairwise_cons.mpr ⟨fun y hy => ?_, h2⟩
    rcases List.mem_cons.mp hy with rfl | hy
    · exact hx
    · exact List.le_trans hx (List.rel_of_pairwise_cons h2 hy)
theorem pw_of_sorted : ∀ (l : List Str), sortedS l = true → l.Pairwise (fun a b => a.cps.toList ≤ b.cps.toList)
  | [], _ => .nil
  | x :: r, h => pw_of_rising x r h
theorem insS_pw (x : Str) : ∀ l : List Str, l.Pairwise (fun a b => a.cps.toList ≤ b.cps.toList) → (insS x l).Pairwise (fun a b => a.cps.toList ≤ b.cps.toList)
  | [], _ => List.pairwise_singleton _ _
  | y :: r, h => by
    unfold insS
    split
    · rename_i hxy
      refine List.pairwise_cons.mpr ⟨fun z hz => ?_, h⟩
      rcases List.mem_cons.mp hz with rfl | hz
      · exact hxy
      · exact List.le_trans hxy (List.rel_of_pairwise_cons h hz)
    · rename_i hxy
      have hyx : y.cps.toList ≤ x.cps.toList := (List.le_total _ _).resolve_left hxy
      refine List.pairwise_cons.mpr ⟨fun z hz => ?_, insS_pw x r (List.pairwise_cons.mp h).2⟩
      rcases List.mem_cons.mp ((insS_perm x r).mem_iff.mp hz) with rfl | hz
      · exact hyx
      · exact List.rel_of_pairwise_cons h hz
theorem srtS_pw : ∀ l : List Str, (srtS l).Pairwise (fun a b => a.cps.toList ≤ b.cps.toList)
  | [] => .nil
  | x :: r => insS_pw x _ (srtS_pw r)
theorem str_ext {a b : Str} (h : a.cps.toList = b.cps.toList) : a = b := by
  cases a; cases b; congr; exact Array.toList_inj.mp h
theorem srt_uniq (xs ys : List Str) (hp : ys.Perm xs) (hs : sortedS ys = true) : ys = srtS xs :=
  (hp.trans (srtS_perm xs).symm).eq_of_pairwise (fun a b _ _ h1 h2 => str_ext (List.le_antisymm h1 h2)) (pw_of_sorted ys hs) (srtS_pw xs)
def dSorted : List D → Option D
  | [.lst xs] => match D.strs xs with
    | some ys => if ys.length < 64 then some (.lst ((srtS ys).map .str)) else none
    | none => none
  | _ => none
section
variable {K : PySem.W.Frag} {X : Cx}
theorem strs_short {w : Wo} : ∀ {ds : List D} {vs : List V} {ys : List Str}, Reps w ds vs → D.strs ds = some ys → ∀ y ∈ ys, y.length ≤ sizeLine
  | [], vs, ys, r, e, y, hy => by unfold D.strs at e; cases e; cases hy
  | d :: ds, vs, ys, r, e, y, hy => by
    unfold Reps at r
    obtain ⟨v, us, rfl, a, r⟩ := r
    cases d <;> unfold D.strs at e <;> try cases e
    rename_i x
    cases h2 : D.strs ds with
    | none => rw [h2] at e; cases e
    | some zs =>
      rw [h2] at e
      cases e
      rcases List.mem_cons.mp hy with rfl | hy
      · exact (rep_strD a).2
      · exact strs_short r h2 y hy
theorem calls_sorted (hK : X.K = K) : CallS K X (.builtin "sorted") dSorted := by
  subst hK
  refine ⟨_, cr_sortedS, fun w hw hf xs ds Q r q => ?_⟩
  unfold dSorted at q
  split at q
  · rename_i xs
    obtain ⟨v, rfl, r1⟩ := reps1 r rfl
    obtain ⟨a, vs, rfl, t, r2⟩ := rep_list r1
    cases e : D.strs xs with
    | none => rw [e] at q; exact (q : False).elim
    | some ys =>
      rw [e] at q
      dsimp only at q
      obtain ⟨h, q⟩ := Pz.ite q
      have e2 := reps_strs r2 e
      subst e2
      refine ⟨a, ys, rfl, hw ▸ t.sq, h, fun zs p hp hz hn => ?_⟩
      have := srt_uniq ys zs hp hz
      subst this
      refine q _ _ (same_mut (Same.refl _) hn) (rep_lst hf hn (by rw [List.length_map, hp.length_eq]; exact Nat.le_trans (Nat.le_of_lt h) (by decide)) ?_)
      have hh : ∀ y ∈ ys, y.length ≤ sizeLine := fun y hy => strs_short r2 e y hy
      exact reps_ofStrs fun y hy => hh y (hp.mem_iff.mp hy)
  · exact (q : False).elim
end
end Sh
namespace Sh
open PySem PySem.Spec PyProof.Rows L2 Nk StX
variable [TabSet] [BasePred]
def isiC (bi : List String) (own : List (String × Bool)) (S : Store) : D → Option Bool
  | .ref n => match S[n]? with
    | some (.lst _) => some (bi.contains "list")
    | some (.dk _) => some (bi.contains "dict")
    | some (.fk _) => some (bi.contains "dict")
    | _ => none
  | d => isiF bi own d
def eIsiC (bi : List String) (own : List (String × Bool)) (f : Sx D) (e : En) (S : Store) : R D := (f e S).bind fun x S1 => R.of S1 ((isiC bi own S1 x).map .bl)
theorem x_isiC {K : PySem.W.Frag} {X : Cx} {W : WX} {ex ex2 : Expr} {f : Sx D} {pos p : Pos} {T : Value} {vT : V} {bi : List String} {own : List (String × Bool)} (hK : X.K = K) (hg : Gl X "isinstance") (hm : X.mg "isinstance" = none) (hf : Ev K X W ex f) (hT : PE X ex2 (tC vT)) (ok : IsiOk K T bi own) (hv : ClsV vT T)
    (he : starEach [ex, ex2] X.env = (false, eval ex X.env) :: starEach [ex2] X.env := by rfl) (he2 : starEach [ex2] X.env = (false, eval ex2 X.env) :: starEach [] X.env := by rfl) (hpl : (backTo pos (starEach [ex2] X.env)).any (·.1) = false := by rfl) : Ev K X W (.Call (.Name "isinstance" p) [ex, ex2] [] pos) (eIsiC bi own f) := by
  subst hK
  obtain ⟨te, p1, h1⟩ := hf.run
  refine ⟨_, pe_callB call_isi hg hm (by decide +kernel) (pa_cons p1 (pa_cons hT pa_nil he2) he) (by decide) (by decide) he hpl, fun b m ow H σ e S Q t q => h1 b m ow H σ e S _ t (Post.bind q fun d S1 v m1 H1 f1 c1 rx q => ?_)⟩
  cases e : isiC bi own S1 d with
  | none => rw [e] at q; exact q.elim
  | some r =>
    rw [e] at q
    have : ∃ t, TyX X.K H1 v t ∧ PySem.W.kitOne X.K t T = some r := by
      unfold isiC at e
      split at e
      · rename_i n
        unfold Rep at rx
        obtain ⟨a, rfl, hm⟩ := rx
        split at e
        · rename_i ds s
          cases e
          obtain ⟨vs, hH, hl, r⟩ := c1.cs n a _ hm s
          exact ⟨_, .base (.lst hH), ok.b _ (by decide)⟩
        · rename_i kvs s
          cases e
          obtain ⟨vs, hH, r⟩ := c1.cs n a _ hm s
          exact ⟨_, .base (.dK hH), ok.b _ (by decide)⟩
        · rename_i kvs s
          cases e
          obtain ⟨vs, o, hH, r⟩ := c1.cs n a _ hm s
          exact ⟨_, .fDict hH, ok.b _ (by decide)⟩
        · cases e
      · exact isi_at ok (w := wo X.K b.B m1 ow H1) rfl rx e
    obtain ⟨t, h2, h3⟩ := this
    exact ⟨v, vT, t, T, r, rfl, hv, h2, h3, q.val c1 rep_bl⟩
def sPar (i j : Nat) (a : Sx (List D)) (e : En) (S : Store) : RS := (a e S).run e fun xs S1 => match xs with
  | [x, y] => if notOwn i e = true ∧ notOwn j (e.set i (.val x)) = true then .nx ((e.set i (.val x)).set j (.val y)) S1 else .no
  | _ => .no
theorem s_par {K : PySem.W.Frag} {X : Cx} {W : WX} {ex ex2 : Expr} {a : Sx (List D)} {i j : Nat} {x y : Str} {px py pt pos : Pos} {kt k2 pt2} (hc : X.calm = true) (hN : X.N.Nodup) (hi : X.N[i]? = some x) (hj : X.N[j]? = some y) (hij : i ≠ j)
    (hx : X.env.scope.names.lookup x = some .local) (hy : X.env.scope.names.lookup y = some .local) (ha : Ea K X W [ex, ex2] a)
    (hw : swappedStores [.Tuple [.Name x px, .Name y py] kt pt] (.Tuple [ex, ex2] k2 pt2) X.env = pure (some [x, y]))
    (hs : swapsWithSole [.Tuple [.Name x px, .Name y py] kt pt] (.Tuple [ex, ex2] k2 pt2) pos.line X.env = pure false := by rfl) : Es K X W (.Assign [.Tuple [.Name x px, .Name y py] kt pt] (.Tuple [ex, ex2] k2 pt2) pos) (sPar i j a) := by
  obtain ⟨ta, p1, h1⟩ := ha.run
  refine ⟨_, ps_par hc hN hi hj hij hx hy p1 hw hs, fun b m ow H σ e S D t z => h1 b m ow H σ e S _ t (PostS.run t z fun xs S' vs m' H' t' f' r z => ?_)⟩
  split at z
  · rename_i d1 d2
    split at z
    · rename_i hn
      unfold Reps at r
      obtain ⟨v1, us, rfl, r1, r⟩ := r
      unfold Reps at r
      obtain ⟨v2, us, rfl, r2, r⟩ := r
      unfold Reps at r
      subst r
      exact ⟨v1, v2, rfl, z _ m' _ H' ((t'.set' hn.1 r1).set' hn.2 r2) (Le.refl _)⟩
    · exact z.elim
  · exact z.elim
end Sh
namespace Sh
open PySem PySem.Spec PyProof.Rows L2 Nk StX
variable [TabSet] [BasePred]
section
variable {K : PySem.W.Frag} {X : Cx} {n : Nat} {cs : List String} {Fs : List (String × (List D → Store → R D))}
theorem nf_nil {C : Addr} : ∀ c' ∈ ([] : List String), PySem.W.notFirst K C (.ref (He.ga K c')) = true := fun _ h => nomatch h
end
end Sh
namespace Sh
open PySem PySem.Spec PyProof.Rows L2 Nk StX
variable [TabSet] [BasePred]
section
variable {K : PySem.W.Frag} {B : Addr → Prop} {m m' : List Addr} {ow : List (Option Addr)} {H H' H0 : Hp} {S S' : Store} {a : Addr} {σ : L2.St} {e : En}
theorem le_back (ha : some a ∈ ow) : Le (wo K B m ow H) (wo K (fun x => B x ∨ x = a) m [] H) := ⟨rfl, fun x o _ _ z => by
  rintro ((h | h) | h | h)
  · exact z (.inl h)
  · exact z (.inr (.inr (h ▸ ha)))
  · exact z (.inr (.inl h))
  · exact (List.not_mem_nil h).elim, fun _ _ e => e, fun _ _ e _ _ => e, fun _ _ _ e => e⟩
theorem Cells.back (ha : some a ∈ ow) (c : Cells K B m ow H S) : Cells K (fun x => B x ∨ x = a) m [] H S := by
  refine ⟨fun x hx => hx.elim (c.hB x) fun h => h ▸ c.oh a ha, c.nd, fun x _ h => (List.not_mem_nil h).elim, fun x hx z => ?_, fun i j x h => by simp at h, fun x h => (List.not_mem_nil h).elim, c.len, fun n x y h1 h2 => (c.cs n x y h1 h2).le (le_back ha) fun o e _ => e, c.tb, fun x z => z.elim (fun h => h.elim (fun h => c.nt x (.inl h)) fun h => c.nt x (.inr (.inr (h ▸ ha)))) fun h => h.elim (fun h => c.nt x (.inr (.inl h))) fun h => (List.not_mem_nil h).elim⟩
  rcases hx with hx | hx
  · rcases z with z | z
    · exact c.nB x (.inl hx) z
    · exact c.no x hx (z ▸ ha)
  · exact (List.not_mem_nil hx).elim
theorem fut_offR {X : Hp} (f : Fut m X m' H) (h : Fr X a) : Fut m X m' (off a H) := by
  obtain ⟨p, k, d, kf⟩ := f
  refine ⟨p, fun x o e n hm => ?_, fun x hx => ?_, fun x o u e => by rw [off_ne (fun z : x = a => h.no (z ▸ e) fun _ z => by cases z)]; exact kf x o u e⟩
  · rw [off_ne (fun z => h.no (by rw [← z]; exact e) n)]
    exact k x o e n hm
  · by_cases z : x = a
    · exact z ▸ h
    · refine d x fun o e => hx o ?_
      rw [off_ne z]; exact e
theorem At.self {b : Bs} {c : String} {fs : List (Str × D)} (t : At K b m ow H σ e S) (hs : b.sf = some a) (f : Fut m (off a H) m' H') (cl : Cells K b.B m' ow H' S') (r : CRep (wo K b.B m' ow H') a (.ins c fs)) :
    At K b m' ow H' σ (e.set 0 (.own (.ins c fs))) S' := by
  obtain ⟨g1, g2, k1, fs1, g3⟩ := t.sf a hs
  have ha : some a ∈ ow := List.mem_of_getElem? g2
  have h0 : 0 < e.length := (List.getElem?_eq_some_iff.mp g3).1
  have keep : ∀ x o, H x = some o → (∀ ps, o ≠ .tbl ps) → x ≠ a → x ∉ m → H' x = some o := fun x o h n hx hm => f.keep x o (by rw [off_ne hx]; exact h) n hm
  have le : Le (wo K b.B m ow H) (wo K b.B m' ow H') := by
    obtain ⟨⟨q, rfl, hq⟩, _, _, kf⟩ := f
    have nz : ∀ o u, H a ≠ some (.frz o u) := by
      obtain ⟨a', h1, h2, h3⟩ := t.slots 0 _ g3
      rw [g2] at h2
      cases h2
      exact h3.nfz rfl
    refine ⟨rfl, fun x o ho n z => ?_, fun n x hx => ?_, fun x o ho n z => keep x o ho n (fun q => z (.inr (.inr (q ▸ ha)))) fun q => z (.inr (.inl q)), fun x o u h => kf x o u (by rw [off_ne (fun z : x = a => nz o u (z ▸ h))]; exact h)⟩
    · rintro (h | h | h)
      · exact z (.inl h)
      · rcases List.mem_append.mp h with h | h
        · exact z (.inr (.inl h))
        · have hxa : x ≠ a := fun q => z (.inr (.inr (q ▸ ha)))
          exact (hq x h).no (by rw [off_ne hxa]; exact ho) n
      · exact z (.inr (.inr h))
    · show (m ++ q)[n]? = some x
      have h : m[n]? = some x := hx
      rw [List.getElem?_append_left (List.getElem?_eq_some_iff.mp h).1]
      exact h
  refine ⟨cl, ⟨by rw [List.length_set]; exact t.len.1, by rw [List.length_set]; exact t.len.2⟩, fun i s hi => ?_, ?_, t.new, fun i x hx => ?_, fun x hx => ?_, t.ph⟩
  · cases i with
    | zero =>
      rw [List.getElem?_set_self h0] at hi
      cases hi
      exact ⟨a, g1, g2, r⟩
    | succ i =>
      rw [List.getElem?_set_ne (by omega)] at hi
      have h := t.slots (i + 1) s hi
      cases s with
      | no => exact True.intro
      | val d => obtain ⟨v, h1, h2⟩ := h; exact ⟨v, h1, Rep.le le d h2⟩
      | own x =>
        obtain ⟨a2, h1, h2, h3⟩ := h
        have ne : a2 ≠ a := fun z => by
          have := t.cells.od (i + 1) 0 a (z ▸ h2) g2
          omega
        exact ⟨a2, h1, h2, h3.le le fun o eo n => keep a2 o eo n ne fun hm => t.cells.no a2 hm (List.mem_of_getElem? h2)⟩
  · exact (fut_offR t.fut (t.new a ha)).trans f
  · cases i with
    | zero => exact ⟨_, by rw [List.getElem?_set_self h0]⟩
    | succ i =>
      obtain ⟨c, hc⟩ := t.oe (i + 1) x hx
      exact ⟨c, by rw [List.getElem?_set_ne (by omega)]; exact hc⟩
  · rw [hs] at hx
    cases hx
    exact ⟨g1, g2, c, fs, by rw [List.getElem?_set_self h0]⟩
end
end Sh
namespace Sh
open PySem PySem.Spec PyProof.Rows L2 Nk StX
variable [TabSet] [BasePred]
theorem At.hid {b : Bs} {m m' : List Addr} {ow : List (Option Addr)} {H H' : Hp} {σ : L2.St} {e : En} {S S' : Store} {p : Addr} {K : PySem.W.Frag} (t : At K b m ow H σ e S) (f : Fut m H m' H') (hp : Fr H p) (c : Cells K (fun x => b.B x ∨ x = p) m' ow H' S') : At K ⟨fun x => b.B x ∨ x = p, b.m0, b.H0, b.sf⟩ m' ow H' σ e S' ∧ Le (wo K b.B m ow H) (wo K (fun x => b.B x ∨ x = p) m' ow H') := by
  have lp : Le (wo K b.B m ow H) (wo K (fun x => b.B x ∨ x = p) m' ow H') := by
    refine ⟨rfl, fun a o e n z => ?_, fun n a e => f.le (K := K) (B := b.B) (ow := ow) |>.m n a e, fun a o e n z => f.keep a o e n fun hm => z (.inr (.inl hm)), f.fz⟩
    have z2 := f.le (K := K) (B := b.B) (ow := ow) |>.z a o e n z
    rintro ((h | h) | h | h)
    · exact z2 (.inl h)
    · exact hp.no (h ▸ e) n
    · exact z2 (.inr (.inl h))
    · exact z2 (.inr (.inr h))
  refine ⟨⟨c, t.len, fun j s hs => ?_, t.fut.trans f, t.new, t.oe, t.sf, BasePred.grow _ _ (t.fut.dom p hp) t.ph⟩, lp⟩
  have h := t.slots j s hs
  cases s with
  | no => exact True.intro
  | val d' => obtain ⟨u, h1, h2⟩ := h; exact ⟨u, h1, Rep.le lp d' h2⟩
  | own x =>
    obtain ⟨u, h1, h2, h3⟩ := h
    exact ⟨u, h1, h2, h3.le lp fun o e n => f.keep u o e n fun hm => t.cells.no u hm (List.mem_of_getElem? h2)⟩
end Sh
namespace Sh
open PySem PySem.Spec PyProof.Rows L2 Nk StX
variable [TabSet] [BasePred]
structure Eak (K : PySem.W.Frag) (X : Cx) (W : WX) (ks : List Keyword) (f : Sx (List D)) : Prop where
  run : ∃ ta, PK X ks ta ∧ ∀ b m ow H σ e S Q, At K b m ow H σ e S → Post K b.B ow m H Reps (fun c d => W c d σ) Q (f e S) → ta σ H Q
section
variable {K : PySem.W.Frag} {X : Cx} {W : WX} {ex ex2 : Expr} {ks : List Keyword} {f g : Sx D} {a : Sx (List D)} {nm : Option Str} {kp : Pos}
theorem ak_nil : Eak K X W [] aNil := ⟨_, pk_nil, fun b m ow H σ e S Q t q => q [] m H (Fut.refl _ _) t.cells reps_nil⟩
theorem ak_cons (hf : Ev K X W ex f) (ha : Eak K X W ks a) : Eak K X W (⟨nm, ex, kp⟩ :: ks) (aCons f a) := by
  obtain ⟨te, p1, h1⟩ := hf.run
  obtain ⟨ta, p2, h2⟩ := ha.run
  refine ⟨_, pk_cons p1 p2, fun b m ow H σ e S Q t q => h1 b m ow H σ e S _ t (Post.bind q fun d S1 v m1 H1 f1 c1 rx q => h2 b m1 ow H1 σ e S1 _ (t.go f1 c1) (Post.bind q fun ds S2 vs m2 H2 f2 c2 ry q => ?_))⟩
  exact q _ m2 H2 (Fut.refl _ _) c2 (reps_cons (Rep.le f2.le d rx) ry)
end
def FsK (P : Program) (w : World) (K : PySem.W.Frag) (mg : Str → Option Value) (base : Heap) (f : Addr) (k : Nat) (ks : List Str) (sp : Sp) : Prop :=
  ∃ (fd : FuncData) (ps : List Str) (g : List Value → List Value → List Value) (sp' : Sp) (gV : List V → List V → List V), FnOk P w K mg base (L2.CX P w) k f fd ps sp' ∧ KBn K fd ps 1 ks g gV ∧ ∀ x zs H Q E, sp (x :: zs) H Q E → sp' (gV [x] zs) H Q E
theorem fsK_mk {P : Program} {w : World} {K : PySem.W.Frag} {mg : Str → Option Value} {base : Heap} {f : Addr} {k : Nat} {ps : List Str} {sp : Sp} {ks : List Str} {gV : List V → List V → List V} (F : FoK P w K mg base f k ps sp 1 ks gV) : FsK P w K mg base f k ks (fun vs H Q E => ∃ x zs, vs = x :: zs ∧ sp (gV [x] zs) H Q E) := by
  obtain ⟨fd, g, F, hb⟩ := F
  exact ⟨fd, ps, g, sp, gV, F, hb, fun x zs H Q E h => by obtain ⟨x', zs', e, h⟩ := h; cases e; exact h⟩
def kwF (g : List D → List D) (F : List D → Store → R D) (ds : List D) (S : Store) : R D := match ds with
  | x :: zs => F (x :: g zs) S
  | _ => .no
section
variable {K : PySem.W.Frag} {sp : Sp} {F : List D → Store → R D} {G : Cell → List D → Store → R Cell} {g : List D → List D} {gv : List V → List V}
theorem shp_kw (hs : Shp K sp F) (hg : ∀ w ds vs, Reps w ds vs → Reps w (g ds) (gv vs)) : Shp K (fun vs H Q E => ∃ x zs, vs = x :: zs ∧ sp (x :: gv zs) H Q E) (kwF g F) := by
  intro B m S ds vs H Q E c r q
  cases ds with
  | nil => exact q.elim
  | cons x zs =>
    unfold Reps at r
    obtain ⟨v, us, rfl, a, b⟩ := r
    exact ⟨v, us, rfl, hs B m S _ _ H Q E c (reps_cons a (hg _ _ _ b)) q⟩
end
section
variable {X : Cx} {W : WX} {K : PySem.W.Frag} {ex2 : Expr} {g : Sx D} {a : Sx (List D)} {pos p apos : Pos} {lv j : Nat} {x m : Str} {sp : Sp} {ks : List Str} {kws : List Keyword} {c : String} {fp fa C : Addr} {mc : Value} {ta : TE} {tk : TA} {pl : Sem Bool}
theorem run_fsK {A : Around} {pins : List (Addr × Obj)} {σ : L2.St} {H : Hp} {s : Shared} {E : XK} {Q : VK} {v : V} {u : Value} {ws : List Value} {zs : List V} (F : FsK X.prog X.w X.K X.mg X.base fa lv ks sp) (hr : Room lv X.A) (hx : PassesAt (L2.CX X.prog X.w) X σ E) (I : Inv X pins σ H s) (rv : RelV v u) (r : Vals zs ws) (hl : zs.length = ks.length) (h : sp (v :: zs) H Q E) :
    codeAny (model X.prog X.w) X.A (.call (.ref fa) ⟨[u], ks.zip ws⟩) (fun r s' => match r with | .ok (.ret v) => EP X pins σ Q v s' | .ok _ => False | .error e => X.xe e s') s := by
  obtain ⟨fd, ps, gg, sp', gV, F, hb, hsp⟩ := F
  have r2 := hb.rel (.cons rv .nil) r
  refine codeAny_mono (F.run X.A X.stack s H ⟨[u], ks.zip ws⟩ (gg [u] ws) (gV [v] zs) Q E hr I.env0 (hb.to s [u] ws I.kIn rfl (r.length.symm.trans hl)) r2 (hsp _ _ _ _ _ h)) fun r s' hq => ?_
  cases r with
  | error e => exact hx pins H s e s' I hq
  | ok fl =>
    cases fl with
    | ret u => exact I.after hq
    | next => exact False.elim hq
    | brk => exact False.elim hq
    | cont => exact False.elim hq
theorem pe_cmKW (he : PE X ex2 ta) (r : ClX.CRead X.K C mc) (k : ClX.CMet X.K C mc m fp fa) (F : FsK X.prog X.w X.K X.mg X.base fa lv ks sp) (hr : Room j X.A) (hk : lv ≤ j) (tk' : Takes X W) (hkw : PK X kws tk)
    (hall : (backToKw pos (keywordEach kws X.env)).all (·.1.isSome) = true := by rfl) (hks : (backToKw pos (keywordEach kws X.env)).filterMap (·.1) = ks := by rfl)
    (hpl : ((backTo pos (starEach [] X.env)).any (·.1) || (backToKw pos (keywordEach kws X.env)).any (·.1.isNone)) = false := by rfl)
    (ht : eval (.Call (.Attribute ex2 m apos) [] kws pos) X.env = (do
      let ov ← eval ex2 X.env
      standAt apos.atName
      let (f, first) ← holding [ov] (getMethod ov m pl)
      callWith pos f first (backTo pos (starEach [] X.env)) (backToKw pos (keywordEach kws X.env))) := by rfl) :
    PE X (.Call (.Attribute ex2 m apos) [] kws pos) (fun σ H Q => ta σ H fun x H1 => x = .ref C ∧ tk σ H1 fun zs H2 => zs.length = ks.length ∧ sp (.ref C :: zs) H2 Q (WE W σ)) := by
  refine ⟨fun pins s σ H Q I h => ?_⟩
  refine PySem.W.methodCall_KW (pl := pl) (thn (he.run pins s σ H _ I h) fun u s1 ⟨x, H1, I1, rx, ex, q⟩ => ?_) ht
  subst ex
  obtain rfl : u = Value.ref C := rx
  refine ClX.getmethcm_ok I1 r k fun s2 I2 => ?_
  refine PySem.W.callWith_of (P := PySem.W.MethP X.K s1.heap.objs.size fa (.ref C)) hpl (PySem.W.keeps_M k.fi) (evalArgs_kw2_nil hall ?_)
  refine thn (hkw.run pos _ s2 σ H1 _ I2 q) fun ws s3 ⟨zs, H2, I3, rz, l, q2⟩ => ?_
  refine ⟨⟨ClX.pin_at I3, I3.kIn⟩, ?_⟩
  rw [hks]
  have z : wpAny (model X.prog X.w) X.A (call (.ref s1.heap.objs.size) [] (ks.zip ws)) (EP X ((s1.heap.objs.size, PySem.W.methodObj (.ref fa) (.ref C)) :: pins) σ Q) X.xe s3 :=
    wpAny_call (ks_codeAny_call_bound (ClX.pin_at I3) (run_fsK (A := X.A) (v := .ref C) (u := .ref C) F (hr.mono hk) (passAt tk' σ) I3 rfl rz l q2))
  exact thn z fun _ _ y => ClX.unpinE y
theorem x_cmK {F : List D → Store → R D} (hK : X.K = K) (ho : Ev K X W ex2 g) (r : ClX.CRead K (He.ga K c) mc) (hc : ClX.CMet K (He.ga K c) mc m fp fa) (hF : FsK X.prog X.w K X.mg X.base fa lv ks sp) (hs : Shp K sp F) (hr : Room j X.A) (hk : lv ≤ j) (tk' : Takes X W) (ha : Eak K X W kws a) (hn : ∀ e S ds S', a e S = .ok ds S' → ds.length = ks.length)
    (hall : (backToKw pos (keywordEach kws X.env)).all (·.1.isSome) = true := by rfl) (hks : (backToKw pos (keywordEach kws X.env)).filterMap (·.1) = ks := by rfl)
    (hpl : ((backTo pos (starEach [] X.env)).any (·.1) || (backToKw pos (keywordEach kws X.env)).any (·.1.isNone)) = false := by rfl)
    (ht : eval (.Call (.Attribute ex2 m apos) [] kws pos) X.env = (do
      let ov ← eval ex2 X.env
      standAt apos.atName
      let (f, first) ← holding [ov] (getMethod ov m pl)
      callWith pos f first (backTo pos (starEach [] X.env)) (backToKw pos (keywordEach kws X.env))) := by rfl) : Ev K X W (.Call (.Attribute ex2 m apos) [] kws pos) (eCm c F g a) := by
  subst hK
  obtain ⟨tb, p2, h2⟩ := ho.run
  obtain ⟨ta, p1, h1⟩ := ha.run
  refine ⟨_, pe_cmKW p2 r hc hF hr hk tk' p1 hall hks hpl ht, fun b m ow H σ e S Q t q => h2 b m ow H σ e S _ t (Post.bind q fun d S1 v m1 H1 f1 c1 rx q => ?_)⟩
  cases d <;> try exact q.elim
  rename_i c'
  dsimp only at q
  split at q
  · rename_i hi
    subst hi
    have rx0 := rx
    unfold Rep at rx
    subst rx
    refine ⟨rfl, h1 b m1 ow H1 σ e S1 _ (t.go f1 c1) ?_⟩
    have hl := hn e S1
    generalize a e S1 = R at q hl ⊢
    cases R with
    | no => exact q
    | er x S2 => exact q
    | ok ds S2 =>
      intro vs m2 H2 f2 c2 ry
      exact ⟨by rw [reps_len ry]; exact hl ds S2 rfl, hs.at c2 (reps_cons (Rep.le f2.le _ rx0) ry) (Post.go q f2)⟩
  · exact q.elim
end
theorem kn_nil : ∀ (e : En) (S : Store) (ds : List D) (S' : Store), aNil e S = .ok ds S' → ds.length = 0 := fun e S ds S' h => by cases h; rfl
theorem kn_cons {f : Sx D} {a : Sx (List D)} {n : Nat} (h : ∀ (e : En) (S : Store) (ds : List D) (S' : Store), a e S = .ok ds S' → ds.length = n) : ∀ (e : En) (S : Store) (ds : List D) (S' : Store), aCons f a e S = .ok ds S' → ds.length = n + 1 := fun e S ds S' q => by
  unfold aCons at q
  cases r : f e S with
  | no => rw [r] at q; cases q
  | er x S1 => rw [r] at q; cases q
  | ok d S1 =>
    rw [r, ok_bind] at q
    cases r2 : a e S1 with
    | no => rw [r2] at q; cases q
    | er x S1 => rw [r2] at q; cases q
    | ok xs S2 =>
      rw [r2, ok_bind] at q
      cases q
      rw [List.length_cons, h e S1 xs _ r2]
end Sh
namespace Sh
open PySem PySem.Spec PyProof.Rows L2 Nk StX
variable [TabSet] [BasePred]
section
variable {K : PySem.W.Frag} {X : Cx} {W : WX}
def dStrS : List D → Option D
  | [.str z] => some (.str z)
  | _ => none
theorem calls_strI : CallS K X (.type "str") dStrI := by
  refine ⟨_, call_str_int, fun w hw hf xs ds Q r q => ?_⟩
  unfold dStrI at q
  split at q
  · rename_i i
    obtain ⟨v, rfl, r1⟩ := reps1 r rfl
    cases rep_intD r1
    obtain ⟨h, q⟩ := Pz.ite q
    exact ⟨i, rfl, h, q.here (rep_str (int_text_fits h))⟩
  · exact (q : False).elim
theorem calls_strS : CallS K X (.type "str") dStrS := by
  refine ⟨_, SkE.call_str_str, fun w hw hf xs ds Q r q => ?_⟩
  unfold dStrS at q
  split at q
  · rename_i z
    obtain ⟨v, rfl, r1⟩ := reps1 r rfl
    obtain ⟨rfl, hl⟩ := rep_strD r1
    exact ⟨z, rfl, q.here (rep_str hl)⟩
  · exact (q : False).elim
def dStr : List D → Option D := alt1 dStrI dStrS
theorem calls_str : CallS K X (.type "str") dStr := CallS.or calls_strI calls_strS
end
theorem dStr_I {i : Int} (h : i.natAbs.log2 < 1920) : dStr [.int i] = some (.str (toString i)) := by
  simp only [dStr, alt1, dStrI]
  rw [if_pos h]
theorem dStr_S {z : Str} : dStr [.str z] = some (.str z) := rfl
theorem log_small {i : Int} (h0 : 0 ≤ i) (h : i ≤ 4294967296) : i.natAbs.log2 < 1920 := by
  have h1 : i.natAbs < 2 ^ 33 := by omega
  have h2 : i.natAbs.log2 < 33 := by
    by_cases z : i.natAbs = 0
    · rw [z]; decide
    · exact (Nat.log2_lt z).mpr h1
  omega
theorem dStr_N {i : Int} (h0 : 0 ≤ i) (h : i ≤ 4294967296) : dStr [.int i] = some (.str (toString i)) := dStr_I (log_small h0 h)
theorem fmt_N {i : Int} (h0 : 0 ≤ i) (h : i ≤ 4294967296) : fmtD (.int i) = some (.str (toString i)) := by
  unfold fmtD
  exact if_pos (log_small h0 h)
def kJs (acc : Str) (fs : List (Sx D)) (e : En) (x : D) (S1 : Store) : R D := match x with
  | .str y => if (acc ++ y).length ≤ sizeLine then eJs fs (acc ++ y) e S1 else .no
  | _ => .no
theorem kJs_s {acc y : Str} {fs : List (Sx D)} {e : En} {S1 : Store} : kJs acc fs e (.str y) S1 = if (acc ++ y).length ≤ sizeLine then eJs fs (acc ++ y) e S1 else .no := rfl
theorem eJs_nil {acc : Str} {e : En} {S : Store} : eJs [] acc e S = .ok (.str acc) S := by rw [eJs]
theorem eJs_cons {f : Sx D} {fs : List (Sx D)} {acc : Str} {e : En} {S : Store} : eJs (f :: fs) acc e S = (f e S).bind (kJs acc fs e) := by rw [eJs]; rfl
end Sh
namespace L2
open PySem PySem.Spec PyProof.Rows
def keyX (e : Int × Value) : Str := match e.2 with | .str k _ => k | _ => Str.empty
def GoodX (w : World) (e : Int × Value) : Prop := ∃ k tk, e.2 = Value.str k tk ∧ e.1 = hashStr w k
def SetX (w : World) (h : Heap) (a : Addr) (S : Str → Bool) (n : Nat) : Prop :=
  ∃ o es ep t, h.get? a = some o ∧ o.ExactSet ∧ o.data = .set es ep t ∧ (∀ e ∈ es.toList, GoodX w e) ∧ (es.toList.map (keyX)).Nodup ∧ (∀ k, S k = true ↔ k ∈ es.toList.map (keyX)) ∧
    es.size < scanBound ∧ t.fits es.size = true ∧ es.size = n ∧ Ris t.place.toList ∧ (w.params.followText "set-order" = true ∨ t.led = true)
section
variable {P : Program} {w : World} {h h' : Heap} {a : Addr} {S : Str → Bool} {n : Nat}
theorem SetX.at (R : SetX w h a S n) (k : ∀ o, h.get? a = some o → h'.get? a = some o) : SetX w h' a S n := by
  obtain ⟨o, es, ep, t, ho, r⟩ := R
  exact ⟨o, es, ep, t, k o ho, r⟩
theorem SetX.lt (R : SetX w h a S n) : a < h.objs.size := by
  obtain ⟨o, es, ep, t, ho, r⟩ := R
  exact Heap.lt_size ho
theorem SetX.congr {S' : Str → Bool} (R : SetX w h a S n) (e : ∀ k, S' k = S k) : SetX w h a S' n := by
  have q : S' = S := funext e
  rw [q]; exact R
end
end L2
namespace Sh
open PySem PySem.Spec PyProof.Rows L2 Nk StX
def dd0 : List Str → List Str
  | [] => []
  | x :: r => if x ∈ r then dd0 r else x :: dd0 r
end Sh
namespace Sh
open PySem PySem.Spec PyProof.Rows L2 Nk
variable [TabSet] [BasePred]
theorem in_it {J : It} {n : Nat} {G : Hp → Prop} {Y : Nat → Hp → V → Hp → Prop} (w : Walk J n G Y) {g : TG} {σ : L2.St} {H1 : Hp} {N : Hp → Prop} {B : (Hp → Prop) → L2.St → Hp → Prop} (Pv : Nat → Hp → Prop) (h0 : Pv 0 H1) (hG : ∀ i H, i ≤ n → Pv i H → G H)
    (hs : ∀ i x H H', i < n → Pv i H → Y i H x H' → g x σ H' (B (Pv (i + 1)))) (hd : ∀ H, Pv n H → N H) :
    ∃ W : Nat → Nat → Hp → Prop, (∃ m, W 0 m H1) ∧ ∀ i m H, W i m H →
      (J.stop i H ∧ N H) ∨ (J.go i H ∧ ∃ Nx : Hp → Prop, (∀ H', Nx H' → ∃ m', m' < m ∧ W (i + 1) m' H') ∧ ∀ x H', J.yld i H x H' → g x σ H' (B Nx)) := by
  refine ⟨fun i m H => m = n - i ∧ i ≤ n ∧ Pv i H, ⟨n, by simp, Nat.zero_le _, h0⟩, ?_⟩
  rintro i m H ⟨rfl, hi, p⟩
  have q := hG i H hi p
  by_cases hlt : i < n
  · exact .inr ⟨w.goes i H hlt q, Pv (i + 1), fun H' p' => ⟨n - (i + 1), by omega, rfl, hlt, p'⟩, fun x H' y => hs i x H H' hlt p (w.yields i H x H' hlt q y)⟩
  · have e : i = n := by omega
    subst e
    exact .inl ⟨w.stops H q, hd H p⟩
section
variable {K : PySem.W.Frag} {X : Cx} {W : WX} {ex ex2 tg iter tg1 iter1 elt : Expr} {ifs ifs1 : List Expr} {f : Sx D} {t t1 : Sx Bool} {a it it1 : Sx (List D)} {l : Sx (List D)} {g g1 : Tg} {pos p : Pos} {i : Nat} {x : Str}
def tiOf (K : PySem.W.Frag) (W : WX) (it : Sx (List D)) : TI := fun σ H R => ∃ b m ow e S, At K b m ow H σ e S ∧ Post K b.B ow m H ItR (fun c d => W c d σ) R (it e S)
theorem Ei.canon (h : Ei K X W tg iter it) : PI X tg iter (tiOf K W it) := by
  obtain ⟨te, p1, h1⟩ := h.run
  exact ⟨fun pins s σ H Q I ⟨b, m, ow, e, S, t, q⟩ => p1.run pins s σ H Q I (h1 b m ow H σ e S Q t q)⟩
theorem wipe_wipe (σ : L2.St) (vs : List Nat) : wipe (wipe σ vs) vs = wipe σ vs := by
  refine List.ext_getElem? fun j => ?_
  simp only [wipe_get, wipe_length]
  split <;> rfl
variable {scope : Scope} {own : List (Str × Nat)} {vs1 : List Nat}
end
end Sh
namespace Sh
open PySem PySem.Spec PyProof.Rows L2 Nk StX
variable [TabSet] [BasePred]
def eCf (c : String) (F : List D → Store → R D) (g : Sx D) (a : Sx (List D)) (e : En) (S : Store) : R D := (g e S).bind fun d S1 => match d with
  | .cls c' => if c' = c then (a e S1).bind fun ds S2 => F ds S2 else .no
  | _ => .no
section
variable {K : PySem.W.Frag} {X : Cx} {W : WX} {ex ex2 : Expr} {es : List Expr} {g : Sx D} {a : Sx (List D)} {c : String} {F : List D → Store → R D} {m : Str} {fa : Addr} {lv j : Nat} {sp : Sp} {pos apos : Pos} {pl : Sem Bool}
theorem x_cf0 (hK : X.K = K) (ho : Ev K X W ex2 g) (r : ClX.CRead K (He.ga K c) (.type "type")) (hc : CFn K (He.ga K c) m fa) (hF : Fs X.prog X.w K X.mg X.base fa lv sp) (hs : Shp K sp F) (hr : Room j X.A) (hk : lv ≤ j) (tk : Takes X W)
    (ht : eval (.Call (.Attribute ex2 m apos) [] [] pos) X.env = (do
      let ov ← eval ex2 X.env
      standAt apos.atName
      let (f, first) ← holding [ov] (getMethod ov m pl)
      callWith pos f first (backTo pos (starEach [] X.env)) (backToKw pos (keywordEach [] X.env))) := by rfl) : Ev K X W (.Call (.Attribute ex2 m apos) [] [] pos) (eCf c F g aNil) := by
  subst hK
  obtain ⟨tb, p2, h2⟩ := ho.run
  refine ⟨_, pe_cfW0 p2 r hc hF hr hk tk ht, fun b m ow H σ e S Q t q0 => h2 b m ow H σ e S _ t (Post.bind q0 fun d S1 v m1 H1 f1 c1 rx q => ?_)⟩
  cases d <;> try exact q.elim
  rename_i c'
  dsimp only at q
  split at q
  · rename_i hc'
    subst hc'
    unfold Rep at rx
    exact ⟨rx, hs.at c1 reps_nil q⟩
  · exact q.elim
end
end Sh
namespace Nk
open PySem PySem.Spec PyProof.Rows L2
def nxRd (J : It) (g : TG) (tt : TT) (te : TE) (σ0 : L2.St) (vs : List Nat) (W : Nat → Nat → Hp → Prop) (Q : VK) : Prop := ∀ i m H, W i m H →
  (J.stop i H ∧ Q .non H) ∨ (J.go i H ∧ ∃ Nx : Hp → Prop, (∀ H', Nx H' → ∃ m', m' < m ∧ W (i + 1) m' H') ∧ ∀ x H', J.yld i H x H' → g x σ0 H' fun σ2 H2 => wipe σ2 vs = σ0 ∧ tt σ2 H2 fun b H3 =>
    if b = true then te σ2 H3 Q else Nx H3)
theorem wipe_at {σ : L2.St} {j : Nat} : ∀ {vs : List Nat}, j ∈ vs → (wipe σ vs)[j]? = if j < σ.length then some none else none
  | [], h => nomatch h
  | v :: vs, h => by
    unfold wipe
    by_cases e : v = j
    · subst e
      by_cases hl : v < σ.length
      · rw [List.getElem?_set_self (by rw [wipe_length]; exact hl), if_pos hl]
      · rw [List.getElem?_eq_none (by rw [List.length_set, wipe_length]; omega), if_neg hl]
    · rw [List.getElem?_set_ne e]
      exact wipe_at ((List.mem_cons.mp h).elim (fun z => absurd z.symm e) id)
def tNext (T : List (Addr × Str)) (wi : TI) (g : TG) (tt : TT) (te : TE) (vs : List Nat) : TE := fun σ H Q => wi σ H fun J H1 => LamX.Tabs T H1 ∧ ∀ H2, LamX.ExtN H1 H2 → LamX.Tabs T H2 → ∃ W m0, W 0 m0 H2 ∧ nxRd J g tt te (wipe σ vs) vs W Q
end Nk
namespace Sh
open PySem PySem.Spec PyProof.Rows L2 Nk StX
section
variable {X : Cx} {k j : Nat} {C f : Addr} {sp : Sp} {ks : List Str} {W : WX} {x : Str} {tf : TE} {tk : TA} {p1 pos : Pos} {kws : List Keyword}
def tLen (n : Nat) (tk : TA) : TA := fun σ H Q => tk σ H fun zs H2 => zs.length = n ∧ Q zs H2
end
variable [TabSet] [BasePred]
end Sh
namespace Sh
open PySem PyProof.Rows L2
variable [TabSet] [BasePred]
def D.ints : List D → Option (List Int)
  | [] => some []
  | d :: ds => match d, D.ints ds with
    | .int n, some ns => some (n :: ns)
    | _, _ => none
theorem reps_ofInts {w : Wo} : ∀ {ds : List D} {vs : List V} {ns : List Int}, Reps w ds vs → D.ints ds = some ns → vs = ns.map V.int
  | [], vs, ns, r, e => by unfold Reps at r; unfold D.ints at e; cases e; rw [r]; rfl
  | d :: ds, vs, ns, r, e => by
    unfold Reps at r
    obtain ⟨v, us, rfl, a, r⟩ := r
    unfold D.ints at e
    cases h2 : D.ints ds with
    | none => rw [h2] at e; cases d <;> cases e
    | some ms =>
      rw [h2] at e
      cases d <;> try cases e
      rw [reps_ofInts r h2, rep_intD a]
      rfl
def dSum : List D → Option D
  | [.lst xs] => (D.ints xs).map fun ns => .int ns.sum
  | _ => none
section
variable {K : PySem.W.Frag} {X : Cx}
theorem calls_sum (hK : X.K = K) (hc : X.calm = true) : CallS K X (.builtin "sum") dSum := by
  subst hK
  refine ⟨_, cr_sum hc, fun w hw hf xs ds Q r q => ?_⟩
  unfold dSum at q
  split at q
  · obtain ⟨v, rfl, r1⟩ := reps1 r rfl
    obtain ⟨a, vs, rfl, t, r2⟩ := rep_list r1
    rename_i ys
    cases e : D.ints ys with
    | none => rw [e] at q; exact (q : False).elim
    | some ns =>
      rw [e] at q
      have := reps_ofInts r2 e
      subst this
      exact ⟨a, ns, rfl, hw ▸ t.sq, Pz.here q rep_int⟩
  · exact (q : False).elim
end
end Sh
namespace Sh
open PySem PySem.Spec PyProof.Rows L2 Nk StX
variable [TabSet] [BasePred]
def D.key : D → Option Key
  | .int i => some (.inl i)
  | .str x => some (.inr x)
  | _ => none
def keyD : Key → D
  | .inl i => .int i
  | .inr x => .str x
def dkV : List (Key × D) → Key → Option D
  | [], _ => none
  | p :: r, k => if p.1 = k then some p.2 else dkV r k
def D.dkv (S : Store) : D → Option (List (Key × D))
  | .fk kvs => some kvs
  | .dk kvs => some kvs
  | .ref n => match S[n]? with
    | some (.dk kvs) => some kvs
    | some (.fk kvs) => some kvs
    | _ => none
  | _ => none
def D.fkv (S : Store) : D → Option (List (Key × D))
  | .fk kvs => some kvs
  | .ref n => match S[n]? with
    | some (.fk kvs) => some kvs
    | _ => none
  | _ => none
section
variable {K : PySem.W.Frag} {B : Addr → Prop} {m : List Addr} {ow : List (Option Addr)} {H : Hp} {S : Store} {w : Wo}
theorem fkv_at {d : D} {v : V} {kvs : List (Key × D)} (c : Cells K B m ow H S) (r : Rep (wo K B m ow H) d v) (h : d.fkv S = some kvs) : ∃ a od vs, v = .ref a ∧ H a = some (.frz od (.dK vs)) ∧ RepK (wo K B m ow H) kvs vs := by
  cases d <;> unfold D.fkv at h <;> try cases h
  · rename_i n
    unfold Rep at r
    obtain ⟨a, rfl, hm⟩ := r
    dsimp only at h
    split at h
    · rename_i kvs' hS
      cases h
      obtain ⟨vs, o, hH, rk⟩ := c.cs n a _ hm hS
      exact ⟨a, o, vs, rfl, hH, rk⟩
    · cases h
  · unfold Rep at r
    obtain ⟨a, o, vs, rfl, _, hH, rk⟩ := r
    exact ⟨a, o, vs, rfl, hH, rk⟩
theorem key_rep {d : D} {v : V} {k : Key} (r : Rep w d v) (h : d.key = some k) : v = kV k := by
  cases d <;> unfold D.key at h <;> try cases h
  · unfold Rep at r; subst r; rfl
  · unfold Rep at r; obtain ⟨rfl, _⟩ := r; rfl
theorem key_fit {d : D} {v : V} {k : Key} (r : Rep w d v) (h : d.key = some k) : KFit k := by
  cases d <;> unfold D.key at h <;> try cases h
  · exact fun x e => nomatch e
  · unfold Rep at r
    obtain ⟨_, l⟩ := r
    exact fun x e => by cases e; exact l
theorem repK_len : ∀ {kvs : List (Key × D)} {vs : List (Key × V)}, RepK w kvs vs → vs.length = kvs.length
  | [], vs, r => by unfold RepK at r; subst r; rfl
  | (k, d) :: r, vs, h => by
    unfold RepK at h
    obtain ⟨v, vs', rfl, _, h⟩ := h
    simp [repK_len h]
theorem repK_val : ∀ {kvs : List (Key × D)} {vs : List (Key × V)} (k : Key), RepK w kvs vs → match dkV kvs k with
    | some d => ∃ v, valV vs k = some v ∧ Rep w d v
    | none => valV vs k = none
  | [], vs, k, r => by unfold RepK at r; subst r; rfl
  | (k0, d) :: r, vs, k, h => by
    unfold RepK at h
    obtain ⟨v, vs', rfl, rv, h⟩ := h
    unfold dkV
    by_cases e : k0 = k
    · rw [if_pos e]
      exact ⟨v, valV_pos e, rv.2⟩
    · rw [if_neg e]
      have := repK_val k h
      rw [valV_neg (p := (k0, v)) e]
      exact this
theorem repK_get {kvs : List (Key × D)} {vs : List (Key × V)} {k : Key} {d : D} (r : RepK w kvs vs) (h : dkV kvs k = some d) : ∃ v, valV vs k = some v ∧ Rep w d v := by
  have := repK_val k r
  rw [h] at this
  exact this
theorem repK_none {kvs : List (Key × D)} {vs : List (Key × V)} {k : Key} (r : RepK w kvs vs) (h : dkV kvs k = none) : valV vs k = none := by
  have := repK_val k r
  rw [h] at this
  exact this
theorem repK_some {kvs : List (Key × D)} {vs : List (Key × V)} (k : Key) (r : RepK w kvs vs) : (valV vs k).isSome = (dkV kvs k).isSome := by
  have := repK_val k r
  cases h : dkV kvs k with
  | none => rw [h] at this; rw [show valV vs k = none from this]; rfl
  | some d => rw [h] at this; obtain ⟨v, e, _⟩ := this; rw [e]; rfl
theorem repK_at : ∀ {kvs : List (Key × D)} {vs : List (Key × V)} {i : Nat} {p : Key × D}, RepK w kvs vs → kvs[i]? = some p → ∃ v, vs[i]? = some (p.1, v) ∧ KFit p.1 ∧ Rep w p.2 v
  | [], vs, i, p, r, h => by cases h
  | (k, d) :: r, vs, 0, p, h, e => by
    unfold RepK at h
    obtain ⟨v, vs', rfl, rv, h⟩ := h
    cases e
    exact ⟨v, rfl, rv⟩
  | (k, d) :: r, vs, i + 1, p, h, e => by
    unfold RepK at h
    obtain ⟨v, vs', rfl, rv, h⟩ := h
    simp only [List.getElem?_cons_succ] at e ⊢
    exact repK_at h e
theorem rep_keyD {k : Key} (h : KFit k) : Rep w (keyD k) (kV k) := by
  cases k with
  | inl i => exact rep_int
  | inr x => exact rep_str (h x rfl)
theorem dkv_at {d : D} {v : V} {kvs : List (Key × D)} (c : Cells K B m ow H S) (r : Rep (wo K B m ow H) d v) (h : d.dkv S = some kvs) : ∃ a vs, v = .ref a ∧ Rd H a (.dK vs) ∧ RepK (wo K B m ow H) kvs vs := by
  cases d <;> unfold D.dkv at h <;> try cases h
  · unfold Rep at r
    obtain ⟨a, vs, rfl, _, t, rk⟩ := r
    exact ⟨a, vs, rfl, .inl t, rk⟩
  · rename_i n
    unfold Rep at r
    obtain ⟨a, rfl, hm⟩ := r
    dsimp only at h
    cases hS : S[n]? with
    | none => rw [hS] at h; cases h
    | some cc =>
      rw [hS] at h
      cases cc with
      | dk kvs' =>
        cases h
        obtain ⟨vs, e, rk⟩ := c.cs n a _ hm hS
        exact ⟨a, vs, rfl, .inl e, rk⟩
      | lst _ => cases h
      | ins _ _ => cases h
      | dt _ => cases h
      | ft _ => cases h
      | fk kvs' =>
        cases h
        obtain ⟨vs, o, e, rk⟩ := c.cs n a _ hm hS
        exact ⟨a, vs, rfl, .inr ⟨o, e⟩, rk⟩
  · unfold Rep at r
    obtain ⟨a, o, vs, rfl, _, t, rk⟩ := r
    exact ⟨a, vs, rfl, .inr ⟨o, t⟩, rk⟩
end
def eDix (f g : Sx D) (e : En) (S : Store) : R D := (f e S).bind fun x S1 => (g e S1).bind fun y S2 => R.of S2 ((x.dkv S2).bind fun kvs => (y.key).bind fun k => dkV kvs k)
def dGetD (S : Store) (x y z : D) : Option D := (x.dkv S).bind fun kvs => (y.key).map fun k => (dkV kvs k).getD z
def D.isDk (S : Store) (x : D) : Bool := (x.dkv S).isSome
def eGet2 (f g h : Sx D) (e : En) (S : Store) : R D := (f e S).bind fun x S1 => if x.isDk S1 then (g e S1).bind fun y S2 => (h e S2).bind fun z S3 => R.of S3 (dGetD S3 x y z) else .no
def eDin (ng : Bool) (f g : Sx D) (e : En) (S : Store) : R D := (f e S).bind fun y S1 => (g e S1).bind fun x S2 => R.of S2 ((x.dkv S2).bind fun kvs => (y.key).map fun k => .bl (Bool.xor ng (dkV kvs k).isSome))
def iDk (f : Sx D) (e : En) (S : Store) : R (List D) := (f e S).bind fun x S1 => R.of S1 ((x.fkv S1).map fun kvs => kvs.map fun p => keyD p.1)
def iDit (f : Sx D) (e : En) (S : Store) : R (List D) := (f e S).bind fun x S1 => R.of S1 ((x.fkv S1).map fun kvs => kvs.map fun p => .tup [keyD p.1, p.2])
def eLenD (f : Sx D) (e : En) (S : Store) : R D := (f e S).bind fun x S1 => R.of S1 ((x.dkv S1).map fun kvs => .int kvs.length)
section
variable {K : PySem.W.Frag} {X : Cx} {W : WX} {ex ex2 ex3 tg iter : Expr} {f g h : Sx D} {pos p apos : Pos}
theorem x_dix (hK : X.K = K) (hu : X.A.units + 65 < cLine) (hf : Ev K X W ex f) (hg : Ev K X W ex2 g) (hs : NoSl ex2) : Ev K X W (.Subscript ex ex2 pos) (eDix f g) := by
  subst hK
  obtain ⟨ta, p1, h1⟩ := hf.run
  obtain ⟨tb, p2, h2⟩ := hg.run
  refine ⟨_, pe_dget (by omega) p1 p2 hs, fun b m ow H σ e S Q t q => h1 b m ow H σ e S _ t (Post.bind q fun x S1 v m1 H1 f1 c1 rx q => h2 b m1 ow H1 σ e S1 _ (t.go f1 c1) (Post.bind q fun y S2 u m2 H2 f2 c2 ry q => ?_))⟩
  cases hx : x.dkv S2 with
  | none => rw [hx] at q; exact q.elim
  | some kvs =>
    cases hk : y.key with
    | none => rw [hx, hk] at q; exact q.elim
    | some k =>
      cases hv : dkV kvs k with
      | none => rw [hx, hk] at q; simp only [Option.bind_some, hv] at q; exact q.elim
      | some d =>
        rw [hx, hk] at q
        simp only [Option.bind_some, hv] at q
        obtain ⟨a, vs, rfl, rd, rk⟩ := dkv_at c2 (Rep.le f2.le x rx) hx
        obtain ⟨v, e1, rv⟩ := repK_get rk hv
        have ek := key_rep ry hk
        exact ⟨a, v, rfl, .inl ⟨vs, k, rd, ek, e1.symm⟩, q.val c2 rv⟩
theorem isDk_at {B : Addr → Prop} {m : List Addr} {ow : List (Option Addr)} {H : Hp} {S : Store} {d : D} {v : V} (c : Cells K B m ow H S) (r : Rep (wo K B m ow H) d v) (h : d.isDk S = true) : ∃ a, v = .ref a ∧ IsD H a := by
  unfold D.isDk at h
  obtain ⟨kvs, hk⟩ := Option.isSome_iff_exists.mp h
  obtain ⟨a, vs, rfl, rd, _⟩ := dkv_at c r hk
  exact ⟨a, rfl, .inl ⟨vs, rd⟩⟩
theorem dget_at {B : Addr → Prop} {m : List Addr} {ow : List (Option Addr)} {H : Hp} {S : Store} {x y z d : D} {v u w' : V} (c : Cells K B m ow H S) (rx : Rep (wo K B m ow H) x v) (ry : Rep (wo K B m ow H) y u) (rz : Rep (wo K B m ow H) z w') (h : dGetD S x y z = some d) : ∃ a o, v = .ref a ∧ DGet H a u o ∧ Rep (wo K B m ow H) d (o.getD w') := by
  unfold dGetD at h
  cases hx : x.dkv S with
  | none => rw [hx] at h; cases h
  | some kvs =>
    cases hk : y.key with
    | none => rw [hx, hk] at h; cases h
    | some k =>
      rw [hx, hk] at h
      simp only [Option.bind_some, Option.map_some, Option.some.injEq] at h
      obtain ⟨a, vs, rfl, rd, rk⟩ := dkv_at c rx hx
      have ek := key_rep ry hk
      refine ⟨a, valV vs k, rfl, .inl ⟨vs, k, rd, ek, rfl⟩, ?_⟩
      cases hv : dkV kvs k with
      | none => rw [hv] at h; rw [repK_none rk hv]; subst h; exact rz
      | some d' =>
        obtain ⟨v', e1, rv⟩ := repK_get rk hv
        rw [hv] at h
        rw [e1]
        subst h
        exact rv
theorem x_get2 (hK : X.K = K) (hu : X.A.units + 65 < cLine) (hf : Ev K X W ex f) (hg : Ev K X W ex2 g) (hh : Ev K X W ex3 h) (mm : M2 X ex "get" apos ex2 ex3 pos) : Ev K X W (.Call (.Attribute ex "get" apos) [ex2, ex3] [] pos) (eGet2 f g h) := by
  subst hK
  obtain ⟨ta, p1, h1⟩ := hf.run
  obtain ⟨tb, p2, h2⟩ := hg.run
  obtain ⟨tc, p3, h3⟩ := hh.run
  refine ⟨_, pe_dget2 (by omega) p1 p2 p3 mm, fun b m ow H σ e S Q t q => h1 b m ow H σ e S _ t (Post.bind q fun x S1 v m1 H1 f1 c1 rx q => ?_)⟩
  split at q
  · rename_i hd
    obtain ⟨a, rfl, isd⟩ := isDk_at c1 rx hd
    refine ⟨a, rfl, isd, h2 b m1 ow H1 σ e S1 _ (t.go f1 c1) (Post.bind q fun y S2 u m2 H2 f2 c2 ry q => h3 b m2 ow H2 σ e S2 _ ((t.go f1 c1).go f2 c2) (Post.bind q fun z S3 w' m3 H3 f3 c3 rz q => ?_))⟩
    cases hv : dGetD S3 x y z with
    | none => rw [hv] at q; exact q.elim
    | some d =>
      rw [hv] at q
      obtain ⟨a', o, ea, g, rd⟩ := dget_at c3 (Rep.le (f2.trans f3).le x rx) (Rep.le f3.le y ry) rz hv
      cases ea
      exact ⟨o, g, q.val c3 rd⟩
  · exact q.elim
theorem din_rd {ng : Bool} {ty td : TE} {t0 : TE} (h1 : ∀ b m ow H σ e S Q, At K b m ow H σ e S → Post K b.B ow m H Rep (fun c d => W c d σ) Q (f e S) → ty σ H Q) (h2 : ∀ b m ow H σ e S Q, At K b m ow H σ e S → Post K b.B ow m H Rep (fun c d => W c d σ) Q (g e S) → td σ H Q)
    (ht : ∀ σ H Q, (ty σ H fun y H1 => td σ H1 fun x H2 => ∃ a o, x = .ref a ∧ DGet H2 a y o ∧ Q (.bl (Bool.xor ng o.isSome)) H2) → t0 σ H Q) : ∀ b m ow H σ e S Q, At K b m ow H σ e S → Post K b.B ow m H Rep (fun c d => W c d σ) Q (eDin ng f g e S) → t0 σ H Q := by
  refine fun b m ow H σ e S Q t q => ht σ H Q (h1 b m ow H σ e S _ t (Post.bind q fun y S1 u m1 H1 f1 c1 ry q => h2 b m1 ow H1 σ e S1 _ (t.go f1 c1) (Post.bind q fun x S2 v m2 H2 f2 c2 rx q => ?_)))
  cases hx : x.dkv S2 with
  | none => rw [hx] at q; exact q.elim
  | some kvs =>
    cases hk : y.key with
    | none => rw [hx, hk] at q; exact q.elim
    | some k =>
      rw [hx, hk] at q
      obtain ⟨a, vs, rfl, rd, rk⟩ := dkv_at c2 rx hx
      have ek := key_rep (Rep.le f2.le y ry) hk
      refine ⟨a, valV vs k, rfl, .inl ⟨vs, k, rd, ek, rfl⟩, ?_⟩
      rw [repK_some k rk]
      exact q.val c2 rep_bl
theorem x_din (hu : X.A.units + 65 < cLine) (hf : Ev K X W ex f) (hg : Ev K X W ex2 g) (hm : behindInMarks .In ex2 = false := by rfl) : Ev K X W (.Compare ex [.In] [ex2] pos) (eDin false f g) := by
  obtain ⟨ta, p1, h1⟩ := hf.run
  obtain ⟨tb, p2, h2⟩ := hg.run
  refine ⟨_, pe_cmp (pc_din (by omega) p1 p2) hm, din_rd h1 h2 fun σ H Q z => ?_⟩
  simp only [Bool.false_xor] at z
  exact z
end
end Sh
namespace Sh
open PySem PySem.Spec PyProof.Rows L2 Nk StX
variable [TabSet] [BasePred]
def dkSt (kvs : List (Key × D)) (k : Key) (d : D) : List (Key × D) := if (kvs.any fun p => decide (p.1 = k)) = true then kvs.map (fun p => if p.1 = k then (p.1, d) else p) else kvs ++ [(k, d)]
def dkMer (kvs more : List (Key × D)) : List (Key × D) := more.foldl (fun acc p => dkSt acc p.1 p.2) kvs
section
variable {w : Wo}
theorem repK_any : ∀ {kvs : List (Key × D)} {vs : List (Key × V)} (k : Key), RepK w kvs vs → (vs.any fun p => decide (p.1 = k)) = (kvs.any fun p => decide (p.1 = k))
  | [], vs, k, r => by unfold RepK at r; subst r; rfl
  | (k0, d) :: r, vs, k, h => by
    unfold RepK at h
    obtain ⟨v, vs', rfl, _, h⟩ := h
    simp only [List.any_cons, repK_any k h]
theorem repK_map {k : Key} {d : D} {v : V} (rv : KFit k ∧ Rep w d v) : ∀ {kvs : List (Key × D)} {vs : List (Key × V)}, RepK w kvs vs → RepK w (kvs.map (fun p => if p.1 = k then (p.1, d) else p)) (vs.map (fun p => if p.1 = k then (p.1, v) else p))
  | [], vs, r => by unfold RepK at r; subst r; exact (by unfold RepK; rfl)
  | (k0, d0) :: r, vs, h => by
    unfold RepK at h
    obtain ⟨v0, vs', rfl, r0, h⟩ := h
    simp only [List.map_cons]
    by_cases e : k0 = k
    · rw [if_pos e, if_pos e]
      unfold RepK
      exact ⟨v, _, rfl, ⟨r0.1, rv.2⟩, repK_map rv h⟩
    · rw [if_neg e, if_neg e]
      unfold RepK
      exact ⟨v0, _, rfl, r0, repK_map rv h⟩
theorem repK_app : ∀ {kvs ls : List (Key × D)} {vs us : List (Key × V)}, RepK w kvs vs → RepK w ls us → RepK w (kvs ++ ls) (vs ++ us)
  | [], ls, vs, us, r, q => by unfold RepK at r; subst r; exact q
  | (k0, d0) :: r, ls, vs, us, h, q => by
    unfold RepK at h
    obtain ⟨v0, vs', rfl, r0, h⟩ := h
    show RepK w ((k0, d0) :: (r ++ ls)) ((k0, v0) :: (vs' ++ us))
    unfold RepK
    exact ⟨v0, _, rfl, r0, repK_app h q⟩
theorem repK_one {k : Key} {d : D} {v : V} (r : KFit k ∧ Rep w d v) : RepK w [(k, d)] [(k, v)] := by
  unfold RepK
  exact ⟨v, [], rfl, r, by unfold RepK; rfl⟩
theorem repK_put {kvs : List (Key × D)} {vs : List (Key × V)} {k : Key} {d : D} {v : V} (h : RepK w kvs vs) (r : KFit k ∧ Rep w d v) : RepK w (dkSt kvs k d) (putK vs k v) := by
  unfold dkSt putK
  rw [repK_any k h]
  split
  · exact repK_map r h
  · exact repK_app h (repK_one r)
theorem repK_mer : ∀ {ls kvs : List (Key × D)} {us vs : List (Key × V)}, RepK w kvs vs → RepK w ls us → RepK w (dkMer kvs ls) (mergeK vs us)
  | [], kvs, us, vs, r, q => by unfold RepK at q; subst q; exact r
  | (k0, d0) :: ls, kvs, us, vs, r, q => by
    unfold RepK at q
    obtain ⟨v0, us', rfl, r0, q⟩ := q
    show RepK w (dkMer (dkSt kvs k0 d0) ls) (mergeK (putK vs k0 v0) us')
    exact repK_mer (repK_put r r0) q
end
section
variable (K : PySem.W.Frag) (B : Addr → Prop) (ow : List (Option Addr))
def PostFD (m : List Addr) (H : Hp) (W : Value → Option Addr → Hp → Prop) (Q : VK) : R (List (Key × D)) → Prop
  | .ok kvs S' => ∀ p vs m' H', Fut m H m' H' → Fr H p → Cells K (fun x => B x ∨ x = p) m' ow H' S' → ¬ zf B m' ow p → H' p = some (.dK vs) → RepK (wo K (fun x => B x ∨ x = p) m' ow H') kvs vs → Q (.ref p) H'
  | .er x S' => ∀ c d m' H', Fut m H m' H' → Cells K B m' ow H' S' → ExR (wo K B m' ow H') x c d → W c d H'
  | .no => False
end
abbrev RK := R (List (Key × D))
structure Efd (K : PySem.W.Frag) (X : Cx) (W : WX) (ex : Expr) (f : Sx (List (Key × D))) : Prop where
  run : ∃ te, PE X ex te ∧ ∀ b m ow H σ e S Q, At K b m ow H σ e S → PostFD K b.B ow m H (fun c d => W c d σ) Q (f e S) → te σ H Q
section
variable {K : PySem.W.Frag} {B : Addr → Prop} {ow : List (Option Addr)} {m m' : List Addr} {H H' : Hp} {S : Store} {p : Addr}
theorem Cells.hid_upd {o : HO} (c : Cells K (fun x => B x ∨ x = p) m ow H S) (ho : ∀ ps, o ≠ .tbl ps) (hp1 : ∃ o, H p = some o ∧ (∀ ps, o ≠ .tbl ps) ∧ ∀ φ, o ≠ .ext φ) (hto : ∀ xs, o ≠ .tup xs := by intro _ z; cases z) (nz : ∀ o u, H p ≠ some (.frz o u)) : Cells K (fun x => B x ∨ x = p) m ow (L2.upd H p o) S := by
  have keep : ∀ x u, x ≠ p → H x = some u → L2.upd H p o x = some u := fun x u n h => by rw [upd_ne n]; exact h
  have dom : ∀ x, Fr (L2.upd H p o) x → Fr H x := fun x h => h.upd ho
  have le : Le (wo K (fun x => B x ∨ x = p) m ow H) (wo K (fun x => B x ∨ x = p) m ow (L2.upd H p o)) := ⟨rfl, fun _ _ _ _ h => h, fun _ _ h => h, fun x u h _ z => keep x u (fun q => z (.inl (.inr q))) h, upd_fz nz⟩
  have nm : ∀ x, x ∈ m ∨ some x ∈ ow → x ≠ p := fun x hx q => c.nB x hx (.inr q)
  exact ⟨fun x hx q => c.hB x hx (dom x q), c.nd, c.no, c.nB, c.od, fun x hx q => c.oh x hx (dom x q), c.len, fun n x y h1 h2 => (c.cs n x y h1 h2).le le fun u e _ => keep x u (nm x (.inl (List.mem_of_getElem? h1))) e, tabs_keep c.tb hp1 keep, fun x z xs hx => if e : x = p then hto xs (by rw [e, upd_same] at hx; exact Option.some.inj hx) else c.ntK1 keep x z e xs hx⟩
theorem fut_new {o : HO} (f : Fut m H m' H') (hp : Fr H p) (ho : ∀ ps, o ≠ .tbl ps) : Fut m H m' (L2.upd H' p o) := by
  refine ⟨f.pre, fun a u ea n hm => ?_, fun a ha => f.dom a (ha.upd ho), fun a o u ea => by rw [upd_ne (fun q : a = p => hp.no (q ▸ ea) fun _ z => by cases z)]; exact f.fz a o u ea⟩
  rw [upd_ne (fun q => hp.no (by rw [← q]; exact ea) n)]
  exact f.keep a u ea n hm
theorem le_unhid {o : HO} (nz : ∀ o u, H p ≠ some (.frz o u)) : Le (wo K (fun x => B x ∨ x = p) m ow H) (wo K B m ow (L2.upd H p o)) := ⟨rfl, fun a u _ _ z => by
  rintro (q | q | q)
  · exact z (.inl (.inl q))
  · exact z (.inr (.inl q))
  · exact z (.inr (.inr q)), fun _ _ e => e, fun a u e _ z => by
  show L2.upd H p o a = some u
  rw [upd_ne (fun q => z (.inl (.inr q)))]
  exact e, upd_fz nz⟩
end
def eNewD (f : Sx (List (Key × D))) (e : En) (S : Store) : R D := (f e S).bind fun kvs S1 => .ok (.fk kvs) S1
def eNewDC (f : Sx (List (Key × D))) (e : En) (S : Store) : R D := (f e S).bind fun kvs S1 => pubC (.dk kvs) S1
def sOwnD (i : Nat) (f : Sx (List (Key × D))) (e : En) (S : Store) : RS := (f e S).run e fun kvs S1 => if i < e.length ∧ notOwn i e = true then .nx (e.set i (.own (.dk kvs))) S1 else .no
section
variable {K : PySem.W.Frag} {X : Cx} {W : WX} {ex ex2 : Expr} {f : Sx D} {l : Sx (List (Key × D))} {pos p pos' apos : Pos} {i : Nat} {x : Str}
theorem x_newD (h : Efd K X W ex l) : Ev K X W ex (eNewD l) := by
  obtain ⟨te, p1, h1⟩ := h.run
  refine ⟨_, pe_lockV p1, fun b m ow H σ e S Q t q => h1 b m ow H σ e S _ t ?_⟩
  unfold eNewD at q
  cases r : l e S with
  | no => rw [r] at q; exact q.elim
  | er x S1 => rw [r] at q; exact q
  | ok kvs S1 =>
    rw [r] at q
    refine fun p vs m1 H1 f1 hp c1 z hv rk => ⟨p, _, rfl, hv, True.intro, fun od => ?_⟩
    have c2 := (c1.hid_upd (o := .frz od (.dK vs)) (fun _ z => by cases z) ⟨_, hv, (fun _ z => by cases z), (fun _ z => by cases z)⟩ (nz := nz_of hv fun _ _ z => by cases z)).unhide
    refine q _ m1 _ (fut_new f1 hp fun _ z => by cases z) c2 ?_
    show Rep _ (.fk kvs) (.ref p)
    unfold Rep
    exact ⟨p, od, vs, rfl, z, upd_same, RepK.le (le_unhid (nz_of hv fun _ _ z => by cases z)) kvs rk⟩
theorem x_newDC (h : Efd K X W ex l) : Ev K X W ex (eNewDC l) := by
  obtain ⟨te, p1, h1⟩ := h.run
  refine ⟨te, p1, fun b m ow H σ e S Q t q => h1 b m ow H σ e S Q t ?_⟩
  unfold eNewDC at q
  cases r : l e S with
  | no => rw [r] at q; exact q.elim
  | er x S1 => rw [r] at q; exact q
  | ok kvs S1 =>
    rw [r] at q
    refine fun p vs m1 H1 f1 hp c1 z hv rk => ?_
    have nB : ¬ b.B p := fun q => z (.inl q)
    have nm : p ∉ m1 := fun q => z (.inr (.inl q))
    have no : some p ∉ ow := fun q => z (.inr (.inr q))
    obtain ⟨c2, l2⟩ := c1.pub (c := .dk kvs) nB no nm ⟨vs, hv, rk⟩
    refine q _ (m1 ++ [p]) _ ?_ c2 ?_
    · obtain ⟨⟨r, rfl, hr⟩, k, d, kf⟩ := f1
      exact ⟨⟨r ++ [p], by simp, fun a ha => (List.mem_append.mp ha).elim (hr a) fun h => by rw [List.mem_singleton.mp h]; exact hp⟩, k, d, kf⟩
    · unfold Rep
      refine ⟨p, rfl, ?_⟩
      show (m1 ++ [p])[S1.length]? = some p
      rw [← c1.len]
      simp
theorem s_ownD (hN : X.N.Nodup) (hi : X.N[i]? = some x) (hx : Loc X.env.scope x) (hf : Efd K X W ex l) (hs : swapsWith ex (some (.Name x pos')) pos.line X.env = pure false := by rfl) (hfn : X.fn x = true ∨ X.env.scope.names.lookup x = some .local := by first | exact .inl rfl | exact .inr rfl | assumption) : Es K X W (.Assign [.Name x pos'] ex pos) (sOwnD i l) := by
  obtain ⟨te, p1, h1⟩ := hf.run
  refine ⟨_, ps_set hN hi hx p1 hs hfn, fun b m ow H σ e S D t z => h1 b m ow H σ e S _ t ?_⟩
  unfold sOwnD at z
  cases r : l e S with
  | no => rw [r] at z; exact z.elim
  | er x S1 => rw [r] at z; exact fun c d m1 H1 f1 c1 rx => z c d σ m1 ow H1 (t.go f1 c1) f1.le rx
  | ok kvs S1 =>
    rw [r, run_ok] at z
    split at z
    · rename_i hi
      intro p vs m1 H1 f1 hp c1 hz hv rx
      have t1 := t.go f1 c1.unhide
      have r1 : CRep (wo K (fun x => b.B x ∨ x = p) m1 ow H1) p (.dk kvs) := ⟨vs, hv, rx⟩
      have lp : Le (wo K b.B m ow H) (wo K (fun x => b.B x ∨ x = p) m1 ow H1) := by
        refine ⟨rfl, fun a o e n z => ?_, fun n a e => f1.le (K := K) (B := b.B) (ow := ow) |>.m n a e, fun a o e n z => f1.keep a o e n fun hm => z (.inr (.inl hm)), f1.fz⟩
        have z2 := f1.le (K := K) (B := b.B) (ow := ow) |>.z a o e n z
        rintro ((h | h) | h | h)
        · exact z2 (.inl h)
        · exact hp.no (h ▸ e) n
        · exact z2 (.inr (.inl h))
        · exact z2 (.inr (.inr h))
      obtain ⟨t2, l2⟩ := t1.own (c := .dk kvs) (i := i) hz (t.fut.dom p hp) c1 r1 (fun j s _ hs => by
        have h := t.slots j s hs
        cases s with
        | no => exact True.intro
        | val d' => obtain ⟨u, h1, h2⟩ := h; exact ⟨u, h1, Rep.le lp d' h2⟩
        | own x =>
          obtain ⟨u, h1, h2, h3⟩ := h
          exact ⟨u, h1, h2, h3.le lp fun o e n => f1.keep u o e n fun hm => t.cells.no u hm (List.mem_of_getElem? h2)⟩) hi.1 hi.2
      exact z _ m1 _ H1 t2 (lp.trans l2)
    · exact z.elim
def kNil (e : En) (S : Store) : RK := .ok [] S
theorem PostFD.new {B : Addr → Prop} {ow : List (Option Addr)} {m : List Addr} {H : Hp} {S : Store} {W : Value → Option Addr → Hp → Prop} {Q : VK} {kvs : List (Key × D)} {vs : List (Key × V)} {p : Addr} (h : PostFD K B ow m H W Q (.ok kvs S)) (c : Cells K B m ow H S) (r : RepK (wo K B m ow H) kvs vs) (hp : H p = none) : Q (.ref p) (upd H p (.dK vs)) := by
  have hf : ¬ zf B m ow p := fun z => c.full p z (.none hp)
  exact h p vs m _ (Fut.same (same_mut (Same.refl _) hp)) (.none hp) (c.hide hp hf fun _ z => by cases z) hf upd_same (RepK.le (le_hide hp) kvs r)
theorem PostFD.go {B : Addr → Prop} {ow : List (Option Addr)} {m m' : List Addr} {H H' : Hp} {W : Value → Option Addr → Hp → Prop} {Q : VK} {r : RK} (h : PostFD K B ow m H W Q r) (f : Fut m H m' H') : PostFD K B ow m' H' W Q r := by
  cases r with
  | ok y S' => exact fun p vs m2 H2 f2 hp => h p vs m2 H2 (f.trans f2) (f.dom p hp)
  | er x S' => exact fun c d m2 H2 f2 => h c d m2 H2 (f.trans f2)
  | no => exact h
theorem fd_nil : Efd K X W (.Dict [] [] pos) kNil := by
  refine ⟨_, pe_dnewK, fun b m ow H σ e S Q t q p hp => ?_⟩
  have q : PostFD K b.B ow m H (fun c d => W c d σ) Q (.ok [] S) := q
  exact q.new t.cells (by unfold RepK; rfl) hp
def kCopy (f : Sx D) (e : En) (S : Store) : RK := (f e S).bind fun x S1 => R.of S1 (x.dkv S1)
theorem fd_copy (hg : Gl X "dict") (hm : X.mg "dict" = none) (hf : Ev K X W ex f) (hK : X.K = K := by rfl)
    (he : starEach [ex] X.env = (false, eval ex X.env) :: starEach [] X.env := by rfl) (hpl : (backTo pos (starEach [] X.env)).any (·.1) = false := by rfl) : Efd K X W (.Call (.Name "dict" p) [ex] [] pos) (kCopy f) := by
  subst hK
  obtain ⟨ta, p1, h1⟩ := hf.run
  refine ⟨_, pe_callTy call_dictD hg hm (by decide +kernel) (pa_cons p1 pa_nil he) (by decide) (by decide) he hpl, fun b m ow H σ e S Q t q => h1 b m ow H σ e S _ t ?_⟩
  unfold kCopy at q
  cases r : f e S with
  | no => rw [r] at q; exact q.elim
  | er x S1 => rw [r] at q; exact q
  | ok d S1 =>
    rw [r, ok_bind] at q
    intro v m1 H1 f1 c1 rx
    cases hx : d.dkv S1 with
    | none => rw [hx] at q; exact q.elim
    | some kvs =>
      rw [hx] at q
      obtain ⟨a, vs, rfl, rd, rk⟩ := dkv_at c1 rx hx
      exact ⟨a, vs, rfl, rd, fun p hp => (q.go f1).new c1 rk hp⟩
end
def mapK (g : Tg) (t : Sx Bool) (fk fv : Sx D) : List (Key × D) → List D → En → Store → RK
  | acc, [], _, S => .ok acc S
  | acc, d :: ds, e, S => match g d e with
    | none => .no
    | some e1 => (t e1 S).bind fun c S1 => if c then (fk e1 S1).bind fun y S2 => (fv e1 S2).bind fun z S3 => match y.key with
      | some k => mapK g t fk fv (dkSt acc k z) ds e S3
      | none => .no
      else mapK g t fk fv acc ds e S1
def kComp (vs : List Nat) (it : Sx (List D)) (g : Tg) (t : Sx Bool) (fk fv : Sx D) (e : En) (S : Store) : RK := (it e S).bind fun ds S1 => if ds.length ≤ sizeLine ∧ vs.all (fun v => notOwn v e) = true then (mapK g t fk fv [] ds (clr vs e) S1).clean else .no
section
variable {K : PySem.W.Frag} {X : Cx} {W : WX} {ex ex2 tg iter kx vx : Expr} {ifs : List Expr} {fk fv : Sx D} {t : Sx Bool} {it : Sx (List D)} {g : Tg} {pos p : Pos} {i : Nat} {x : Str}
theorem dc_rd {wi : TI} {vs : List Nat} (h1 : ∀ b m ow H σ e S Q, At K b m ow H σ e S → Post K b.B ow m H ItR (fun c d => W c d σ) Q (it e S) → wi σ H Q) : ∀ b m ow H σ e S Q, At K b m ow H σ e S → PostFD K b.B ow m H (fun c d => W c d σ) Q (kComp vs it g t fk fv e S) → tDc wi (tgOf K vs g) (ttOf K W0 t) (teOf K W0 fk) (teOf K W0 fv) vs σ H Q := by
  refine fun b m ow H σ e S Q t0 q => h1 b m ow H σ e S _ t0 ?_
  unfold kComp at q
  cases r : it e S with
  | no => rw [r] at q; exact q.elim
  | er x S1 => rw [r] at q; exact q
  | ok ds S1 =>
    rw [r, ok_bind] at q
    intro J m1 H1 f1 c1 rJ D hD
    obtain ⟨G, Y, wk, hG, hY⟩ := rJ
    split at q
    · rename_i hl
      obtain ⟨hl, hno⟩ := hl
      have t1 := t0.go f1 c1
      have hD0 : Fr b.H0 D := t1.fut.dom D (.none hD)
      have tw := wipe_at t1 vs hno
      have th : At K ⟨fun x => b.B x ∨ x = D, b.m0, b.H0, b.sf⟩ m1 ow (L2.upd H1 D (.dK [])) (wipe σ vs) (clr vs e) S1 := tw.hideB hD fun _ z => by cases z
      have l1 : Le (wo K b.B m1 ow H1) (wo K (fun x => b.B x ∨ x = D) m1 ow (L2.upd H1 D (.dK []))) := le_hide hD
      let Pv : Nat → Hp → Prop := fun i H' => ∃ m' S' vs' acc, At K ⟨fun x => b.B x ∨ x = D, b.m0, b.H0, b.sf⟩ m' ow H' (wipe σ vs) (clr vs e) S' ∧ Fut m1 H1 m' H' ∧ H' D = some (.dK vs') ∧ vs'.length ≤ i ∧ RepK (wo K (fun x => b.B x ∨ x = D) m' ow H') acc vs' ∧
        PostFD K b.B ow m H (fun c d => W c d σ) Q (mapK g t fk fv acc (ds.drop i) (clr vs e) S').clean
      refine in_it wk Pv ⟨m1, S1, [], [], th, Fut.same (same_mut (Same.refl _) hD), upd_same, Nat.le_refl _, by unfold RepK; rfl, by simpa using q⟩ ?_ ?_ ?_
      · rintro i H' hi ⟨m', S', vs', acc, t', f', _⟩
        exact hG (wo K (fun x => b.B x) m' ow H') f'.le
      · rintro i x H' H2 hi ⟨m', S', vs', acc, t', f', hv, hvl, ra, q⟩ y
        have hd : ds[i]? = some ds[i] := List.getElem?_eq_getElem hi
        have le1 : Le (wo K b.B m1 ow H1) (wo K (fun x => b.B x ∨ x = D) m' ow H') := by
          refine ⟨rfl, fun a o e n z => ?_, fun n a e => f'.le (K := K) (B := b.B) (ow := ow) |>.m n a e, fun a o e n z => f'.keep a o e n fun hm => z (.inr (.inl hm)), f'.fz⟩
          have z2 := f'.le (K := K) (B := b.B) (ow := ow) |>.z a o e n z
          rintro ((h | h) | h | h)
          · exact z2 (.inl h)
          · have e : H1 a = some o := e
            rw [h, hD] at e; cases e
          · exact z2 (.inr (.inl h))
          · exact z2 (.inr (.inr h))
        obtain ⟨s2, rd⟩ := hY i ds[i] _ x H2 hd le1 t'.cells.full y
        have t2 := t'.same s2
        rw [List.drop_eq_getElem_cons hi] at q
        unfold mapK at q
        refine ⟨_, m', ow, clr vs e, S', ds[i], t2, rd, ?_⟩
        cases qg : g ds[i] (clr vs e) with
        | none => rw [qg] at q; exact q.elim
        | some e1 =>
          rw [qg] at q
          dsimp only at q ⊢
          intro σ2 t3 hw
          rw [wipe_wipe] at hw
          refine ⟨hw, ?_⟩
          have back : ∀ {m3 : List Addr} {H3 : Hp} {S3 : Store}, Fut m' H2 m3 H3 → Cells K (fun x => b.B x ∨ x = D) m3 ow H3 S3 → At K ⟨fun x => b.B x ∨ x = D, b.m0, b.H0, b.sf⟩ m3 ow H3 (wipe σ vs) (clr vs e) S3 := fun f3 c3 => t2.go f3 c3
          refine ⟨⟨fun x => b.B x ∨ x = D, b.m0, b.H0, b.sf⟩, m', ow, e1, S', t3, ?_⟩
          cases rt : t e1 S' with
          | no => rw [rt] at q; exact q.elim
          | er x S3 => rw [rt] at q; exact q.elim
          | ok c S3 =>
            rw [rt, ok_bind] at q
            intro c' m3 H3 f3 c3 ec
            obtain rfl : c' = c := ec
            have fD : H3 D = some (.dK vs') := f3.keep D _ (s2 _ _ hv) (fun _ z => by cases z) fun hm => t2.cells.nB D (.inl hm) (.inr rfl)
            have f1D : Fut m1 H1 m3 H3 := f'.trans ((Fut.same s2).trans f3)
            have le3 : Le (wo K (fun x => b.B x ∨ x = D) m' ow H') (wo K (fun x => b.B x ∨ x = D) m3 ow H3) := ((Fut.same s2).trans f3).le
            cases c' with
            | false =>
              rw [if_neg Bool.false_ne_true] at q ⊢
              exact ⟨m3, S3, vs', acc, back f3 c3, f1D, fD, Nat.le_succ_of_le hvl, RepK.le le3 _ ra, q⟩
            | true =>
              rw [if_pos rfl] at q ⊢
              refine ⟨⟨fun x => b.B x ∨ x = D, b.m0, b.H0, b.sf⟩, m3, ow, e1, S3, t3.go f3 c3, ?_⟩
              cases rf : fk e1 S3 with
              | no => rw [rf] at q; exact q.elim
              | er x S4 => rw [rf] at q; exact q.elim
              | ok y S4 =>
                rw [rf, ok_bind] at q
                intro v m4 H4 f4 c4 ry
                refine ⟨⟨fun x => b.B x ∨ x = D, b.m0, b.H0, b.sf⟩, m4, ow, e1, S4, (t3.go f3 c3).go f4 c4, ?_⟩
                cases rf2 : fv e1 S4 with
                | no => rw [rf2] at q; exact q.elim
                | er x S4 => rw [rf2] at q; exact q.elim
                | ok z S5 =>
                  rw [rf2, ok_bind] at q
                  intro v2 m5 H5 f5 c5 rz
                  cases hk : y.key with
                  | none => rw [hk] at q; exact q.elim
                  | some k =>
                    rw [hk] at q
                    dsimp only at q
                    have ek := key_rep ry hk
                    have f45 := f4.trans f5
                    have fD4 : H5 D = some (.dK vs') := f45.keep D _ fD (fun _ z => by cases z) fun hm => c3.nB D (.inl hm) (.inr rfl)
                    have ti := back (f3.trans f45) c5
                    have tn := ti.hid_upd (o := .dK (putK vs' k v2)) hD0 (fun _ z => by cases z) ⟨_, fD4, (fun _ z => by cases z), (fun _ z => by cases z)⟩ (nz := nz_of fD4 fun _ _ z => by cases z)
                    have le4 : Le (wo K (fun x => b.B x ∨ x = D) m5 ow H5) (wo K (fun x => b.B x ∨ x = D) m5 ow (L2.upd H5 D (.dK (putK vs' k v2)))) := ⟨rfl, fun _ _ _ _ h => h, fun _ _ h => h, fun x u h _ z => by
                      show L2.upd H5 D _ x = some u
                      rw [upd_ne (fun q => z (.inl (.inr q)))]
                      exact h, upd_fz (nz_of fD4 fun _ _ z => by cases z)⟩
                    have ra4 := RepK.le (le3.trans (f45.le.trans le4)) _ ra
                    have hlen := length_putK vs' k v2
                    refine ⟨vs', k, ek, fD4, Nat.lt_of_le_of_lt hvl (Nat.lt_of_lt_of_le hi hl), m5, S5, putK vs' k v2, dkSt acc k z, tn, ?_, upd_same, by omega, repK_put ra4 ⟨key_fit ry hk, Rep.le le4 z rz⟩, q⟩
                    have fa := f1D.trans f45
                    refine ⟨fa.pre, fun a o ea n hm => ?_, fun a ha => ?_, fun a o u ea => by rw [upd_ne (ne_of_none ea hD)]; exact fa.fz a o u ea⟩
                    · rw [upd_ne (ne_of_none ea hD)]
                      exact fa.keep a o ea n hm
                    · exact fa.dom a (ha.upd fun _ z => by cases z)
      · rintro H' ⟨m', S', vs', acc, t', f', hv, hvl, ra, q⟩
        rw [List.drop_length] at q
        exact q D vs' m' H' (f1.trans f') (f1.dom D (.none hD)) t'.cells (fun z => t'.cells.nB D (by
          rcases z with z | z
          · exact absurd z (fun z => t1.cells.hB D z (.none hD))
          · exact z) (.inr rfl)) hv ra
    · exact q.elim
variable {scope : Scope} {own : List (Str × Nat)}
theorem fd_comp (hc : X.calm = true) (hN : X.N.Nodup) (hi : Ei K X W tg iter it) (ok : BlkOk X.N X.env.scope scope own)
    (hg : ∀ (s : Shared) (H : Hp) (C : Addr) (cl : List (Str × Addr)) (fp : List Addr), Eg K (X.blk s H scope (compEnvC scope cl C X.env) fp) (own.map (·.2)) tg g) (ht : ∀ (s : Shared) (H : Hp) (C : Addr) (cl : List (Str × Addr)) (fp : List Addr), Ets K (X.blk s H scope (compEnvC scope cl C X.env) fp) W0 ifs t)
    (hk : ∀ (s : Shared) (H : Hp) (C : Addr) (cl : List (Str × Addr)) (fp : List Addr), Ev K (X.blk s H scope (compEnvC scope cl C X.env) fp) W0 kx fk)
    (he : ∀ (s : Shared) (H : Hp) (C : Addr) (cl : List (Str × Addr)) (fp : List Addr), Ev K (X.blk s H scope (compEnvC scope cl C X.env) fp) W0 vx fv) (hs : ∀ x, foldedSetIterable iter X.env x = pure x := by intro _; rfl) :
    Efd K X W (.DictComp kx vx [⟨tg, iter, ifs, 0⟩] scope pos) (kComp (own.map (·.2)) it g t fk fv) := by
  obtain ⟨wi, p1, h1⟩ := hi.run
  exact ⟨_, pe_dc hc hN p1 ok (fun s H C cl fp => (hg s H C cl fp).canon) (fun s H C cl fp => (ht s H C cl fp).canon) (fun s H C cl fp => (hk s H C cl fp).canon) (fun s H C cl fp => (he s H C cl fp).canon) hs, dc_rd h1⟩
end
end Sh
namespace Sh
open PySem PySem.Spec PyProof.Rows L2 Nk StX
variable [TabSet] [BasePred]
section
variable {K : PySem.W.Frag} {b : Bs} {m m' : List Addr} {ow : List (Option Addr)} {H H' : Hp} {σ : L2.St} {e : En} {S S' : Store} {i : Nat} {a : Addr}
theorem At.lockD {kvs : List (Key × D)} (t : At K b m ow H σ e S) (q : e[i]? = some (.own (.dk kvs))) : ∃ a vs, H a = some (.dK vs) ∧ ∀ od, At K b m (ow.set i none) (L2.upd H a (.frz od (.dK vs))) σ (e.set i (.val (.fk kvs))) S ∧ Le (wo K b.B m ow H) (wo K b.B m (ow.set i none) (L2.upd H a (.frz od (.dK vs)))) := by
  obtain ⟨a, h1, h2, vs, hH, rk⟩ := t.slots i _ q
  refine ⟨a, vs, hH, fun od => ?_⟩
  have hno : ∀ ps, HO.frz od (.dK vs) ≠ .tbl ps := fun _ z => by cases z
  have keep : ∀ x u, x ≠ a → H x = some u → L2.upd H a (.frz od (.dK vs)) x = some u := upd_keep
  have dom : ∀ x, Fr (L2.upd H a (.frz od (.dK vs))) x → Fr H x := fun x h => h.upd hno
  have ha : some a ∈ ow := List.mem_of_getElem? h2
  have le1 : Le (wo K b.B m ow H) (wo K b.B m (ow.set i none) (L2.upd H a (.frz od (.dK vs)))) := ⟨rfl, fun x o _ _ z => by
    rintro (h | h | h)
    · exact z (.inl h)
    · exact z (.inr (.inl h))
    · exact z (.inr (.inr (sub_none x h))), fun _ _ e => e, fun x o ex _ z => keep x o (fun q => z (.inr (.inr (q ▸ ha)))) ex, upd_fz (nz_of hH fun _ _ z => by cases z)⟩
  have c1 := t.cells.sub sub_none (od_none (i := i) t.cells)
  have nz := own_z t.cells h2
  have c2 : Cells K b.B m (ow.set i none) (L2.upd H a (.frz od (.dK vs))) S := ⟨fun x hx q => c1.hB x hx (dom x q), c1.nd, c1.no, c1.nB, c1.od, fun x hx q => c1.oh x hx (dom x q), c1.len,
    fun n x y g1 g2 => (t.cells.cs n x y g1 g2).le le1 fun u eu _ => keep x u (fun q => t.cells.no x (List.mem_of_getElem? g1) (q ▸ ha)) eu, tabs_keep c1.tb ⟨_, hH, (fun _ z => by cases z), (fun _ z => by cases z)⟩ keep, fun x z xs hx => if e : x = a then (by rw [e, upd_same] at hx; cases hx) else c1.ntK1 keep x z e xs hx⟩
  refine ⟨⟨c2, by simpa using t.len, fun j s hs => ?_, fut_new t.fut (t.new a ha) hno, fun x hx => t.new x (sub_none x hx), oe_none t.oe, fun x hx => ?_, t.ph⟩, le1⟩
  · by_cases e1 : i = j
    · subst e1
      rw [List.getElem?_set_self (List.getElem?_eq_some_iff.mp q).1] at hs
      cases hs
      refine ⟨_, h1, ?_⟩
      unfold Rep
      exact ⟨a, od, vs, rfl, nz, upd_same, RepK.le le1 kvs rk⟩
    · rw [List.getElem?_set_ne e1] at hs
      have h := t.slots j s hs
      cases s with
      | no => exact True.intro
      | val d' => obtain ⟨u, h1, h2⟩ := h; exact ⟨u, h1, Rep.le le1 d' h2⟩
      | own x =>
        obtain ⟨u, g1, g2, g3⟩ := h
        exact ⟨u, g1, by rw [List.getElem?_set_ne e1]; exact g2, g3.le le1 fun o e _ => keep u o (fun q => e1 (t.cells.od i j a h2 (q ▸ g2))) e⟩
  · obtain ⟨g1, g2, k, fs, g3⟩ := t.sf x hx
    have n : i ≠ 0 := fun z => by
      subst z
      rw [q] at g3
      cases g3
    exact ⟨g1, by rw [List.getElem?_set_ne n]; exact g2, k, fs, by rw [List.getElem?_set_ne n]; exact g3⟩
end
def sFrzD (i : Nat) (p : Sy) (e : En) (S : Store) : RS := match (e[i]? : Option Sl) with
  | some (Sl.own (.dk kvs)) => p (e.set i (.val (.fk kvs))) S
  | _ => p e S
def setDk (i : Nat) (kvs : List (Key × D)) (y d : D) (e : En) (S : Store) : RS := match y.key with
  | some kk => if kvs.length < sizeLine then .nx (e.set i (.own (.dk (dkSt kvs kk d)))) S else .no
  | none => .no
def sDsO (i : Nat) (k f : Sx D) (e : En) (S : Store) : RS := match (e[i]? : Option Sl) with
  | some (Sl.own (.dk kvs)) => (f e S).run e fun d S1 => (k e S1).run e fun y S2 => setDk i kvs y d e S2
  | _ => .no
def putDk (n : Nat) (y d : D) (e : En) (S : Store) : RS := match S[n]?, y.key with
  | some (.dk kvs), some kk => if kvs.length < sizeLine then .nx e (S.set n (.dk (dkSt kvs kk d))) else .no
  | _, _ => .no
def sDsC (g k f : Sx D) (e : En) (S : Store) : RS := (f e S).run e fun d S1 => (g e S1).run e fun o S2 => (k e S2).run e fun y S3 => match o with
  | .ref n => putDk n y d e S3
  | _ => .no
section
variable {K : PySem.W.Frag} {X : Cx} {W : WX} {ex ex2 ex3 tg iter : Expr} {st : Stmt} {f g h k : Sx D} {q : Sy} {pos p pos' apos cpos : Pos} {i : Nat} {x : Str}
theorem s_frzD (h : Es K X W st q) : Es K X W st (sFrzD i q) := by
  obtain ⟨ts, p1, h1⟩ := h.run
  refine ⟨fun D σ H => ts D σ H ∨ tLockS ts D σ H, ⟨fun pins s σ H D I z => z.elim (p1.run pins s σ H D I) ((ps_lockS p1).run pins s σ H D I)⟩, fun b m ow H σ e S D t z => ?_⟩
  unfold sFrzD at z
  split at z
  · rename_i kvs hq
    obtain ⟨a, vs, hH, hl⟩ := t.lockD hq
    exact .inr ⟨a, _, hH, True.intro, fun od => h1 b m _ _ σ _ S D (hl od).1 (PostS.le z (hl od).2)⟩
  · exact .inl (h1 b m ow H σ e S D t z)
theorem s_dsO (hK : X.K = K) (hu : X.A.units + 65 < cLine) (hN : X.N[i]? = some x) (hv : Vis X.env.scope x) (hk : Ev K X W ex2 k) (hf : Ev K X W ex f) (hd : (x == ("__debug__" : Str)) = false := by decide) (hcd : (x == ("__classdict__" : Str)) = false := by decide)
    (hs : swapsWith ex (some (.Subscript (.Name x p) ex2 pos')) pos.line X.env = pure false := by rfl) : Es K X W (.Assign [.Subscript (.Name x p) ex2 pos'] ex pos) (sDsO i k f) := by
  subst hK
  obtain ⟨tf, p1, h1⟩ := hf.run
  obtain ⟨tk, p2, h2⟩ := hk.run
  refine ⟨_, ps_dput (by omega) (pe_var hN hv hd hcd) p2 p1 hs, fun b m ow H σ e S D t z => ?_⟩
  unfold sDsO at z
  split at z
  · rename_i kvs hq
    refine h1 b m ow H σ e S _ t (PostS.run t z fun d S1 v m1 H1 t1 f1 rv z => ?_)
    obtain ⟨a, g1, g2, vs, hH, rk⟩ := t1.slots i _ hq
    refine ⟨.ref a, g1, h2 b m1 ow H1 σ e S1 _ t1 (PostS.run t1 z fun y S2 u m2 H2 t2 f2 ry z => ?_)⟩
    unfold setDk at z
    cases hy : y.key with
    | none => rw [hy] at z; exact z.elim
    | some kk =>
      rw [hy] at z
      dsimp only at z
      split at z
      · rename_i hlt
        have ek := key_rep ry hy
        have hH2 : H2 a = some (.dK vs) := f2.keep a _ hH (fun _ z => by cases z) fun hm => t1.cells.no a hm (List.mem_of_getElem? g2)
        have rk2 := RepK.le f2.le _ rk
        have hvl := repK_len rk
        have am : zf b.B m2 ow a := .inr (.inr (List.mem_of_getElem? g2))
        obtain ⟨t4, l4⟩ := t2.own_upd (c' := .dk (dkSt kvs kk d)) g2 hq g1 (upd_keep (o := .dK (putK vs kk v))) (fun x h => h.upd fun _ z => by cases z) ⟨_, upd_same, repK_put (RepK.le (le_put am) _ rk2) ⟨key_fit ry hy, Rep.le (f2.le.trans (le_put am)) d rv⟩⟩ fun _ _ z => by cases z
        refine ⟨a, _, rfl, ?_, z _ m2 _ _ t4 l4⟩
        rw [ek]
        exact DPut.k hH2 (by omega)
      · exact z.elim
  · exact z.elim
theorem s_dsC (hK : X.K = K) (hu : X.A.units + 65 < cLine) (hg : Ev K X W ex3 g) (hk : Ev K X W ex2 k) (hf : Ev K X W ex f)
    (hs : swapsWith ex (some (.Subscript ex3 ex2 pos')) pos.line X.env = pure false := by rfl) : Es K X W (.Assign [.Subscript ex3 ex2 pos'] ex pos) (sDsC g k f) := by
  subst hK
  obtain ⟨tf, p1, h1⟩ := hf.run
  obtain ⟨tk, p2, h2⟩ := hk.run
  obtain ⟨tg, p3, h3⟩ := hg.run
  refine ⟨_, ps_dput (by omega) p3 p2 p1 hs, fun b m ow H σ e S D t z => h1 b m ow H σ e S _ t (PostS.run t z fun d S1 v m1 H1 t1 f1 rv z => h3 b m1 ow H1 σ e S1 _ t1 (PostS.run t1 z fun o S2 w' m2 H2 t2 f2 ro z => h2 b m2 ow H2 σ e S2 _ t2 (PostS.run t2 z fun y S3 u m3 H3 t3 f3 ry z => ?_)))⟩
  cases o with
  | ref n =>
    have ro := Rep.le f3.le _ ro
    unfold Rep at ro
    obtain ⟨a, rfl, hm⟩ := ro
    dsimp only at z
    unfold putDk at z
    cases hS : S3[n]? with
    | none => rw [hS] at z; exact z.elim
    | some cc =>
      cases cc with
      | dk kvs =>
        cases hy : y.key with
        | none => rw [hS, hy] at z; exact z.elim
        | some kk =>
          rw [hS, hy] at z
          dsimp only at z
          split at z
          · rename_i hlt
            obtain ⟨vs, hH, rk⟩ := t3.cells.cs n a _ hm hS
            have ek := key_rep ry hy
            have hvl := repK_len rk
            have am : zf b.B m3 ow a := .inr (.inl (List.mem_of_getElem? hm))
            obtain ⟨t4, f4⟩ := cell_put (c' := .dk (dkSt kvs kk d)) t3 hm (upd_keep (o := .dK (putK vs kk v))) (fun x h => h.upd fun _ z => by cases z) ⟨_, upd_same, repK_put (RepK.le (le_put am) _ rk) ⟨key_fit ry hy, Rep.le ((f2.trans f3).le.trans (le_put am)) d rv⟩⟩
            refine ⟨a, _, rfl, ?_, z _ m3 _ _ t4 f4.le⟩
            rw [ek]
            exact DPut.k hH (by omega)
          · exact z.elim
      | lst _ => rw [hS] at z; exact z.elim
      | ins _ _ => rw [hS] at z; exact z.elim
      | dt _ => rw [hS] at z; exact z.elim
      | fk _ => rw [hS] at z; exact z.elim
      | ft _ => rw [hS] at z; exact z.elim
  | _ => exact z.elim
theorem itr_dk {w : Wo} {a : Addr} {od : Obj} {kvs : List (Key × D)} {vs : List (Key × V)} (h : w.H a = some (.frz od (.dK vs))) (r : RepK w kvs vs) : ItR w (kvs.map fun p => keyD p.1) (Itk a od vs) := by
  have e : vs.length = (kvs.map fun p => keyD p.1).length := by rw [List.length_map, repK_len r]
  refine ⟨_, _, e ▸ walk_keys (d := a) (o := od) (kvs := vs), fun w' l => l.fz a _ _ h, fun i d w' v H' hd l _ y => ?_⟩
  obtain ⟨rfl, k, u, hk, rfl⟩ := y
  rw [List.getElem?_map] at hd
  cases q : kvs[i]? with
  | none => rw [q] at hd; cases hd
  | some p =>
    rw [q] at hd
    cases hd
    obtain ⟨v', e1, fit, _⟩ := repK_at r q
    rw [hk] at e1
    cases e1
    exact ⟨Same.refl _, rep_keyD fit⟩
theorem itr_dit {w : Wo} {a : Addr} {od : Obj} {kvs : List (Key × D)} {vs : List (Key × V)} (h : w.H a = some (.frz od (.dK vs))) (r : RepK w kvs vs) : ItR w (kvs.map fun p => D.tup [keyD p.1, p.2]) (Iti a od vs) := by
  have e : vs.length = (kvs.map fun p => D.tup [keyD p.1, p.2]).length := by rw [List.length_map, repK_len r]
  refine ⟨_, _, e ▸ walk_items (d := a) (o := od) (kvs := vs), fun w' l => l.fz a _ _ h, fun i d w' v H' hd l fl y => ?_⟩
  obtain ⟨T, x, u, rfl, hT, hH, e1, e2⟩ := y
  rw [List.getElem?_map] at hd
  cases q : kvs[i]? with
  | none => rw [q] at hd; cases hd
  | some p =>
    rw [q] at hd
    cases hd
    obtain ⟨v', e3, fit, rv⟩ := repK_at r q
    simp only [e3, Option.map_some, Option.some.injEq] at e1 e2
    subst e1 e2
    exact rep_pair fl hT hH (rep_keyD fit) (Rep.le l _ rv)
theorem i_dk (hK : X.K = K) (hf : Ev K X W iter f) : Ei K X W tg iter (iDk f) := by
  subst hK
  obtain ⟨ta, p1, h1⟩ := hf.run
  refine ⟨_, pi_keys p1, fun b m ow H σ e S Q t q => h1 b m ow H σ e S _ t (Post.bind q fun x S1 v m1 H1 f1 c1 rx q => ?_)⟩
  cases hx : x.fkv S1 with
  | none => rw [hx] at q; exact q.elim
  | some kvs =>
    rw [hx] at q
    obtain ⟨a, od, vs, rfl, hH, rk⟩ := fkv_at c1 rx hx
    exact ⟨a, od, rfl, .inl ⟨vs, hH, q _ m1 H1 (Fut.refl _ _) c1 (itr_dk hH rk)⟩⟩
theorem i_dit {elts : List Expr} {kk : Nat} {tpos : Pos} (hK : X.K = K) (hf : Ev K X W iter f) (hbase : attributeBase iter "items" X.env (eval iter X.env) = eval iter X.env := by rfl) (hline : (apos.endLine == cpos.line) = true := by rfl) :
    Ei K X W (.Tuple elts kk tpos) (.Call (.Attribute iter "items" apos) [] [] cpos) (iDit f) := by
  subst hK
  obtain ⟨ta, p1, h1⟩ := hf.run
  refine ⟨_, pi_items p1 hbase hline, fun b m ow H σ e S Q t q => h1 b m ow H σ e S _ t (Post.bind q fun x S1 v m1 H1 f1 c1 rx q => ?_)⟩
  cases hx : x.fkv S1 with
  | none => rw [hx] at q; exact q.elim
  | some kvs =>
    rw [hx] at q
    obtain ⟨a, od, vs, rfl, hH, rk⟩ := fkv_at c1 rx hx
    exact ⟨a, od, vs, rfl, hH, q _ m1 H1 (Fut.refl _ _) c1 (itr_dit hH rk)⟩
theorem x_lenD (hg : Gl X "len") (hm : X.mg "len" = none) (hf : Ev K X W ex f) (hK : X.K = K := by rfl)
    (he : starEach [ex] X.env = (false, eval ex X.env) :: starEach [] X.env := by rfl) (hpl : (backTo pos (starEach [] X.env)).any (·.1) = false := by rfl) : Ev K X W (.Call (.Name "len" p) [ex] [] pos) (eLenD f) := by
  subst hK
  obtain ⟨ta, p1, h1⟩ := hf.run
  refine ⟨_, pe_callB call_lenDR hg hm PySem.boot_len (pa_cons p1 pa_nil he) (by decide) (by decide) he hpl, fun b m ow H σ e S Q t q => h1 b m ow H σ e S _ t (Post.bind q fun d S1 v m1 H1 f1 c1 rx q => ?_)⟩
  cases hx : d.dkv S1 with
  | none => rw [hx] at q; exact q.elim
  | some kvs =>
    rw [hx] at q
    obtain ⟨a, vs, rfl, rd, rk⟩ := dkv_at c1 rx hx
    refine ⟨a, vs, rfl, rd, ?_⟩
    have q : Post X.K b.B ow m1 H1 Rep (fun c d => W c d σ) Q (.ok (.int kvs.length) S1) := q
    rw [← repK_len rk] at q
    exact q.val c1 rep_int
def lKeys (f : Sx D) (e : En) (S : Store) : R (List D) := (f e S).bind fun x S1 => R.of S1 ((x.dkv S1).bind fun kvs => if kvs.length ≤ sizeLine then some (kvs.map fun p => keyD p.1) else none)
theorem reps_keys {w : Wo} : ∀ {kvs : List (Key × D)} {vs : List (Key × V)}, RepK w kvs vs → Reps w (kvs.map fun p => keyD p.1) (vs.map fun p => kV p.1)
  | [], vs, r => by unfold RepK at r; subst r; exact reps_nil
  | (k, d) :: r, vs, h => by
    unfold RepK at h
    obtain ⟨v, vs', rfl, rv, h⟩ := h
    exact reps_cons (rep_keyD rv.1) (reps_keys h)
theorem f_keys (hc : X.calm = true) (hg : Gl X "list") (hm : X.mg "list" = none) (hf : Ev K X W ex f) (hK : X.K = K := by rfl)
    (he : starEach [ex] X.env = (false, eval ex X.env) :: starEach [] X.env := by rfl) (hpl : (backTo pos (starEach [] X.env)).any (·.1) = false := by rfl) : Ef K X W (.Call (.Name "list" p) [ex] [] pos) (lKeys f) := by
  subst hK
  obtain ⟨ta, p1, h1⟩ := hf.run
  refine ⟨_, pe_callTy (call_listD hc) hg hm (by decide +kernel) (pa_cons p1 pa_nil he) (by decide) (by decide) he hpl, fun b m ow H σ e S Q t q => h1 b m ow H σ e S _ t ?_⟩
  unfold lKeys at q
  cases r : f e S with
  | no => rw [r] at q; exact q.elim
  | er x S1 => rw [r] at q; exact q
  | ok d S1 =>
    rw [r, ok_bind] at q
    intro v m1 H1 f1 c1 rx
    cases hx : d.dkv S1 with
    | none => rw [hx] at q; exact q.elim
    | some kvs =>
      rw [hx, Option.bind_some] at q
      obtain ⟨a, vs, rfl, rd, rk⟩ := dkv_at c1 rx hx
      split at q
      · rename_i hl
        exact ⟨a, vs, rfl, rd, fun p hp => PostF.new (PostF.go q f1) c1 (reps_keys rk) (by rw [List.length_map, repK_len rk]; exact hl) hp⟩
      · exact q.elim
end
end Sh
namespace Sh
open PySem PySem.Spec PyProof.Rows L2 Nk StX
variable [TabSet] [BasePred]
def pairsD : List (Sx D × Sx D) → En → Store → RK
  | [], _, S => .ok [] S
  | p :: r, e, S => (p.1 e S).bind fun y S1 => (p.2 e S1).bind fun z S2 => (pairsD r e S2).bind fun ps S3 => match y.key with
    | some k => .ok ((k, z) :: ps) S3
    | none => .no
def kDisp (l : List (Sx D × Sx D)) (e : En) (S : Store) : RK := (pairsD l e S).clean.bind fun ps S1 => if ps.length ≤ 15 then .ok (dkMer [] ps) S1 else .no
def RPs : Wo → List (Key × D) → List (V × V) → Prop := fun w kds ps => ∃ vs : List (Key × V), ps = vs.map (fun p => (kV p.1, p.2)) ∧ RepK w kds vs
structure Epp (K : PySem.W.Frag) (X : Cx) (W : WX) (pos : Pos) (ks : List (Option Expr)) (vs : List Expr) (l : List (Sx D × Sx D)) : Prop where
  run : ∃ trs, PPs X pos ks vs trs ∧ ∀ b m ow H σ e S Q, At K b m ow H σ e S → Post K b.B ow m H RPs (fun c d => W c d σ) Q (pairsD l e S) → tPairs trs σ H Q
section
variable {K : PySem.W.Frag} {X : Cx} {W : WX} {ex ex2 : Expr} {f g : Sx D} {l : List (Sx D × Sx D)} {ks : List (Option Expr)} {vs : List Expr} {pos p : Pos}
theorem pp_nil : Epp K X W pos [] [] [] := ⟨_, pps_nil, fun b m ow H σ e S Q t q => q [] m H (Fut.refl _ _) t.cells ⟨[], rfl, by unfold RepK; rfl⟩⟩
theorem pp_cons (hf : Ev K X W ex f) (hg : Ev K X W ex2 g) (h : Epp K X W pos ks vs l) : Epp K X W pos (some ex :: ks) (ex2 :: vs) ((f, g) :: l) := by
  obtain ⟨ta, p1, h1⟩ := hf.run
  obtain ⟨tb, p2, h2⟩ := hg.run
  obtain ⟨trs, p3, h3⟩ := h.run
  refine ⟨_, pps_cons p1 p2 p3, fun b m ow H σ e S Q t q => h1 b m ow H σ e S _ t (Post.bind q fun y S1 u m1 H1 f1 c1 ry q => h2 b m1 ow H1 σ e S1 _ (t.go f1 c1) (Post.bind q fun z S2 v m2 H2 f2 c2 rz q => h3 b m2 ow H2 σ e S2 _ ((t.go f1 c1).go f2 c2) (Post.bind q fun ps S3 ws m3 H3 f3 c3 rp q => ?_)))⟩
  cases hk : y.key with
  | none => rw [hk] at q; exact q.elim
  | some k =>
    rw [hk] at q
    obtain ⟨us, rfl, rk⟩ := rp
    have ek := key_rep ry hk
    refine q _ m3 H3 (Fut.refl _ _) c3 ⟨(k, v) :: us, by rw [ek]; rfl, ?_⟩
    unfold RepK
    exact ⟨v, us, rfl, ⟨key_fit ry hk, Rep.le f3.le z rz⟩, rk⟩
theorem fd_disp (h : Epp K X W pos ks vs l) (hall : ks.all (·.isSome) = true := by rfl) (hl : ks.length = vs.length := by rfl) (h0 : ks ≠ [] := by simp) (h15 : ks.length ≤ 15 := by decide) : Efd K X W (.Dict ks vs pos) (kDisp l) := by
  obtain ⟨trs, p1, h1⟩ := h.run
  refine ⟨_, pe_disp p1 hall hl h0 h15, fun b m ow H σ e S Q t q p hp => ?_⟩
  unfold kDisp at q
  have th := t.hideB (o := .dK []) hp fun _ z => by cases z
  refine h1 _ m ow _ σ e S _ th ?_
  cases r : pairsD l e S with
  | no => rw [r] at q; exact q.elim
  | er x S1 => rw [r] at q; exact q.elim
  | ok ps S1 =>
    rw [r, clean_ok, ok_bind] at q
    split at q
    · rename_i h15'
      intro ws m1 H1 f1 c1 rp
      obtain ⟨us, rfl, rk⟩ := rp
      have hH1 : H1 p = some (.dK []) := f1.keep p _ upd_same (fun _ z => by cases z) fun hm => th.cells.nB p (.inl hm) (.inr rfl)
      have hFr : Fr H p := .none hp
      have f0 : Fut m H m1 H1 := (Fut.same (same_mut (Same.refl _) hp)).trans f1
      refine ⟨hH1, us, rfl, by rw [repK_len rk]; exact h15', ?_⟩
      have le1 : Le (wo K (fun x => b.B x ∨ x = p) m1 ow H1) (wo K (fun x => b.B x ∨ x = p) m1 ow (L2.upd H1 p (.dK (mergeK [] us)))) := ⟨rfl, fun _ _ _ _ h => h, fun _ _ h => h, fun x u h _ z => by
        show L2.upd H1 p _ x = some u
        rw [upd_ne (fun q => z (.inl (.inr q)))]
        exact h, upd_fz (nz_of hH1 fun _ _ z => by cases z)⟩
      refine q p _ m1 _ (fut_new f0 hFr fun _ z => by cases z) hFr (c1.hid_upd (fun _ z => by cases z) ⟨_, hH1, (fun _ z => by cases z), (fun _ z => by cases z)⟩ (nz := nz_of hH1 fun _ _ z => by cases z)) (fun z => c1.nB p (by
        rcases z with z | z
        · exact absurd z (fun z => t.cells.hB p z hFr)
        · exact z) (.inr rfl)) upd_same (RepK.le le1 _ (repK_mer (by unfold RepK; rfl) rk))
    · exact q.elim
def pairOf : D → Option (Key × D)
  | .tup [k, v] => (k.key).map fun k => (k, v)
  | _ => none
def pairsOf : List D → Option (List (Key × D))
  | [] => some []
  | d :: ds => (pairOf d).bind fun p => (pairsOf ds).map fun ps => p :: ps
def kPairs (f : Sx D) (e : En) (S : Store) : RK := (f e S).bind fun x S1 => match x with
  | .lst ds => R.of S1 ((pairsOf ds).map fun ps => dkMer [] ps)
  | _ => .no
theorem pairs_at {w : Wo} : ∀ {ds : List D} {vs : List V} {ps : List (Key × D)}, Reps w ds vs → pairsOf ds = some ps → ∃ (as : List Addr) (kvs : List (Key × V)), vs = as.map V.ref ∧ Paired (fun p kv => SqT w.K w.H p [kV kv.1, kv.2]) as kvs ∧ RepK w ps kvs
  | [], vs, ps, r, h => by
    unfold Reps at r
    unfold pairsOf at h
    cases h
    subst r
    exact ⟨[], [], rfl, .nil, by unfold RepK; rfl⟩
  | d :: ds, vs, ps, r, h => by
    unfold pairsOf at h
    cases hp : pairOf d with
    | none => rw [hp] at h; cases h
    | some p =>
      rw [hp, Option.bind_some] at h
      cases hq : pairsOf ds with
      | none => rw [hq] at h; cases h
      | some qs =>
        rw [hq] at h
        cases h
        unfold Reps at r
        obtain ⟨v, us, rfl, r1, r2⟩ := r
        obtain ⟨as, kvs, rfl, pr, rk⟩ := pairs_at r2 hq
        unfold pairOf at hp
        split at hp
        · rename_i k z
          cases hk : k.key with
          | none => rw [hk] at hp; cases hp
          | some kk =>
            rw [hk] at hp
            cases hp
            unfold Rep at r1
            obtain ⟨a, ws, rfl, tr, rr⟩ := r1
            unfold Reps at rr
            obtain ⟨v1, rr', rfl, q1, q2⟩ := rr
            unfold Reps at q2
            obtain ⟨v2, rr'', rfl, q2, q3⟩ := q2
            unfold Reps at q3
            subst q3
            have ek := key_rep q1 hk
            subst ek
            refine ⟨a :: as, (kk, v2) :: kvs, rfl, .cons tr.sq pr, ?_⟩
            unfold RepK
            exact ⟨v2, kvs, rfl, ⟨key_fit q1 hk, q2⟩, rk⟩
        · cases hp
theorem fd_pairs (hc : X.calm = true) (hg : Gl X "dict") (hm : X.mg "dict" = none) (hf : Ev K X W ex f) (hK : X.K = K := by rfl)
    (he : starEach [ex] X.env = (false, eval ex X.env) :: starEach [] X.env := by rfl) (hpl : (backTo pos (starEach [] X.env)).any (·.1) = false := by rfl) : Efd K X W (.Call (.Name "dict" p) [ex] [] pos) (kPairs f) := by
  subst hK
  obtain ⟨ta, p1, h1⟩ := hf.run
  refine ⟨_, pe_callTy (call_dictP hc) hg hm (by decide +kernel) (pa_cons p1 pa_nil he) (by decide) (by decide) he hpl, fun b m ow H σ e S Q t q => h1 b m ow H σ e S _ t ?_⟩
  unfold kPairs at q
  cases r : f e S with
  | no => rw [r] at q; exact q.elim
  | er x S1 => rw [r] at q; exact q
  | ok d S1 =>
    rw [r, ok_bind] at q
    intro v m1 H1 f1 c1 rx
    cases d <;> try exact q.elim
    rename_i ds
    dsimp only at q
    cases hx : pairsOf ds with
    | none => rw [hx] at q; exact q.elim
    | some ps =>
      rw [hx] at q
      obtain ⟨a, vs, rfl, tr, rr⟩ := rep_list rx
      obtain ⟨as, kvs, rfl, pr, rk⟩ := pairs_at rr hx
      exact ⟨a, as, kvs, rfl, tr.sq, pr, fun p hp => (q.go f1).new c1 (repK_mer (by unfold RepK; rfl) rk) hp⟩
end
def dkHits (ls : List (Key × D)) : List (Key × D) → Option Bool
  | [] => some true
  | (k, d) :: r => match dkV ls k with
    | none => some false
    | some d2 => (dEq d d2).bind fun b => b.b.bind fun b => (dkHits ls r).map fun c => b && c
def dkEq (ks ls : List (Key × D)) : Option Bool := if ks.length = ls.length then dkHits ls ks else some false
def oEqD (neg : Bool) (x y : D) (S : Store) : R D := R.of S ((x.dkv S).bind fun ks => (y.dkv S).bind fun ls => (dkEq ks ls).map fun b => .bl (if neg then !b else b))
inductive HitsV (K : PySem.W.Frag) (H : Hp) (ls : List (Key × V)) : List (Key × V) → Bool → Prop
  | nil : HitsV K H ls [] true
  | miss {k : Key} {v : V} {r : List (Key × V)} : valV ls k = none → HitsV K H ls ((k, v) :: r) false
  | hit {k : Key} {v y : V} {r : List (Key × V)} {p q : PyData} {b : Bool} : valV ls k = some y → Dp K H v p → Dp K H y q → p.plain = true → q.plain = true → p.depth ≤ 60 → HitsV K H ls r b → HitsV K H ls ((k, v) :: r) (PyData.eqv p q && b)
def rEqK (K : PySem.W.Frag) (neg : Bool) : R2 := fun x y H Q => ∃ a b ks ls r, x = .ref a ∧ y = .ref b ∧ Rd H a (.dK ks) ∧ Rd H b (.dK ls) ∧ (ks.length = ls.length → HitsV K H ls ks r) ∧ Q (.bl (if neg then !(ks.length == ls.length && r) else (ks.length == ls.length && r))) H
theorem hits_of {X : Cx} {pins : List (Addr × Obj)} {σ : L2.St} {H : Hp} {s : Shared} {A : Around} {ls : List (Key × V)} {vb : List (Key × Value)} (I : Inv X pins σ H s) (hu : A.units + 62 < cLine) (rb : KV ls vb) : ∀ {ks : List (Key × V)} {va : List (Key × Value)} {r : Bool}, KV ks va → HitsV X.K H ls ks r → PySem.W.KeqHits A s vb va r
  | [], va, r, ra, h => by
    cases ra
    cases h
    exact .nil
  | (k, v) :: ks, va, r, ra, h => by
    cases ra with
    | @cons a q as bs h1 t =>
      obtain ⟨k', u⟩ := q
      obtain ⟨e1, ru⟩ := h1
      have e1 : k = k' := e1
      subst e1
      cases h with
      | miss hn =>
        refine .miss ?_
        have := rb.val k
        rw [hn] at this
        cases hv : valueAt vb k with
        | none => rfl
        | some y => rw [hv] at this; exact this.elim
      | @hit _ _ y _ p q b hy d1 d2 p1 p2 p3 hr =>
        have := rb.val k
        rw [hy] at this
        cases hv : valueAt vb k with
        | none => rw [hv] at this; exact this.elim
        | some y' =>
          rw [hv] at this
          obtain ⟨as, r1⟩ := Dp.reads I p v u d1 ru
          obtain ⟨bs, r2⟩ := Dp.reads I q y y' d2 this
          exact .hit hv (SeqAt.eqAt_plain _ _ _ _ _ _ _ _ r1 r2 p1 p2 (by omega)) (hits_of I hu rb t hr)
theorem op_eqK {X : Cx} (hu : X.A.units + 65 < cLine) : OpR X (compareOp .Eq) (rEqK X.K false) := by
  intro pins s σ H x y v u Q I rx ry h
  obtain ⟨a, b, ks, ls, r, rfl, rfl, ea, eb, hp, q⟩ := h
  obtain rfl : v = Value.ref a := rx
  obtain rfl : u = Value.ref b := ry
  obtain ⟨_, ya, va, ra, da⟩ := dk_rd I.hok ea
  obtain ⟨_, yb, vb, rb, db⟩ := dk_rd I.hok eb
  refine PySem.W.keq_eq (knd := mixKind X.prog X.w) (r := r) ya yb da db (by omega) (fun hl => hits_of I (by show X.A.units + 1 + 62 < cLine; omega) rb ra (hp (by rw [ra.length, rb.length]; exact hl))) (fin_bl I q ?_)
  rw [ra.length, rb.length]
  rfl
theorem op_neK {X : Cx} (hu : X.A.units + 65 < cLine) : OpR X (compareOp .NotEq) (rEqK X.K true) := by
  intro pins s σ H x y v u Q I rx ry h
  obtain ⟨a, b, ks, ls, r, rfl, rfl, ea, eb, hp, q⟩ := h
  obtain rfl : v = Value.ref a := rx
  obtain rfl : u = Value.ref b := ry
  obtain ⟨_, ya, va, ra, da⟩ := dk_rd I.hok ea
  obtain ⟨_, yb, vb, rb, db⟩ := dk_rd I.hok eb
  refine PySem.W.keq_ne (knd := mixKind X.prog X.w) (r := r) ya yb da db (by omega) (fun hl => hits_of I (by show X.A.units + 1 + 62 < cLine; omega) rb ra (hp (by rw [ra.length, rb.length]; exact hl))) (fin_bl I q ?_)
  rw [ra.length, rb.length]
  rfl
section
variable {K : PySem.W.Frag} {X : Cx}
theorem hitsV_of {w : Wo} {ls : List (Key × D)} {lv : List (Key × V)} (rl : RepK w ls lv) : ∀ {ks : List (Key × D)} {kv : List (Key × V)} {b : Bool}, RepK w ks kv → dkHits ls ks = some b → HitsV w.K w.H lv kv b
  | [], kv, b, r, h => by
    unfold RepK at r
    unfold dkHits at h
    subst r
    cases h
    exact .nil
  | (k, d) :: ks, kv, b, r, h => by
    unfold RepK at r
    obtain ⟨v, kv', rfl, ⟨_, rv⟩, r⟩ := r
    unfold dkHits at h
    cases hv : dkV ls k with
    | none =>
      rw [hv] at h
      cases h
      exact .miss (repK_none rl hv)
    | some d2 =>
      rw [hv] at h
      dsimp only at h
      obtain ⟨v2, e2, rv2⟩ := repK_get rl hv
      unfold dEq dEqP at h
      split at h
      · rename_i p q ep eq
        split at h
        · rename_i h60
          simp only [Bool.false_eq_true, if_false, Option.bind_some, D.b] at h
          cases hh : dkHits ls ks with
          | none => rw [hh] at h; cases h
          | some c =>
            rw [hh] at h
            cases h
            obtain ⟨a1, b1⟩ := rep_dp _ rv ep
            obtain ⟨a2, b2⟩ := rep_dp _ rv2 eq
            exact .hit e2 a1 a2 b1 b2 h60 (hitsV_of rl r hh)
        · cases h
      · cases h
theorem eqD_rd {neg : Bool} : ∀ B m ow H S x y dx dy Q (W : Value → Option Addr → Hp → Prop), Cells K B m ow H S → Rep (wo K B m ow H) dx x → Rep (wo K B m ow H) dy y → Post K B ow m H Rep W Q (oEqD neg dx dy S).clean → rEqK K neg x y H Q := by
  intro B m ow H S x y dx dy Q W c rx ry q
  unfold oEqD at q
  cases hx : dx.dkv S with
  | none => rw [hx] at q; exact q.elim
  | some ks =>
    cases hy : dy.dkv S with
    | none => rw [hx, hy] at q; exact q.elim
    | some ls =>
      rw [hx, hy] at q
      simp only [Option.bind_some] at q
      obtain ⟨a, va, rfl, ra, ka⟩ := dkv_at c rx hx
      obtain ⟨b, vb, rfl, rb, kb⟩ := dkv_at c ry hy
      have l1 := repK_len ka
      have l2 := repK_len kb
      unfold dkEq at q
      by_cases hl : ks.length = ls.length
      · rw [if_pos hl] at q
        cases hh : dkHits ls ks with
        | none => rw [hh] at q; exact q.elim
        | some r =>
          rw [hh] at q
          have q : Post K B ow m H Rep W Q (.ok (.bl (if neg then !r else r)) S) := q
          refine ⟨a, b, va, vb, r, rfl, rfl, ra, rb, fun _ => hitsV_of kb ka hh, ?_⟩
          have : (va.length == vb.length) = true := by rw [l1, l2, hl]; simp
          rw [this, Bool.true_and]
          exact q.val c rep_bl
      · rw [if_neg hl] at q
        have q : Post K B ow m H Rep W Q (.ok (.bl (if neg then !false else false)) S) := q
        refine ⟨a, b, va, vb, false, rfl, rfl, ra, rb, fun z => absurd (by rw [← l1, ← l2]; exact z) hl, ?_⟩
        rw [Bool.and_false]
        exact q.val c rep_bl
theorem oe_eqD (hK : X.K = K) (hu : X.A.units + 65 < cLine) : OpE K X (compareOp .Eq) (oEqD false) := by
  subst hK
  exact ⟨_, op_eqK hu, eqD_rd⟩
theorem oe_neD (hK : X.K = K) (hu : X.A.units + 65 < cLine) : OpE K X (compareOp .NotEq) (oEqD true) := by
  subst hK
  exact ⟨_, op_neK hu, eqD_rd⟩
end
end Sh
namespace Sh
open PySem PySem.Spec PyProof.Rows L2 Nk StX
variable [TabSet] [BasePred]
section
variable {X : Cx} {W : WX} {K : PySem.W.Frag} {fe ex : Expr} {es : List Expr} {f : Sx D} {a : Sx (List D)} {pos p : Pos} {lv j : Nat} {sp : Sp} {ks : List Str} {kws : List Keyword} {c : String} {C g : Addr} {tf : TE} {t : TA} {tk : TA} {F : List D → Store → R D}
def kwdI (f : Cell → List D → Store → R Cell) (c : Cell) (ds : List D) (S : Store) : R Cell := f c (ds ++ [.fk []]) S
theorem shi_kwd {G : Cell → List D → Store → R Cell} (h : Shi K sp G) : Shi K (kwdSp sp) (kwdI G) := by
  intro B m S c ds a us H Q E hz cl cr hk r q d hd od
  have s : Same H (upd H d (.frz od (.dK []))) := same_mut (Same.refl _) hd
  refine h B m S c _ a _ _ Q E hz (cl.same s) (cr.le (Fut.same s).le fun o e _ => s _ _ e) hk (reps_app (Reps.le (Fut.same s).le _ r) (reps_cons ?_ reps_nil)) (q.same s)
  unfold Rep
  exact ⟨d, od, [], rfl, fun z => cl.full d z (.none hd), upd_same, by unfold RepK; rfl⟩
end
end Sh
namespace Sh
open PySem PySem.Spec PyProof.Rows L2 Nk StX
variable [TabSet] [BasePred]
mutual
def D.low (n : Nat) : D → Bool
  | .tup xs => D.lows n xs
  | .lst xs => D.lows n xs
  | .scr xs => D.lows n xs
  | .tpl xs => D.lows n xs
  | .obj _ fs => D.lowF n fs
  | .exc _ fs => D.lowF n fs
  | .dk kvs => D.lowK n kvs
  | .fk kvs => D.lowK n kvs
  | .dt kvs => D.lowT n kvs
  | .ft kvs => D.lowT n kvs
  | .ref k => decide (k < n)
  | _ => true
def D.lows (n : Nat) : List D → Bool
  | [] => true
  | d :: ds => d.low n && D.lows n ds
def D.lowF (n : Nat) : List (Str × D) → Bool
  | [] => true
  | (_, d) :: ds => d.low n && D.lowF n ds
def D.lowK (n : Nat) : List (Key × D) → Bool
  | [] => true
  | (_, d) :: ds => d.low n && D.lowK n ds
def D.lowT (n : Nat) : List (List Key × D) → Bool
  | [] => true
  | (_, d) :: ds => d.low n && D.lowT n ds
end
def Cell.low (n : Nat) : Cell → Bool
  | .lst ds => D.lows n ds
  | .ins _ fs => D.lowF n fs
  | .dk kvs => D.lowK n kvs
  | .dt kvs => D.lowT n kvs
  | .fk kvs => D.lowK n kvs
  | .ft kvs => D.lowT n kvs
def Sl.low (n : Nat) : Sl → Bool
  | .no => true
  | .val d => d.low n
  | .own c => c.low n
structure LowLe (n : Nat) (w w' : Wo) : Prop where
  K : w'.K = w.K
  z : ∀ a, ¬ w.Z a → ¬ w'.Z a
  H : w'.H = w.H
  m : ∀ k a, k < n → w.m[k]? = some a → w'.m[k]? = some a
section
variable {n : Nat} {w w' : Wo}
theorem TrS.low (l : LowLe n w w') {a : Addr} {vs : List V} (h : TrS w a vs) : TrS w' a vs := by
  obtain ⟨h, g⟩ := h
  refine ⟨?_, g⟩
  rw [l.K, l.H]
  exact h.imp (fun q => ⟨l.z _ q.1, q.2⟩) id
theorem TrT.low (l : LowLe n w w') {a : Addr} {vs : List V} (h : TrT w a vs) : TrT w' a vs := ⟨⟨l.z _ h.1.1, by rw [l.H]; exact h.1.2⟩, h.2⟩
mutual
theorem rep_low (l : LowLe n w w') : ∀ (d : D) {v : V}, d.low n = true → Rep w d v → Rep w' d v
  | .non, _, _, h => by unfold Rep at h ⊢; exact h
  | .bl _, _, _, h => by unfold Rep at h ⊢; exact h
  | .int _, _, _, h => by unfold Rep at h ⊢; exact h
  | .str _, _, _, h => by unfold Rep at h ⊢; exact h
  | .ty _, _, _, h => by unfold Rep at h ⊢; exact h
  | .cls _, _, _, h => by unfold Rep at h ⊢; rw [l.K]; exact h
  | .adr _, _, _, h => by unfold Rep at h ⊢; exact h
  | .ref k, _, q, h => by
    unfold D.low at q
    unfold Rep at h ⊢
    obtain ⟨a, e, hm⟩ := h
    exact ⟨a, e, l.m k a (of_decide_eq_true q) hm⟩
  | .tup ds, _, q, h => by
    unfold D.low at q
    unfold Rep at h ⊢
    obtain ⟨a, vs, e, t, r⟩ := h
    exact ⟨a, vs, e, t.low l, reps_low l ds q r⟩
  | .lst ds, _, q, h => by
    unfold D.low at q
    unfold Rep at h ⊢
    obtain ⟨a, vs, e, ⟨z, t, g⟩, r⟩ := h
    exact ⟨a, vs, e, ⟨l.z _ z, by rw [l.H]; exact t, g⟩, reps_low l ds q r⟩
  | .scr ds, _, q, h => by
    unfold D.low at q
    unfold Rep at h ⊢
    obtain ⟨a, vs, e, t, r⟩ := h
    exact ⟨a, vs, e, t.low l, reps_low l ds q r⟩
  | .obj c fs, _, q, h => by
    unfold D.low at q
    unfold Rep at h ⊢
    rw [l.K, l.H]
    obtain ⟨a, dx, gs, e, z, t, r⟩ := h
    exact ⟨a, dx, gs, e, l.z _ z, t, repF_low l fs q r⟩
  | .exc c fs, _, q, h => by
    unfold D.low at q
    unfold Rep at h ⊢
    rw [l.K, l.H]
    obtain ⟨a, d, gs, e, z, t, z2, t2, r⟩ := h
    exact ⟨a, d, gs, e, l.z _ z, t, l.z _ z2, t2, repF_low l fs q r⟩
  | .dk kvs, _, q, h => by
    unfold D.low at q
    unfold Rep at h ⊢
    rw [l.H]
    obtain ⟨a, vs, e, z, t, r⟩ := h
    exact ⟨a, vs, e, l.z _ z, t, repK_low l kvs q r⟩
  | .fk kvs, _, q, h => by
    unfold D.low at q
    unfold Rep at h ⊢
    rw [l.H]
    obtain ⟨a, o, vs, e, z, t, r⟩ := h
    exact ⟨a, o, vs, e, l.z _ z, t, repK_low l kvs q r⟩
  | .dt kvs, _, q, h => by
    unfold D.low at q
    unfold Rep at h ⊢
    rw [l.H]
    obtain ⟨a, vs, e, z, t, r⟩ := h
    exact ⟨a, vs, e, l.z _ z, t, repT_low l kvs q r⟩
  | .tpl ds, _, q, h => by
    unfold D.low at q
    unfold Rep at h ⊢
    rw [l.H]
    obtain ⟨a, o, vs, e, z, t, g, r⟩ := h
    exact ⟨a, o, vs, e, l.z _ z, t, g, reps_low l ds q r⟩
  | .ft kvs, _, q, h => by
    unfold D.low at q
    unfold Rep at h ⊢
    rw [l.H]
    obtain ⟨a, o, vs, e, z, t, r⟩ := h
    exact ⟨a, o, vs, e, l.z _ z, t, repT_low l kvs q r⟩
theorem reps_low (l : LowLe n w w') : ∀ (ds : List D) {vs : List V}, D.lows n ds = true → Reps w ds vs → Reps w' ds vs
  | [], _, _, h => by unfold Reps at h ⊢; exact h
  | d :: ds, _, q, h => by
    unfold D.lows at q
    rw [Bool.and_eq_true] at q
    unfold Reps at h ⊢
    obtain ⟨v, r, e, a, b⟩ := h
    exact ⟨v, r, e, rep_low l d q.1 a, reps_low l ds q.2 b⟩
theorem repF_low (l : LowLe n w w') : ∀ (ds : List (Str × D)) {vs : List (Str × V)}, D.lowF n ds = true → RepF w ds vs → RepF w' ds vs
  | [], _, _, h => by unfold RepF at h ⊢; exact h
  | (f, d) :: ds, _, q, h => by
    unfold D.lowF at q
    rw [Bool.and_eq_true] at q
    unfold RepF at h ⊢
    obtain ⟨v, r, e, a, b⟩ := h
    exact ⟨v, r, e, rep_low l d q.1 a, repF_low l ds q.2 b⟩
theorem repK_low (l : LowLe n w w') : ∀ (ds : List (Key × D)) {vs : List (Key × V)}, D.lowK n ds = true → RepK w ds vs → RepK w' ds vs
  | [], _, _, h => by unfold RepK at h ⊢; exact h
  | (f, d) :: ds, _, q, h => by
    unfold D.lowK at q
    rw [Bool.and_eq_true] at q
    unfold RepK at h ⊢
    obtain ⟨v, r, e, ⟨g, a⟩, b⟩ := h
    exact ⟨v, r, e, ⟨g, rep_low l d q.1 a⟩, repK_low l ds q.2 b⟩
theorem repT_low (l : LowLe n w w') : ∀ (ds : List (List Key × D)) {vs : List (List Key × V)}, D.lowT n ds = true → RepT w ds vs → RepT w' ds vs
  | [], _, _, h => by unfold RepT at h ⊢; exact h
  | (f, d) :: ds, _, q, h => by
    unfold D.lowT at q
    rw [Bool.and_eq_true] at q
    unfold RepT at h ⊢
    obtain ⟨v, r, e, ⟨g, a⟩, b⟩ := h
    exact ⟨v, r, e, ⟨g, rep_low l d q.1 a⟩, repT_low l ds q.2 b⟩
end
theorem crep_low (l : LowLe n w w') {a : Addr} : ∀ {c : Cell}, c.low n = true → CRep w a c → CRep w' a c
  | .lst ds, q, h => by
    obtain ⟨vs, h, g, r⟩ := h
    exact ⟨vs, by rw [l.H]; exact h, g, reps_low l ds q r⟩
  | .ins c fs, q, h => by
    obtain ⟨dx, gs, h, r⟩ := h
    exact ⟨dx, gs, by rw [l.H, l.K]; exact h, repF_low l fs q r⟩
  | .dk kvs, q, h => by
    obtain ⟨vs, h, r⟩ := h
    exact ⟨vs, by rw [l.H]; exact h, repK_low l kvs q r⟩
  | .dt kvs, q, h => by
    obtain ⟨vs, h, r⟩ := h
    exact ⟨vs, by rw [l.H]; exact h, repT_low l kvs q r⟩
  | .fk kvs, q, h => by
    obtain ⟨vs, o, h, r⟩ := h
    exact ⟨vs, o, by rw [l.H]; exact h, repK_low l kvs q r⟩
  | .ft kvs, q, h => by
    obtain ⟨vs, o, h, r⟩ := h
    exact ⟨vs, o, by rw [l.H]; exact h, repT_low l kvs q r⟩
end
def takeBack (i n : Nat) (e : En) (S : Store) : RS := match S[n]?, e[i]? with
  | some (.lst ds), some (Sl.val (.ref k)) => if k = n ∧ S.length = n + 1 ∧ D.lows n ds = true ∧ (S.take n).all (Cell.low n) = true ∧ (e.set i .no).all (Sl.low n) = true then .nx (e.set i (.own (.lst ds))) (S.take n) else .no
  | _, _ => .no
def RS.back (i n : Nat) : RS → RS
  | .nx e S => takeBack i n e S
  | _ => .no
section
variable {K : PySem.W.Frag} {X : Cx} {W : WX} {st : Stmt} {q : Sy} {i : Nat} {b : Bs} {m m2 : List Addr} {ow ow2 : List (Option Addr)} {H H2 : Hp} {σ σ2 : L2.St} {e e2 : En} {S S2 : Store} {a : Addr}
theorem At.back {ds : List D} (t : At K b m ow H σ e S) (ha : ow[i]? = some (some a)) (le0 : Le (wo K b.B m ow H) (wo K b.B (m ++ [a]) (ow.set i none) H))
    (t2 : At K b m2 ow2 H2 σ2 e2 S2) (l2 : Le (wo K b.B (m ++ [a]) (ow.set i none) H) (wo K b.B m2 ow2 H2)) (hS : S2[S.length]? = some (.lst ds)) (he : e2[i]? = some (Sl.val (.ref S.length))) (hl : S2.length = S.length + 1)
    (h1 : D.lows S.length ds = true) (h2 : (S2.take S.length).all (Cell.low S.length) = true) (h3 : (e2.set i .no).all (Sl.low S.length) = true) :
    At K b m (ow2.set i (some a)) H2 σ2 (e2.set i (.own (.lst ds))) (S2.take S.length) ∧ Le (wo K b.B m ow H) (wo K b.B m (ow2.set i (some a)) H2) := by
  have hml : m.length = S.length := t.cells.len
  have em : m2 = m ++ [a] := by
    refine (List.ext_getElem? fun k => ?_).symm
    by_cases hk : k < (m ++ [a]).length
    · have : (m ++ [a])[k]? = some (m ++ [a])[k] := List.getElem?_eq_getElem hk
      rw [this]
      exact (l2.m k _ this).symm
    · rw [List.getElem?_eq_none (by omega), List.getElem?_eq_none (by rw [t2.cells.len, hl]; simp at hk; omega)]
  subst em
  have hi : i < e2.length := (List.getElem?_eq_some_iff.mp he).1
  have hio : i < ow2.length := by rw [t2.len.2]; exact hi
  have hn : ow2[i]? = some none := by
    cases h : ow2[i]? with
    | none => rw [List.getElem?_eq_none_iff] at h; omega
    | some o =>
      cases o with
      | none => rfl
      | some x =>
        obtain ⟨c, hc⟩ := t2.oe i x h
        rw [he] at hc
        cases hc
  have am : a ∈ m ++ [a] := List.mem_append_right _ List.mem_cons_self
  have anm : a ∉ m := fun z => t.cells.no a z (List.mem_of_getElem? ha)
  have anow : some a ∉ ow2 := t2.cells.no a am
  have msub : ∀ x, some x ∈ ow2.set i (some a) → x = a ∨ some x ∈ ow2 := fun x hx => by
    rcases List.mem_or_eq_of_mem_set hx with h | h
    · exact .inr h
    · exact .inl (Option.some.inj h)
  have ll : LowLe S.length (wo K b.B (m ++ [a]) ow2 H2) (wo K b.B m (ow2.set i (some a)) H2) := ⟨rfl, fun x z => by
    rintro (h | h | h)
    · exact z (.inl h)
    · exact z (.inr (.inl (List.mem_append_left _ h)))
    · rcases msub x h with rfl | h
      · exact z (.inr (.inl am))
      · exact z (.inr (.inr h)), rfl, fun k x hk h => by
    have h : (m ++ [a])[k]? = some x := h
    rw [List.getElem?_append_left (by omega)] at h
    exact h⟩
  have cell := t2.cells.cs S.length a (.lst ds) (by rw [← hml]; simp) hS
  have cell2 : CRep (wo K b.B m (ow2.set i (some a)) H2) a (.lst ds) := crep_low ll (c := .lst ds) h1 cell
  have nfr : ¬ Fr H2 a := fun f => by
    obtain ⟨vs, h, _⟩ := cell
    exact f.no h fun _ z => by cases z
  have c3 : Cells K b.B m (ow2.set i (some a)) H2 (S2.take S.length) := by
    refine ⟨t2.cells.hB, t.cells.nd, fun x hx z => ?_, fun x hx => ?_, fun j k x hj hk => ?_, fun x hx => ?_, by rw [List.length_take, hl]; omega, fun k x c g1 g2 => ?_, t2.cells.tb, fun x z => t2.cells.nt x (z.imp id fun h => h.elim (fun h => .inl (List.mem_append_left _ h)) fun h => (msub x h).elim (fun h => .inl (h ▸ am)) .inr)⟩
    · rcases msub x z with rfl | z
      · exact anm hx
      · exact t2.cells.no x (List.mem_append_left _ hx) z
    · rcases hx with hx | hx
      · exact t2.cells.nB x (.inl (List.mem_append_left _ hx))
      · rcases msub x hx with rfl | hx
        · exact t2.cells.nB x (.inl am)
        · exact t2.cells.nB x (.inr hx)
    · by_cases j1 : i = j
      · subst j1
        rw [List.getElem?_set_self hio] at hj
        have ex : a = x := by simpa using hj
        by_cases k1 : i = k
        · exact k1
        · rw [List.getElem?_set_ne k1] at hk
          exact (anow (ex ▸ List.mem_of_getElem? hk)).elim
      · rw [List.getElem?_set_ne j1] at hj
        by_cases k1 : i = k
        · subst k1
          rw [List.getElem?_set_self hio] at hk
          have ex : a = x := by simpa using hk
          exact (anow (ex ▸ List.mem_of_getElem? hj)).elim
        · rw [List.getElem?_set_ne k1] at hk
          exact t2.cells.od j k x hj hk
    · rcases msub x hx with rfl | hx
      · exact nfr
      · exact t2.cells.oh x hx
    · have hk : k < m.length := (List.getElem?_eq_some_iff.mp g1).1
      have lw : c.low S.length = true := List.all_eq_true.mp h2 c (List.mem_of_getElem? g2)
      rw [List.getElem?_take_of_lt (by omega)] at g2
      exact crep_low ll lw (t2.cells.cs k x c (by rw [List.getElem?_append_left hk]; exact g1) g2)
  refine ⟨⟨c3, by simpa using t2.len, fun j s hs => ?_, ?_, fun x hx => ?_, fun j x hx => ?_, fun x hx => ?_, t2.ph⟩, ⟨rfl, fun x o h n z => ?_, fun k x h => h, fun x o h n z => l2.keep x o (le0.keep x o h n z) n (le0.z x o h n z), fun x o u h => l2.fz x o u (le0.fz x o u h)⟩⟩
  · by_cases e1 : i = j
    · subst e1
      rw [List.getElem?_set_self hi] at hs
      cases hs
      obtain ⟨v, g1, g2⟩ := t2.slots i _ he
      unfold Rep at g2
      obtain ⟨a', rfl, g3⟩ := g2
      have g3 : (m ++ [a])[S.length]? = some a' := g3
      rw [← hml] at g3
      simp at g3
      subst g3
      exact ⟨a, g1, by rw [List.getElem?_set_self hio], cell2⟩
    · rw [List.getElem?_set_ne e1] at hs
      have lw : s.low S.length = true := List.all_eq_true.mp h3 s (List.mem_of_getElem? (i := j) (by rw [List.getElem?_set_ne e1]; exact hs))
      have h := t2.slots j s hs
      cases s with
      | no => exact True.intro
      | val d' => obtain ⟨u, g1, g2⟩ := h; exact ⟨u, g1, rep_low ll d' lw g2⟩
      | own x =>
        obtain ⟨u, g1, g2, g3⟩ := h
        exact ⟨u, g1, by rw [List.getElem?_set_ne e1]; exact g2, crep_low ll lw g3⟩
  · obtain ⟨⟨r, em, hr⟩, _, _⟩ := t.fut
    exact ⟨⟨r, em, hr⟩, t2.fut.keep, t2.fut.dom, t2.fut.fz⟩
  · rcases msub x hx with rfl | hx
    · exact t.new _ (List.mem_of_getElem? ha)
    · exact t2.new x hx
  · by_cases e1 : i = j
    · subst e1
      exact ⟨_, List.getElem?_set_self hi⟩
    · rw [List.getElem?_set_ne e1] at hx ⊢
      exact t2.oe j x hx
  · obtain ⟨g1, g2, k, fs, g3⟩ := t2.sf x hx
    have n : i ≠ 0 := fun z => by
      subst z
      rw [he] at g3
      cases g3
    exact ⟨g1, by rw [List.getElem?_set_ne n]; exact g2, k, fs, by rw [List.getElem?_set_ne n]; exact g3⟩
  · exact ll.z x (l2.z x o (le0.keep x o h n z) n (le0.z x o h n z))
end
end Sh
namespace Sh
open PySem PySem.Spec PyProof.Rows L2 Nk StX
variable [TabSet] [BasePred]
def dNilEq (neg : Bool) : D → D → Option D
  | .lst xs, .lst [] => some (.bl (if neg then !xs.isEmpty else xs.isEmpty))
  | _, _ => none
end Sh
namespace Nk
open PySem PySem.Spec PyProof.Rows L2
abbrev HdT := Value × Option Nat × TS
end Nk
namespace Sh
open PySem PySem.Spec PyProof.Rows L2 Nk StX
variable [TabSet] [BasePred]
abbrev Hd := List (String × Bool) × Option Nat × Sy
end Sh
namespace Sh
open PySem PySem.Spec PyProof.Rows L2 Nk StX
variable [TabSet] [BasePred]
section
variable {K : PySem.W.Frag} {X : Cx} {W : WX} {ex ex2 c1 c2 : Expr} {f g : Sx D} {pos p p2 p3 : Pos} {i : Nat} {x : Str}
def lRev (f : Sx D) (e : En) (S : Store) : R (List D) := (f e S).bind fun x S1 => match x with
  | .lst xs => .ok xs.reverse S1
  | _ => .no
theorem f_rev {k : Nat} {q1 q2 : Pos} (hK : X.K = K) (hf : Ev K X W ex f) : Ef K X W (.Subscript ex (.Slice none none (some (.UnaryOp .USub (.Constant (.int 1) k q1) q2)) p3) pos) (lRev f) := by
  subst hK
  obtain ⟨te, p1, h1⟩ := hf.run
  refine ⟨_, pe_revL p1, fun b m ow H σ e S Q t q => h1 b m ow H σ e S _ t ?_⟩
  unfold lRev at q
  cases r : f e S with
  | no => rw [r] at q; exact q.elim
  | er x S1 => rw [r] at q; exact q
  | ok d S1 =>
    rw [r, ok_bind] at q
    intro v m1 H1 f1 c1 rx
    cases d <;> try exact q.elim
    rename_i xs
    obtain ⟨a, vs, rfl, tr, rs⟩ := rep_list rx
    exact ⟨a, vs, rfl, tr.sq, fun p hp => PostF.new (PostF.go q f1) c1 (reps_rev rs) (by rw [List.length_reverse]; exact tr.2.2) hp⟩
end
end Sh
namespace Nk
open PySem PySem.Spec PySem.Calls PyProof.Rows L2 StX
section
variable {P : Program} {w : World} {A : Around} {E : Value → Shared → Prop} {s : Shared}
theorem dictPut_ok {K : Type} [DecidableEq K] {knd : KeyKind P w K} {d : Addr} {kvs : List (K × Value)} {k : K} {key v : Value} {Q : Unit → Shared → Prop} (hkey : knd.is k key = true) (hm : s.heap.DictOf knd d kvs)
    (hQ : ∀ h', h'.DictOf knd d (stored kvs k v) → Heap.SameBut d s.heap h' → Q () { s with heap := h' })
    (hsz : kvs.length ≤ sizeLine) : wpAny (model P w) A (dictPut d (knd.hash k) key v) Q E s := by
  obtain ⟨o, es, ep, ho, hc, hd, hk, hp, hn⟩ := hm
  have hes : es.size ≤ sizeLine := by
    have e1 := hp.length
    have e2 : es.toList.length = es.size := by simp
    omega
  unfold dictPut
  refine wpAny_bind (wpAny_dictFind_of hkey ho hd hk ?_)
  have hidx : (es.findIdx? fun e => knd.is k e.key) = kvs.findIdx? fun kv => decide (kv.1 = k) := by
    rw [← hp.findIdx k]; obtain ⟨l⟩ := es; simp
  cases hi : es.findIdx? fun e => knd.is k e.key with
  | some i =>
    refine wpAny_updateDict ho hd (hQ _ ⟨_, _, ep, Heap.get?_update_self _ ho (Obj.isFreed_of_dict (Obj.data_mapDict hd _)),
      hc.mapDict _, Obj.data_mapDict hd _, hk.modify _ _, ?_, ?_⟩ (Heap.SameBut.update ..))
    · rw [stored, if_pos (any_of_findIdx_some (hidx ▸ hi))]
      have hl : (es.toList.findIdx? fun e => knd.is k e.key) = some i := by rw [← hi]; obtain ⟨l⟩ := es; simp
      have := hp.modify hn hl v
      obtain ⟨l⟩ := es
      simpa using this
    · rw [stored, if_pos (any_of_findIdx_some (hidx ▸ hi)), keys_map_store]; exact hn
  | none =>
    have hnot : k ∉ kvs.map (·.1) := not_mem_of_findIdx_none (hidx ▸ hi)
    have hany : ¬ (kvs.any fun kv => decide (kv.1 = k)) = true := by
      rw [List.any_eq_true]; rintro ⟨kv, hkv, he⟩
      exact hnot (List.mem_map.mpr ⟨kv, hkv, of_decide_eq_true he⟩)
    refine wpAny_updateDictKeys (hz := hes) ho hd (hQ _ ⟨_, _, ep + 1, Heap.get?_update_self _ ho (Obj.isFreed_of_dict (Obj.data_mapDictKeys hd _)),
      hc.mapDictKeys _, Obj.data_mapDictKeys hd _, hk.push hkey _, ?_, ?_⟩ (Heap.SameBut.update ..))
    · rw [stored, if_neg hany]
      have := hp.append hkey (knd.hash k) v
      obtain ⟨l⟩ := es
      simpa using this
    · rw [stored, if_neg hany, List.map_append, List.nodup_append]
      refine ⟨hn, by simp, ?_⟩
      intro a ha b hb
      simp only [List.map_cons, List.map_nil, List.mem_singleton] at hb
      subst hb
      exact fun e => hnot (e ▸ ha)
theorem mm_ok {d o : Addr} {kvs more : List (Key × Value)} {Q : Unit → Shared → Prop} (hdo : d ≠ o) (hoS : (o == sysModules) = false)
    (hd : s.heap.DictOf (mixKind P w) d kvs) (ho : s.heap.DictOf (mixKind P w) o more)
    (hQ : ∀ h', h'.DictOf (mixKind P w) d (merged kvs more) → h'.DictOf (mixKind P w) o more → Heap.SameBut d s.heap h' → Q () { s with heap := h' })
    (hsz : kvs.length + more.length ≤ sizeLine) : wpAny (model P w) A (mergeMapping d (.ref o) false) Q E s := by
  obtain ⟨od, esd, epd, hod, hcd, hdd, hkd, hpd, hnd⟩ := id hd
  obtain ⟨oo, eso, epo, hoo, hco, hdo', hko, hpo, hno⟩ := id ho
  have hlen : more.length = eso.size := by rw [← hpo.length]; simp
  have nk : ∀ e ∈ eso, ∀ a, e.key ≠ .ref a := fun e he a z => by
    obtain ⟨k, hk, _⟩ := hko e he
    have hk : keyIs k e.key = true := hk
    rcases keyIs_shape hk with ⟨i, t, _, h⟩ | ⟨i, t, _, h⟩ <;> (rw [z] at h; cases h)
  unfold mergeMapping
  refine wpAny_bind (wpAny_isInstance ho.typeIs isSubtype_dict_dict ?_)
  rw [if_pos rfl]
  refine wpAny_bind (wpAny_specialOf ho.typeIs F.slot_dict_iter.lookup ?_)
  refine wpAny_bind (wpAny_pure ?_)
  rw [show ((some (Value.builtin "dict.__iter__") == some (Value.builtin "dict.__iter__"))) = true by simp]
  dsimp only
  rw [hoS, if_neg Bool.false_ne_true]
  refine wpAny_bind (wpAny_dictEntries hod hdd ?_)
  have loop : ∀ {Q : Unit → Shared → Prop}, (∀ h', h'.DictOf (mixKind P w) d (merged kvs more) → h'.DictOf (mixKind P w) o more → Heap.SameBut d s.heap h' → Q () { s with heap := h' }) → wpAny (model P w) A (do
      let l ← dictEntries o
      let epoch ← dictEpoch o
      forIn (List.range l.size) PUnit.unit fun i (_ : PUnit) => (do
          let l' ← dictEntries o
          match l'[i]? with
            | some e => do
              holding [e.key, e.val] (dictPut d e.hash e.key e.val)
              let ep' ← dictEpoch o
              if (ep' != epoch) = true then do
                  (unsupported "dict.changed-during-merge" : Sem PUnit)
                  pure (ForInStep.yield PUnit.unit)
                else pure (ForInStep.yield PUnit.unit)
            | _ => do
              (unsupported "dict.changed-during-merge" : Sem PUnit)
              pure (ForInStep.yield PUnit.unit) : Sem (ForInStep PUnit))
      pure ()) Q E s := by
    intro Q hQ
    refine wpAny_bind (wpAny_dictEntries hoo hdo' ?_)
    refine wpAny_bind (wpAny_dictEpoch hoo hdo' ?_)
    refine wpAny_bind ?_
    refine wpAny_forIn_list _
      (fun rest _ s' => ∃ h' i, s' = { s with heap := h' } ∧ rest = List.range' i (eso.size - i) ∧ i ≤ eso.size ∧ h'.DictOf (mixKind P w) d (merged kvs (more.take i)) ∧ h'.get? o = some oo ∧ Heap.SameBut d s.heap h')
      _ ?_ ?_ _ _ ⟨s.heap, 0, rfl, by simp [List.range_eq_range'], Nat.zero_le _, by simpa [merged] using hd, hoo, Heap.SameBut.refl _ _⟩
    · rintro x rest b s' ⟨h', i, rfl, hr, hi, hd', hoo', hs'⟩
      have hlt : i < eso.size := by
        rcases Nat.lt_or_ge i eso.size with h | h
        · exact h
        · rw [Nat.sub_eq_zero_of_le h] at hr; simp at hr
      obtain ⟨rfl, hrest⟩ : x = i ∧ rest = List.range' (i + 1) (eso.size - (i + 1)) := by
        have e : eso.size - i = (eso.size - (i + 1)) + 1 := by omega
        rw [e, List.range'_succ] at hr
        injection hr with h1 h2
        exact ⟨h1, h2⟩
      refine wpAny_bind (wpAny_dictEntries hoo' hdo' ?_)
      rw [Array.getElem?_eq_getElem hlt]
      obtain ⟨kv, hkv⟩ : ∃ kv, more[x]? = some kv := ⟨more[x]'(by rw [hlen]; exact hlt), List.getElem?_eq_getElem _⟩
      obtain ⟨k, v⟩ := kv
      obtain ⟨hkey, hval⟩ := hpo.get? (e := eso[x]) (by simp [hlt]) hkv
      obtain ⟨k', hkey', hhash⟩ := hko eso[x] (Array.getElem_mem hlt)
      obtain rfl : k' = k := (mixKind P w).inj _ _ _ hkey' hkey
      show wpAny _ _ (holding [eso[x].key, eso[x].val] (dictPut d eso[x].hash eso[x].key eso[x].val) >>= _) _ _ _
      rw [hhash, hval]
      have hmx : (merged kvs (more.take x)).length ≤ sizeLine := by
        have e1 := merged_length_le kvs (more.take x)
        have e2 : (more.take x).length ≤ more.length := by rw [List.length_take]; omega
        omega
      refine wpAny_bind (wpAny_holding (dictPut_ok (hsz := hmx) hkey hd' fun h'' hd'' hs'' => ?_))
      have hoo'' : h''.get? o = some oo := (hs''.2 o (Ne.symm hdo)).trans hoo'
      refine wpAny_bind (wpAny_dictEpoch hoo'' hdo' ?_)
      rw [if_neg (by simp)]
      exact wpAny_pure ⟨h'', x + 1, rfl, hrest, hlt, by rw [merged_take_succ kvs more x (k', v) hkv]; exact hd'', hoo'', hs'.trans hs''⟩
    · rintro b s' ⟨h', i, rfl, hr, hi, hd', hoo', hs'⟩
      have hin : i = eso.size := by
        rcases Nat.lt_or_ge i eso.size with h | h
        · have e : eso.size - i = (eso.size - (i + 1)) + 1 := by omega
          rw [e, List.range'_succ] at hr; exact nomatch hr
        · exact Nat.le_antisymm hi h
      refine wpAny_pure (hQ h' ?_ ⟨oo, eso, epo, hoo', hco, hdo', hko, hpo, hno⟩ hs')
      rw [hin, ← hlen, List.take_length] at hd'; exact hd'
  split
  · refine wpAny_bind (wpAny_dictEntries hoo hdo' ?_)
    refine wpAny_bind ?_
    rw [← Array.forIn_toList]
    refine wpAny_forIn_list _ (fun rest _ s' => s' = s ∧ ∀ e ∈ rest, e ∈ eso.toList) _ ?_ ?_ _ _ ⟨rfl, fun e he => by simpa using he⟩
    · rintro e rest b s' ⟨rfl, hr⟩
      have he := hr e List.mem_cons_self
      have hk := nk e (by simpa using he)
      split
      · rename_i a ea
        exact absurd ea (hk a)
      · exact wpAny_pure ⟨rfl, fun y hy => hr y (List.mem_cons_of_mem _ hy)⟩
    · rintro b s' ⟨rfl, _⟩
      exact loop hQ
  · exact loop hQ
end
def tDStar (te : TE) (trs : List (TE × TE)) : TE := fun σ H Q => ∀ D, H D = none → te σ (upd H D (.dK [])) fun x H1 => ∃ a kvs, x = V.ref a ∧ a ≠ D ∧ kvs.length + 1 ≤ sizeLine ∧ Rd H1 a (.dK kvs) ∧ H1 D = some (.dK []) ∧
  ∀ p, p ≠ D → H1 p = none → tPairs trs σ (upd (upd H1 D (.dK (mergeK [] kvs))) p (.dK [])) fun ps H3 => H3 p = some (.dK []) ∧ H3 D = some (.dK (mergeK [] kvs)) ∧
    ∃ k z, ps = [(kV k, z)] ∧ Q (.ref D) (upd (upd H3 p (.dK [(k, z)])) D (.dK (putK (mergeK [] kvs) k z)))
theorem pe_dstar {X : Cx} {pos : Pos} {e0 k v : Expr} {te : TE} {trs : List (TE × TE)} (h0 : PE X e0 te) (hp : PPs X pos [some k] [v] trs) : PE X (.Dict [none, some k] [e0, v] pos) (tDStar te trs) := by
  refine ⟨fun pins s σ H Q I q => ?_⟩
  rw [arm_eval_Dict]
  refine wpAny_bind (wpAny_standAt ?_)
  have es : (evalEachOpt [none, some k] X.env).zip ((evalEach [e0, v] X.env).map fun v => do let x ← v; standAt pos; pure x) = [(none, do let x ← eval e0 X.env; standAt pos; pure x), (some (eval k X.env), do let x ← eval v X.env; standAt pos; pure x)] := rfl
  rw [es]
  unfold dictDisplay
  simp only [List.forIn_cons, List.forIn_nil]
  refine wpAny_bind (wpAny_bind ?_)
  show wpAny _ _ (pure (none : Option Addr) >>= _) _ _ _
  refine wpAny_bind (wpAny_pure ?_)
  dsimp only
  have hn := I.hok.fresh (Nat.le_refl s.heap.objs.size)
  have I1 := I.laid (a := s.heap.objs.size) (o := .dK []) (h' := s.heap.push { cls := .type "dict", data := .dict #[] }) (t' := s.toks) (fun _ _ q => Heap.get?_push_of_some _ q) (Nat.le_refl _) (dk_empty s.heap I.big)
  refine wpAny_bind (wpAny_alloc ?_)
  refine wpAny_bind (wpAny_holding (wpAny_bind (thn (h0.run pins _ σ _ _ I1 (q _ hn)) fun u s1 ⟨x, H1, I2, rx, a, kvs, ex, hne, hsz, ha, hD, q1⟩ => wpAny_bind (wpAny_standAt (wpAny_pure ?_)))))
  subst ex
  obtain rfl : u = Value.ref a := rx
  generalize hDD : s.heap.objs.size = D at *
  obtain ⟨_, hd0, vs0, r0, dd0⟩ := dk_of I2.hok hD
  cases r0
  obtain ⟨hz, hd1, vs, kv, dd1⟩ := dk_rd I2.hok ha
  have lk : kvs.length = vs.length := kv.length
  refine wpAny_bind (wpAny_onRaise (wpAny_tryCatch (wpAny_onRaise (wpAny_holding (mm_ok (Ne.symm hne) hd1 dd0 dd1 (fun h1 k1 k2 k3 => ?_) (by simp only [List.length_nil]; omega))))))
  have hz1 : (mergeK [] kvs).length ≤ kvs.length := by
    have h1 := length_mergeK kvs []
    rw [List.length_nil] at h1
    omega
  have he1 : ∃ q, h1.get? D = some q := let ⟨q, _, _, hq, _⟩ := k1; ⟨q, hq⟩
  have I3 := d_write (t' := s1.toks) I2 (by rw [hD]; exact True.intro) k3 he1 (dk_new (by omega) hd0 (kv.merge .nil) k1)
  refine wpAny_pure ?_
  dsimp only
  refine wpAny_bind ?_
  rw [if_neg (by simp)]
  refine wpAny_pure (wpAny_pure ?_)
  dsimp only
  rw [if_neg (by simp)]
  have hn2 := I3.hok.fresh (Nat.le_refl h1.objs.size)
  have hpD : h1.objs.size ≠ D := fun e => by
    rw [e, upd_same] at hn2
    cases hn2
  have hn3 : H1 h1.objs.size = none := by rw [upd_ne hpD] at hn2; exact hn2
  have I4 := I3.laid (a := h1.objs.size) (o := .dK []) (h' := h1.push { cls := .type "dict", data := .dict #[] }) (t' := s1.toks) (fun _ _ q => Heap.get?_push_of_some _ q) (Nat.le_refl _) (dk_empty h1 I3.big)
  refine wpAny_bind (wpAny_bind (wpAny_holding (wpAny_subDict (knd := mixKind X.prog X.w) (by simp) ?_)))
  refine thn (hp.run pins _ σ _ _ I4 (q1 _ hpD hn3)) fun ws s2 ⟨ps, H3, I5, rel, e1, e2, kk, z, ep, q3⟩ => ?_
  subst ep
  obtain ⟨rs, c, rk⟩ := carries_of (P := X.prog) (w := X.w) (kvs := [(kk, z)]) rel
  obtain ⟨_, hd2, vs2, r2, dd2⟩ := dk_of I5.hok e1
  cases r2
  refine ⟨rs, c, dd2, fun h2 dd3 hs3 => ?_⟩
  have he2 : ∃ q, h2.get? h1.objs.size = some q := let ⟨q, _, _, hq, _⟩ := dd3; ⟨q, hq⟩
  have kv2 : KV [(kk, z)] (merged [] rs) := rk.merge (kvs := []) .nil
  have I6 := d_write (t' := s2.toks + ws.length) I5 (by rw [e1]; exact True.intro) hs3 he2 (dk_new (by rw [sizeLine_eq]; simp) hd2 kv2 dd3)
  have eD : upd H3 h1.objs.size (.dK [(kk, z)]) D = some (.dK (mergeK [] kvs)) := by rw [upd_ne (Ne.symm hpD)]; exact e2
  obtain ⟨_, _, vsD, rD, ddD⟩ := dk_of I6.hok eD
  have ep : upd H3 h1.objs.size (.dK [(kk, z)]) h1.objs.size = some (.dK [(kk, z)]) := upd_same
  obtain ⟨_, hdp, vsp, rp, ddp⟩ := dk_of I6.hok ep
  have lD := rD.length
  have lp := rp.length
  refine wpAny_bind (wpAny_onRaise (wpAny_holding (mm_ok (Ne.symm hpD) hdp ddD ddp (fun h3 k1 k2 k3 => ?_) (by rw [← lD, ← lp, List.length_singleton]; omega))))
  have he3 : ∃ q, h3.get? D = some q := let ⟨q, _, _, hq, _⟩ := k1; ⟨q, hq⟩
  have hzz : (putK (mergeK [] kvs) kk z).length ≤ sizeLine := by
    have := length_putK (mergeK [] kvs) kk z
    omega
  have I7 := d_write (t' := s2.toks + ws.length) I6 (by rw [eD]; exact True.intro) k3 he3 (dk_new hzz hd0 (rp.merge rD) k1)
  refine wpAny_pure (wpAny_pure ?_)
  exact ⟨.ref D, _, I7, rfl, q3⟩
end Nk
namespace Nk
open PySem PySem.Spec PySem.Calls PyProof.Rows L2 StX
theorem update_last (h : Heap) (o : Obj) (f : Obj → Obj) : (h.push o).update h.objs.size f = h.push (f o) := by
  obtain ⟨objs, life⟩ := h
  simp only [Heap.update, Heap.push, Heap.mk.injEq, and_true]
  apply Array.ext_getElem?
  intro i
  simp only [Array.getElem?_modify, Array.getElem?_push]
  by_cases h1 : objs.size = i
  · subst h1; simp
  · have : ¬ i = objs.size := fun e => h1 e.symm
    simp [h1, this]
section
variable {prog : Program} {w : World} {A : Around} {E : Value → Shared → Prop} {h0 : Heap}
theorem nsSet_last {s : Shared} {es : List DictEntry} {n : Nat} {k : Str} {v : Value} {Q : Unit → Shared → Prop} (e : s.heap = h0.push (PySem.W.dictOf es n))
    (hs : ∀ e ∈ es, e.key.isStr k = false) (hr : ∀ e ∈ es, e.refKey = false)
    (h : Q () { s with heap := h0.push (PySem.W.dictOf (es ++ [⟨PyData.keyHash w.params k, .str k s.toks, v⟩]) (n + 1)), toks := s.toks + 1 }) :
    wpAny (model prog w) A (nsSet h0.objs.size k v) Q E s := by
  have e1 : es.any (·.key.isStr k) = false := by
    cases q : es.any (·.key.isStr k) with
    | false => rfl
    | true => obtain ⟨e, he, z⟩ := List.any_eq_true.mp q; rw [hs e he] at z; cases z
  have e2 : es.any (·.refKey) = false := by
    cases q : es.any (·.refKey) with
    | false => rfl
    | true => obtain ⟨e, he, z⟩ := List.any_eq_true.mp q; rw [hr e he] at z; cases z
  have eo : Obj.putName k (PyData.keyHash w.params k) (.str k s.toks) v (PySem.W.dictOf es n) = PySem.W.dictOf (es ++ [⟨PyData.keyHash w.params k, .str k s.toks, v⟩]) (n + 1) := by
    rw [PySem.W.putName_dict, PySem.W.putL_new hs]
    show PySem.W.dictOf _ (if es.any (·.key.isStr k) then n else n + 1) = _
    rw [e1, if_neg Bool.false_ne_true]
  have D : s.heap.get? h0.objs.size = some (PySem.W.dictOf es n) := by rw [e]; exact Heap.get?_push_size _ rfl
  have c : aRefKeyMayBeTheName k es.toArray = false := by
    rw [aRefKeyMayBeTheName_at, ← Array.any_toList, ← Array.any_toList]
    show (!es.any (·.key.isStr k) && es.any (·.refKey)) = false
    rw [e2, Bool.and_false]
  unfold nsSet
  refine wpAny_bind (wpAny_bind (wpAny_askSetting (wpAny_pure (wpAny_bind (wpAny_mkText (wpAny_bind (wpAny_loadPart D ?_)))))))
  dsimp only
  rw [c]
  refine wpAny_updatePart D ?_
  have : s.heap.update h0.objs.size (Obj.putName k (PyData.keyHash w.params k) (.str k s.toks) v) = h0.push (PySem.W.dictOf (es ++ [⟨PyData.keyHash w.params k, .str k s.toks, v⟩]) (n + 1)) := by
    rw [e, update_last, eo]
  show Q () { s with heap := s.heap.update h0.objs.size (Obj.putName k (PyData.keyHash w.params k) (.str k s.toks) v), toks := s.toks + 1 }
  rw [this]
  exact h
theorem fill_last {Q : PUnit → Shared → Prop} : ∀ (ex : List (Str × Value)) (s : Shared) (es : List DictEntry) (n : Nat), s.heap = h0.push (PySem.W.dictOf es n) →
    (∀ e ∈ es, ∀ x ∈ ex, e.key.isStr x.1 = false) → (∀ e ∈ es, e.refKey = false) → (ex.map (·.1)).Nodup →
    Q ⟨⟩ { s with heap := h0.push (PySem.W.dictOf (es ++ PySem.W.kwEs w.params s.toks ex) (n + ex.length)), toks := s.toks + ex.length } →
    wpAny (model prog w) A (forIn ex PUnit.unit fun x _ => (nsSet h0.objs.size x.1 x.2 >>= fun _ => pure (ForInStep.yield PUnit.unit))) Q E s
  | [], s, es, n, e, _, _, _, h => by
    rw [List.forIn_nil]
    refine wpAny_pure ?_
    have : (es ++ PySem.W.kwEs w.params s.toks []) = es := List.append_nil _
    rw [this] at h
    rw [show s = { s with heap := h0.push (PySem.W.dictOf es (n + ([] : List (Str × Value)).length)), toks := s.toks + ([] : List (Str × Value)).length } by
      show s = { s with heap := h0.push (PySem.W.dictOf es n) }
      rw [← e]]
    exact h
  | x :: r, s, es, n, e, hs, hr, hn, h => by
    obtain ⟨hn1, hn2⟩ := List.nodup_cons.mp (show (x.1 :: r.map (·.1)).Nodup from hn)
    rw [List.forIn_cons]
    refine wpAny_bind (wpAny_bind (nsSet_last e (fun e he => hs e he x (.head _)) hr (wpAny_pure ?_)))
    refine fill_last r _ _ _ rfl (fun e he y hy => ?_) (fun e he => ?_) hn2 ?_
    · rcases List.mem_append.mp he with he | he
      · exact hs e he y (.tail _ hy)
      · obtain rfl := List.mem_singleton.mp he
        show (x.1 == y.1) = false
        exact beq_eq_false_iff_ne.mpr fun q => hn1 (by rw [q]; exact List.mem_map_of_mem hy)
    · rcases List.mem_append.mp he with he | he
      · exact hr e he
      · obtain rfl := List.mem_singleton.mp he
        rfl
    · have t1 : s.toks + 1 + r.length = s.toks + (r.length + 1) := by omega
      have t2 : n + 1 + r.length = n + (r.length + 1) := by omega
      show Q ⟨⟩ { s with heap := h0.push (PySem.W.dictOf ((es ++ [⟨PyData.keyHash w.params x.1, .str x.1 s.toks, x.2⟩]) ++ PySem.W.kwEs w.params (s.toks + 1) r) (n + 1 + r.length)), toks := s.toks + 1 + r.length }
      rw [t1, t2, List.append_assoc]
      exact h
theorem kwEs_pairs : ∀ (ex : List (Str × Value)) (t : Tok), Pairs (mixKind prog w) (PySem.W.kwEs w.params t ex) (ex.map fun x => ((.inr x.1 : Key), x.2))
  | [], _ => .nil
  | x :: r, t => by
    show Pairs (mixKind prog w) ((⟨PyData.keyHash w.params x.1, .str x.1 t, x.2⟩ : DictEntry) :: PySem.W.kwEs w.params (t + 1) r) (((.inr x.1 : Key), x.2) :: r.map fun x => ((.inr x.1 : Key), x.2))
    exact .cons (by show Value.isStrOf x.1 (.str x.1 t) = true; simp [Value.isStrOf]) rfl (kwEs_pairs r (t + 1))
theorem kw_dict {ex : List (Str × Value)} {t : Tok} {n : Nat} (hn : (ex.map (·.1)).Nodup) : (h0.push (PySem.W.dictOf (PySem.W.kwEs w.params t ex) n)).DictOf (mixKind prog w) h0.objs.size (ex.map fun x => ((.inr x.1 : Key), x.2)) := by
  refine ⟨_, (PySem.W.kwEs w.params t ex).toArray, n, Heap.get?_push_size _ rfl, ⟨rfl, rfl, rfl⟩, rfl, fun e he => ?_, ?_, ?_⟩
  · obtain ⟨k, u, e1, e2⟩ := PySem.W.kwEs_key ex t e (by simpa using he)
    exact ⟨.inr k, by rw [e1]; show Value.isStrOf k (.str k u) = true; simp [Value.isStrOf], e2⟩
  · exact kwEs_pairs ex t
  · rw [List.map_map]
    have : (ex.map ((fun x : Key × Value => x.1) ∘ fun x => ((.inr x.1 : Key), x.2))) = (ex.map (·.1)).map (fun z => (.inr z : Key)) := by rw [List.map_map]; rfl
    rw [this]
    exact hn.map _ fun a b z q => z (Sum.inr.inj q)
end
theorem kv_zip : ∀ (ks : List Str) {vs : List V} {us : List Value}, Vals vs us → vs.length = ks.length → KV ((ks.map fun z => (.inr z : Key)).zip vs) ((ks.zip us).map fun x => ((.inr x.1 : Key), x.2))
  | [], _, _, _, _ => .nil
  | _ :: _, _, _, .nil, h => nomatch h
  | z :: ks, _, _, .cons a r, h => .cons ⟨rfl, a⟩ (kv_zip ks r (by simpa using h))
def FsKD (P : Program) (w : World) (K : PySem.W.Frag) (mg : Str → Option Value) (base : Heap) (f : Addr) (k : Nat) (ks : List Str) (sp : Sp) : Prop :=
  ∀ (A : Around) (outer : List Env) (s : Shared) (H : Hp) (u0 : Value) (us : List Value) (v0 : V) (vs : List V) (Q : VK) (E : XK), Room k A → Env0 P w K mg base A outer s H → RelV v0 u0 → Vals vs us → vs.length = ks.length → sp (v0 :: vs) H Q E →
    codeAny (model P w) A (.call (.ref f) ⟨[u0], ks.zip us⟩) (CR (L2.CX P w) outer P w H s Q E) s
def kwdSpK (ks : List Str) (sp : Sp) : Sp := fun vs H Q E => ∃ v0 rest, vs = v0 :: rest ∧ ∀ p d, H p = none → H d = none → d ≠ p → ∀ od, sp [v0, V.ref p, V.ref d] (upd (upd H p (.tup [])) d (.frz od (.dK ((ks.map fun z => (.inr z : Key)).zip rest)))) Q E
theorem fs_starkwK {P : Program} {w : World} {K : PySem.W.Frag} {mg : Str → Option Value} {base : Heap} {x qual pv pd p1 : Str} {st : Stmt} {f : Addr} {N : List Str} {ks : List Str} {k : Nat} {sp : Sp} (F : ∃ fd, FunD K x qual (defArgs st) (defBody st) (defScope st) [] [] f fd) (S : FnScope N ([p1] ++ [pv, pd]) (defScope st))
    (hks : ks.Nodup) (hkl : ks.length ≤ 1000)
    (hb : ∀ (kV doc pm : Value) (an : Option Addr) (cdv ct : Value) (u0 : Value) (us : List Value), us.length = ks.length → bindArgs (PySem.W.fnOf x qual (defArgs st) (defBody st) (defScope st) .none kV doc pm an cdv ct) ⟨[u0], ks.zip us⟩ =
      (newTuple [] >>= fun t => (alloc ({ cls := .type "dict", data := .dict #[] } : Obj) : Sem Addr) >>= fun d => (forIn (ks.zip us) PUnit.unit fun x _ => (nsSet d x.1 x.2 >>= fun _ => pure (ForInStep.yield PUnit.unit))) >>= fun _ => pure ([(p1, u0), (pv, t), (pd, Value.ref d)])))
    (hbody : ∀ (cdv : Value) (A : Around) (outer : List Env) (s : Shared) (H : Hp) (E : XK), Room k (A.deeper (envOfC qual (defScope st) s.heap.objs.size f cdv)) → ∀ (vs : List V) (H' : Hp) (Q : VK), sp vs H' Q E →
      ∃ t, PSs (cxOf (L2.CX P w) P w K mg base N qual (defScope st) f cdv A outer s H E) (defBody st) t ∧ t { nx := fun _ H' => Q .non H', rt := Q } (L2.start N vs) H') : FsKD P w K mg base f (k + 1) ks (kwdSpK ks sp) := by
  obtain ⟨fd, F⟩ := F
  obtain ⟨oc, od, dV, kV, doc, pm, an, cdv, ct, osl, rfl, lk, hcd, hD, _⟩ := F.ex
  rcases hD with ⟨_, rfl⟩ | ⟨z, _⟩
  · intro A outer s H u0 us v0 vs Q E hr e0 r0 r hl hsp
    obtain ⟨v0', rest, ev, hq⟩ := hsp
    cases ev
    have hlu : us.length = ks.length := r.length.symm.trans hl
    refine run_bnd lk hcd S hr e0 (G := fun xs H2 => ∃ p d, H p = Option.none ∧ H d = Option.none ∧ d ≠ p ∧ xs = [v0, V.ref p, V.ref d] ∧ H2 = upd (upd H p (.tup [])) d (.dK ((ks.map fun z => (.inr z : Key)).zip vs))) (fun A' Ex Q' h => ?_) fun s2 H2 xs ⟨p, d, hp, hd, hne, ex, eH⟩ hr' => ?_
    · rw [hb kV doc pm an cdv ct u0 us hlu]
      have hn : H s.heap.objs.size = Option.none := e0.hok.fresh (Nat.le_refl _)
      refine wpAny_bind (wpAny_newTuple (wpAny_bind (wpAny_alloc (wpAny_bind ?_))) (by simp))
      have hz : ((ks.zip us).map (·.1)) = ks := List.map_fst_zip (by omega)
      refine fill_last (h0 := s.heap.push ({ cls := .type "tuple", data := .seq #[] } : Obj)) (ks.zip us) _ [] 0 rfl (fun _ h => nomatch h) (fun _ h => nomatch h) (by rw [hz]; exact hks) (wpAny_pure ?_)
      have new : ObjOk P w (upd H s.heap.objs.size (.tup [])) (s.heap.push ({ cls := .type "tuple", data := .seq #[] } : Obj)) s.heap.objs.size (.tup []) := ⟨Nat.zero_le _, [], .nil, ⟨_, Heap.get?_push_size _ rfl, rfl, _, rfl⟩⟩
      have e1 := env0_laid e0 new
      have un1 := un_laid (fs := frs outer) (s := s) (o := ({ cls := .type "tuple", data := .seq #[] } : Obj)) (u := .tup []) hn
      have hn2 := e1.hok.fresh (Nat.le_refl _)
      have kv : KV ((ks.map fun z => (.inr z : Key)).zip vs) ((ks.zip us).map fun x => ((.inr x.1 : Key), x.2)) := kv_zip ks r hl
      have dd := kw_dict (prog := P) (w := w) (h0 := s.heap.push ({ cls := .type "tuple", data := .seq #[] } : Obj)) (ex := ks.zip us) (t := s.toks) (n := 0 + (ks.zip us).length) (by rw [hz]; exact hks)
      have new2 : ObjOk P w (upd (upd H s.heap.objs.size (.tup [])) (s.heap.push ({ cls := .type "tuple", data := .seq #[] } : Obj)).objs.size (.dK ((ks.map fun z => (.inr z : Key)).zip vs))) ((s.heap.push ({ cls := .type "tuple", data := .seq #[] } : Obj)).push (PySem.W.dictOf (PySem.W.kwEs w.params s.toks (ks.zip us)) (0 + (ks.zip us).length))) (s.heap.push ({ cls := .type "tuple", data := .seq #[] } : Obj)).objs.size (.dK ((ks.map fun z => (.inr z : Key)).zip vs)) :=
        dk_new (by rw [List.length_zip, List.length_map, sizeLine_eq]; omega) (beq_eq_false_iff_ne.mpr (Ne.symm (Nat.ne_of_lt (env0_big e1)))) kv dd
      have e2 := env0_laid (u := .dK ((ks.map fun z => (.inr z : Key)).zip vs)) (o := PySem.W.dictOf (PySem.W.kwEs w.params s.toks (ks.zip us)) (0 + (ks.zip us).length)) e1 new2
      have un2 := un1.trans (un_laid (fs := frs outer) (s := { s with heap := s.heap.push ({ cls := .type "tuple", data := .seq #[] } : Obj) }) (o := PySem.W.dictOf (PySem.W.kwEs w.params s.toks (ks.zip us)) (0 + (ks.zip us).length)) (u := .dK ((ks.map fun z => (.inr z : Key)).zip vs)) hn2)
      have sz : (s.heap.push ({ cls := .type "tuple", data := .seq #[] } : Obj)).objs.size = s.heap.objs.size + 1 := Heap.size_push _ _
      have ne : (s.heap.push ({ cls := .type "tuple", data := .seq #[] } : Obj)).objs.size ≠ s.heap.objs.size := by rw [sz]; exact Nat.succ_ne_self _
      have hd : H (s.heap.push ({ cls := .type "tuple", data := .seq #[] } : Obj)).objs.size = Option.none := e0.hok.fresh (by rw [sz]; exact Nat.le_succ _)
      exact h _ _ [v0, V.ref s.heap.objs.size, V.ref (s.heap.push ({ cls := .type "tuple", data := .seq #[] } : Obj)).objs.size] [u0, Value.ref s.heap.objs.size, Value.ref (s.heap.push ({ cls := .type "tuple", data := .seq #[] } : Obj)).objs.size] ⟨e2.frames, e2.mod, e2.bs, e2.bsz, e2.funs, e2.frf, e2.hok, e2.bare⟩ un2 rfl
        (fun e s' => cxUp outer s H _ _ E e s' un2 (fun b o q => Heap.get?_push_of_some _ (Heap.get?_push_of_some _ q)) rfl) (.cons r0 (.cons rfl (.cons rfl .nil))) rfl ⟨_, _, hn, hd, ne, rfl, rfl⟩
    · subst ex eH
      have l := hbody cdv A outer s2 (upd (upd H p (.tup [])) d (.dK ((ks.map fun z => (.inr z : Key)).zip vs))) E hr'
      refine ⟨_, pss_lockS pss_any, d, _, upd_same, True.intro, fun od => ?_⟩
      rw [upd_upd]
      exact l _ _ Q (hq p d hp hd hne od)
  · exact absurd rfl z
end Nk
namespace Sh
open PySem PySem.Spec PyProof.Rows L2 Nk StX
variable [TabSet] [BasePred]
section
variable {K : PySem.W.Frag} {B : Addr → Prop} {m : List Addr} {ow : List (Option Addr)} {H : Hp} {S : Store}
theorem dkv_at2 {d : D} {v : V} {kvs : List (Key × D)} (c : Cells K B m ow H S) (r : Rep (wo K B m ow H) d v) (h : d.dkv S = some kvs) : ∃ a vs, v = .ref a ∧ Rd H a (.dK vs) ∧ RepK (wo K B m ow H) kvs vs ∧ ¬ B a := by
  have nb : ∀ {a : Addr}, ¬ zf B m ow a → ¬ B a := fun z q => z (.inl q)
  cases d <;> unfold D.dkv at h <;> try cases h
  · unfold Rep at r
    obtain ⟨a, vs, rfl, z, t, rk⟩ := r
    exact ⟨a, vs, rfl, .inl t, rk, nb z⟩
  · rename_i n
    unfold Rep at r
    obtain ⟨a, rfl, hm⟩ := r
    dsimp only at h
    cases hS : S[n]? with
    | none => rw [hS] at h; cases h
    | some cc =>
      rw [hS] at h
      cases cc with
      | dk kvs' =>
        cases h
        obtain ⟨vs, e, rk⟩ := c.cs n a _ hm hS
        exact ⟨a, vs, rfl, .inl e, rk, c.nB a (.inl (List.mem_of_getElem? hm))⟩
      | lst _ => cases h
      | ins _ _ => cases h
      | dt _ => cases h
      | ft _ => cases h
      | fk kvs' =>
        cases h
        obtain ⟨vs, o, e, rk⟩ := c.cs n a _ hm hS
        exact ⟨a, vs, rfl, .inr ⟨o, e⟩, rk, c.nB a (.inl (List.mem_of_getElem? hm))⟩
  · unfold Rep at r
    obtain ⟨a, od, vs, rfl, z, t, rk⟩ := r
    exact ⟨a, vs, rfl, .inr ⟨od, t⟩, rk, nb z⟩
end
def stPut (kvs ps : List (Key × D)) (S2 : Store) : RK := match ps with
  | [p] => if kvs.length + 1 ≤ sizeLine then .ok (dkSt (dkMer [] kvs) p.1 p.2) S2 else .no
  | _ => .no
def kStar2 (l : List (Sx D × Sx D)) (e : En) (o : Option (List (Key × D))) (S1 : Store) : RK := match o with
  | some kvs => (pairsD l e S1).clean.bind fun ps S2 => stPut kvs ps S2
  | none => .no
def kStarD (f : Sx D) (l : List (Sx D × Sx D)) (e : En) (S : Store) : RK := (f e S).clean.bind fun x S1 => kStar2 l e (x.dkv S1) S1
theorem kStar2_some (l : List (Sx D × Sx D)) (e : En) (kvs : List (Key × D)) (S1 : Store) : kStar2 l e (some kvs) S1 = (pairsD l e S1).clean.bind fun ps S2 => stPut kvs ps S2 := rfl
theorem stPut_one (kvs : List (Key × D)) (k : Key) (d : D) (S2 : Store) : stPut kvs [(k, d)] S2 = if kvs.length + 1 ≤ sizeLine then .ok (dkSt (dkMer [] kvs) k d) S2 else .no := rfl
section
variable {K : PySem.W.Frag} {X : Cx} {W : WX} {ex kx vx : Expr} {f : Sx D} {l : List (Sx D × Sx D)} {pos p : Pos}
theorem fd_dstar (hf : Ev K X W ex f) (h : Epp K X W pos [some kx] [vx] l) : Efd K X W (.Dict [none, some kx] [ex, vx] pos) (kStarD f l) := by
  obtain ⟨te, p0, h0⟩ := hf.run
  obtain ⟨trs, p1, h1⟩ := h.run
  refine ⟨_, pe_dstar p0 p1, fun b m ow H σ e S Q t q D hD => ?_⟩
  unfold kStarD at q
  have th := t.hideB (o := .dK []) hD fun _ z => by cases z
  refine h0 _ m ow _ σ e S _ th ?_
  cases r : f e S with
  | no => rw [r] at q; exact q.elim
  | er x S1 => rw [r] at q; exact q.elim
  | ok d S1 =>
    rw [r, clean_ok, ok_bind] at q
    intro v m1 H1 f1 c1 rx
    cases hx : d.dkv S1 with
    | none => rw [hx] at q; exact q.elim
    | some kvs =>
      rw [hx] at q
      rw [kStar2_some] at q
      obtain ⟨a, vs, rfl, rd, rk, nb⟩ := dkv_at2 c1 rx hx
      have hH1 : H1 D = some (.dK []) := f1.keep D _ upd_same (fun _ z => by cases z) fun hm => th.cells.nB D (.inl hm) (.inr rfl)
      have hFr : Fr H D := .none hD
      have f0 : Fut m H m1 H1 := (Fut.same (same_mut (Same.refl _) hD)).trans f1
      have hD0 : Fr b.H0 D := t.fut.dom D hFr
      have t1 := th.go f1 c1
      have leD : ∀ {m' : List Addr} {H' : Hp} {u : HO}, (∀ o u, H' D ≠ some (.frz o u)) → Le (wo K (fun x => b.B x ∨ x = D) m' ow H') (wo K (fun x => b.B x ∨ x = D) m' ow (L2.upd H' D u)) := fun {m' H' u} nzD => ⟨rfl, fun _ _ _ _ h => h, fun _ _ h => h, fun x o h _ z => by
        show L2.upd H' D _ x = some o
        rw [upd_ne (fun q => z (.inl (.inr q)))]
        exact h, upd_fz nzD⟩
      cases r2 : pairsD l e S1 with
      | no => rw [r2] at q; exact q.elim
      | er x S2 => rw [r2] at q; exact q.elim
      | ok ps S2 =>
        rw [r2, clean_ok, ok_bind] at q
        match ps, q with
        | [pk], q =>
          rw [stPut_one] at q
          split at q
          · rename_i hl
            refine ⟨a, vs, rfl, fun z => nb (.inr z), by rw [repK_len rk]; exact hl, rd, hH1, fun p hpD hp => ?_⟩
            have t2 := t1.hid_upd (o := .dK (mergeK [] vs)) hD0 (fun _ z => by cases z) ⟨_, hH1, (fun _ z => by cases z), (fun _ z => by cases z)⟩ (nz := nz_of hH1 fun _ _ z => by cases z)
            have hp2 : L2.upd H1 D (.dK (mergeK [] vs)) p = none := by rw [upd_ne hpD]; exact hp
            have t3 := t2.hideB (p := p) (o := .dK []) hp2 fun _ z => by cases z
            refine h1 _ m1 ow _ σ e S1 _ t3 ?_
            rw [r2]
            intro ws m2 H3 f2 c2 rp
            obtain ⟨us, rfl, rku⟩ := rp
            obtain ⟨kk, z⟩ := pk
            unfold RepK at rku
            obtain ⟨zv, us', rfl, rz, rn⟩ := rku
            unfold RepK at rn
            subst rn
            have e1 : H3 p = some (.dK []) := f2.keep p _ upd_same (fun _ z => by cases z) fun hm => t3.cells.nB p (.inl hm) (.inr rfl)
            have e2 : H3 D = some (.dK (mergeK [] vs)) := f2.keep D _ (by rw [upd_ne (Ne.symm hpD)]; exact upd_same) (fun _ z => by cases z) fun hm => t3.cells.nB D (.inl hm) (.inl (.inr rfl))
            refine ⟨e1, e2, kk, zv, rfl, ?_⟩
            have hFp : Fr H p := f0.dom p (.none hp)
            have fa : Fut m H m2 H3 := (fut_new (fut_new (o := .dK (mergeK [] vs)) f0 hFr fun _ z => by cases z) hFp fun _ z => by cases z).trans f2
            have c3 := (c2.hid_upd (o := .dK [(kk, zv)]) (fun _ z => by cases z) ⟨_, e1, (fun _ z => by cases z), (fun _ z => by cases z)⟩ (nz := nz_of e1 fun _ _ z => by cases z)).unhide
            have e3 : L2.upd H3 p (.dK [(kk, zv)]) D = some (.dK (mergeK [] vs)) := by rw [upd_ne (Ne.symm hpD)]; exact e2
            have c4 := c3.hid_upd (o := .dK (putK (mergeK [] vs) kk zv)) (fun _ z => by cases z) ⟨_, e3, (fun _ z => by cases z), (fun _ z => by cases z)⟩ (nz := nz_of e3 fun _ _ z => by cases z)
            have lz : Le (wo K (fun x => (b.B x ∨ x = D) ∨ x = p) m2 ow H3) (wo K (fun x => b.B x ∨ x = D) m2 ow (L2.upd (L2.upd H3 p (.dK [(kk, zv)])) D (.dK (putK (mergeK [] vs) kk zv)))) := (le_unhid (nz_of e1 fun _ _ z => by cases z)).trans (leD (nz_of e3 fun _ _ z => by cases z))
            have lk : Le (wo K (fun x => b.B x ∨ x = D) m1 ow H1) (wo K (fun x => b.B x ∨ x = D) m2 ow (L2.upd (L2.upd H3 p (.dK [(kk, zv)])) D (.dK (putK (mergeK [] vs) kk zv)))) := ((leD (nz_of hH1 fun _ _ z => by cases z)).trans ((le_hide hp2).trans f2.le)).trans lz
            refine q D _ m2 _ (fut_new (fut_new fa hFp fun _ z => by cases z) hFr fun _ z => by cases z) hFr c4 (fun z => c2.nB D (by
              rcases z with z | z
              · exact absurd z (fun z => t.cells.hB D z hFr)
              · exact z) (.inl (.inr rfl))) upd_same (repK_put (repK_mer (by unfold RepK; rfl) (RepK.le lk _ rk)) ⟨rz.1, Rep.le lz z rz.2⟩)
          · exact q.elim
        | [], q => exact q.elim
        | _ :: _ :: _, q => exact q.elim
end
end Sh
namespace Sh
open PySem PySem.Spec PyProof.Rows L2 Nk StX
section
variable {X : Cx} {k j : Nat} {C f : Addr} {sp : Sp} {ks : List Str} {W : WX} {x : Str} {tf : TE} {tk : TA} {p1 pos : Pos} {kws : List Keyword}
theorem run_makeKD {pins : List (Addr × Obj)} {σ : L2.St} {H : Hp} {s : Shared} {E : XK} {Q : VK} {ws : List Value} {zs : List V} (M : Mk X.K C f) (F : FsKD X.prog X.w X.K X.mg X.base f k ks sp) (hr : Room (k + 1) X.A) (hx : PassesAt (L2.CX X.prog X.w) X σ E) (I : Inv X pins σ H s) (rz : Vals zs ws) (l2 : zs.length = ks.length)
    (h : ∀ x dx, H x = Option.none → H dx = Option.none → dx ≠ x → sp (V.ref x :: zs) (upd (upd H dx (.own x)) x (.ins C dx [])) (fun v H2 => v = .non ∧ Q (.ref x) H2) E) :
    wpAny (model X.prog X.w) X.A (call (.ref C) [] (ks.zip ws)) (EP X pins σ Q) X.xe s := by
  have hq := h (s.heap.objs.size + 1) s.heap.objs.size (I.hok.fresh (Nat.le_succ _)) (I.hok.fresh (Nat.le_refl _)) (Nat.ne_of_lt (Nat.lt_succ_self _))
  have I2 := Inv.made (C := C) I
  refine wpAny_call (make_map (f := f) I.kIn M.makes M.init (beq_iff_eq.mp M.fn) (codeAny_mono (F _ X.stack _ _ (Value.ref (s.heap.objs.size + 1)) ws (V.ref (s.heap.objs.size + 1)) zs _ E (hr.make C [] (ks.zip ws))
    (I2.env0.make C [] (ks.zip ws)) rfl rz l2 hq) fun r s' hq' => ?_))
  cases r with
  | error e => exact hx pins _ _ e s' I2 hq'
  | ok fl =>
    cases fl with
    | ret u =>
      obtain ⟨v, H', I3, rv, ev, q3⟩ := I2.after hq'
      subst ev
      exact ⟨rv, ⟨V.ref (s.heap.objs.size + 1), H', I3, rfl, q3⟩⟩
    | next => exact False.elim hq'
    | brk => exact False.elim hq'
    | cont => exact False.elim hq'
theorem pe_clsKWD (hf : PE X (.Name x p1) tf) (M : Mk X.K C f) (F : FsKD X.prog X.w X.K X.mg X.base f k ks sp) (hr : Room j X.A) (hk : k + 1 ≤ j) (tk' : Takes X W) (hkw : PK X kws tk)
    (hall : (backToKw pos (keywordEach kws X.env)).all (·.1.isSome) = true := by rfl) (hks : (backToKw pos (keywordEach kws X.env)).filterMap (·.1) = ks := by rfl)
    (hpl : ((backTo pos (starEach [] X.env)).any (·.1) || (backToKw pos (keywordEach kws X.env)).any (·.1.isNone)) = false := by rfl) :
    PE X (.Call (.Name x p1) [] kws pos) (tMkW C sp W tf (tLen ks.length tk)) := by
  refine ⟨fun pins s σ H Q I h => wpAny_Call_Name_kw (thn (hf.run pins s σ H _ I h) fun u s1 ⟨y, H1, I1, ry, ey, q⟩ => ?_)⟩
  subst ey
  obtain rfl : u = Value.ref C := ry
  refine PySem.W.callWith_KW0 (h₀ := X.base) I.ok.mod.kin M.kp hall ?_ hpl
  refine thn (hkw.run pos pins s1 σ H1 _ I1 q) fun ws s2 ⟨zs, H2, I2, rz, l2, q2⟩ => ⟨I2.kIn, ?_⟩
  rw [hks]
  exact run_makeKD M F (hr.mono hk) (passAt tk' σ) I2 rz l2 q2
end
variable [TabSet] [BasePred]
def kwdKI (ks : List Str) (f : Cell → List D → Store → R Cell) (c : Cell) (ds : List D) (S : Store) : R Cell := f c [.tup [], .fk ((ks.map fun z => (.inr z : Key)).zip ds)] S
section
variable {X : Cx} {W : WX} {K : PySem.W.Frag} {g : Sx D} {a : Sx (List D)} {pos p : Pos} {lv j : Nat} {x : Str} {sp : Sp} {ks : List Str} {kws : List Keyword} {c : String} {fa : Addr}
theorem repK_zip {w : Wo} : ∀ {ks : List Str} {ds : List D} {vs : List V}, (∀ z ∈ ks, KFit (.inr z)) → Reps w ds vs → RepK w ((ks.map fun z => (.inr z : Key)).zip ds) ((ks.map fun z => (.inr z : Key)).zip vs)
  | [], _, _, _, _ => by unfold RepK; rfl
  | z :: ks, [], vs, _, r => by
    unfold Reps at r
    subst r
    show RepK w [] []
    unfold RepK
    rfl
  | z :: ks, d :: ds, vs, hk, r => by
    unfold Reps at r
    obtain ⟨v, us, rfl, r1, r2⟩ := r
    show RepK w ((.inr z, d) :: (ks.map fun z => (.inr z : Key)).zip ds) ((.inr z, v) :: (ks.map fun z => (.inr z : Key)).zip us)
    unfold RepK
    exact ⟨v, _, rfl, ⟨hk z List.mem_cons_self, r1⟩, repK_zip (fun y hy => hk y (List.mem_cons_of_mem _ hy)) r2⟩
theorem shi_kwdK {G : Cell → List D → Store → R Cell} (hf : ∀ z ∈ ks, KFit (.inr z)) (h : Shi K sp G) : Shi K (kwdSpK ks sp) (kwdKI ks G) := by
  intro B m S c ds a us H Q E hz cl cr hk r q
  refine ⟨.ref a, us, rfl, fun p d hp hd hne od => ?_⟩
  have hd2 : upd H p (.tup []) d = none := by rw [upd_ne hne]; exact hd
  have s1 : Same H (upd H p (.tup [])) := same_mut (Same.refl _) hp
  have s2 : Same (upd H p (.tup [])) (upd (upd H p (.tup [])) d (.frz od (.dK ((ks.map fun z => (.inr z : Key)).zip us)))) := same_mut (Same.refl _) hd2
  have s : Same H (upd (upd H p (.tup [])) d (.frz od (.dK ((ks.map fun z => (.inr z : Key)).zip us)))) := fun b o e => s2 b o (s1 b o e)
  refine h B m S c _ a [.ref p, .ref d] _ Q E hz (cl.same s) (cr.le (Fut.same s).le fun o e _ => s _ _ e) hk (reps_cons (Rep.le (Fut.same s2).le _ (rep_tup cl.full hp (Nat.zero_le _) reps_nil)) (reps_cons ?_ reps_nil)) (q.same s)
  unfold Rep
  exact ⟨d, od, _, rfl, fun z => cl.full d z (.none hd), upd_same, repK_zip hf (Reps.le (Fut.same s).le _ r)⟩
theorem x_mkKwD {F : Cell → List D → Store → R Cell} (hK : X.K = K) (hf : Ev K X W (.Name x p) g) (M : Mk K (He.ga K c) fa) (hF : FsKD X.prog X.w K X.mg X.base fa lv ks sp) (hs : Shi K sp F) (hr : Room j X.A) (hk : lv + 1 ≤ j) (tk' : Takes X W) (ha : Eak K X W kws a) (hn : ∀ e S ds S', a e S = .ok ds S' → ds.length = ks.length)
    (hall : (backToKw pos (keywordEach kws X.env)).all (·.1.isSome) = true := by rfl) (hks : (backToKw pos (keywordEach kws X.env)).filterMap (·.1) = ks := by rfl)
    (hpl : ((backTo pos (starEach [] X.env)).any (·.1) || (backToKw pos (keywordEach kws X.env)).any (·.1.isNone)) = false := by rfl) : Ev K X W (.Call (.Name x p) [] kws pos) (eMk c F g a) := by
  subst hK
  obtain ⟨tb, p2, h2⟩ := hf.run
  obtain ⟨ta, p1, h1⟩ := ha.run
  refine ⟨_, pe_clsKWD p2 M hF hr hk tk' p1 hall hks hpl, mk_rd h2 (fun b m ow H σ e S Q t q => h1 b m ow H σ e S _ t ?_) hs⟩
  have hl := hn e S
  generalize a e S = R at q hl ⊢
  cases R with
  | no => exact q
  | er x S2 => exact q
  | ok ds S2 =>
    intro vs m2 H2 f2 c2 ry
    exact ⟨by rw [reps_len ry]; exact hl ds S2 rfl, q vs m2 H2 f2 c2 ry⟩
end
end Sh
namespace Nk
open PySem PySem.Spec PySem.Calls PyProof.Rows L2 StX
section
variable {P : Program} {w : World} {A : Around} {E : Value → Shared → Prop} {s : Shared}
theorem meets_boolX (x : Value) : MeetsIn P w (Builtin.«bool.__new__» ⟨[.type "bool", x], []⟩) (fun A R s => wpAny (model P w) A.in1 (truthy x) (fun b s' => R (.ok (.ret (.bool b))) s') (fun e s' => R (.error e) s') s) :=
  .of_wp fun A R s h => by
    obtain ⟨hp, g, d, tk, os⟩ := s
    have f1 := F.conv_sub_bool
    repeat (any_goals (first | assumption | (with_reducible refine wpAny_mono h (fun b s' q => ?_) fun e s' q => q) | wp_step))
    exact ⟨_, rfl, q⟩
theorem call_boolX {x : Value} {Q : Value → Shared → Prop} (h : wpAny (model P w) A.in1.in1 (truthy x) (fun b s' => Q (.bool b) s') E s) : wpAny (model P w) A (call (.type "bool") [x]) Q E s := by
  refine callType_newIn F.called_bool F.newNe_bool (F.typeCall_bool_1 x) (F.newCall_bool_1 x) (fun obj => F.args_object_init_2 obj x) F.entry_bool_new (meets_boolX x) ?_
  exact wpAny_mono h (fun b s' q => ⟨PySem.typeIs_bool _ _, q⟩) fun e s' q => q
end
section
variable {X : Cx} {k j : Nat} {C f : Addr} {ps : List Str} {sp : Sp}
theorem call_boolDR : CallR X (.type "bool") (fun xs H Q => ∃ a kvs, xs = [V.ref a] ∧ Rd H a (.dK kvs) ∧ Q (.bl (!kvs.isEmpty)) H) := by
  intro pins s σ H xs us Q I r q
  obtain ⟨a, kvs, rfl, hd, q⟩ := q
  obtain ⟨u, rfl, ru⟩ := vals1 r
  obtain rfl : u = Value.ref a := ru
  obtain ⟨z, lo, vs, rel, dd⟩ := dk_rd I.hok hd
  refine call_boolX (wpAny_truthy_dict lo dd (by rw [← rel.length]; rw [sizeLine_eq] at z; omega) ?_)
  exact ⟨.bl (!kvs.isEmpty), H, I.tok _, by rw [isEmpty_kv rel]; rfl, q⟩
def rBoolO (C : Addr) (sp : Sp) : List V → Hp → VK → Prop := fun xs H Q => ∃ a dx fs, xs = [.ref a] ∧ H a = some (.ins C dx fs) ∧ sp [.ref a] H (fun v H' => ∃ b, v = .bl b ∧ Q (.bl b) H') noE
theorem call_boolO (T : OwnM X.K C "__bool__" f) (F : Fo X.prog X.w X.K X.mg X.base f k ps sp) (hr : Room j X.A) (hk : k + 2 ≤ j) : CallR X (.type "bool") (rBoolO C sp) := by
  intro pins s σ H xs us Q I r h
  obtain ⟨a, dx, fs, rfl, ea, hsp⟩ := h
  obtain ⟨u, rfl, ru⟩ := vals1 r
  cases ru
  obtain ⟨fd, F, hb⟩ := F
  obtain ⟨mA, O, _⟩ := ins_get I.hok ea
  obtain ⟨od, J, _⟩ := O.look
  obtain ⟨m, hF⟩ := I.fr
  refine call_boolX (PySem.W.truthy_K hF I.ok.mod.kin J T.at_ T.fn ?_)
  refine wpAny_mono (own_run (vs := [.ref a]) F hb (hr.mono hk).in1.in1 rfl I (.cons rfl .nil) hsp) (fun v s' hv => ?_) fun _ _ z => z
  obtain ⟨z, H', I', rz, b, rfl, q⟩ := hv
  obtain rfl : v = Value.bool b := rz
  exact ⟨.bl b, H', I', rfl, q⟩
end
end Nk
namespace Nk
open PySem PySem.Spec PyProof.Rows L2
abbrev kyObj (d : Addr) (n ep : Nat) : Obj := { cls := .type "dict_keyiterator", data := .fields #[.ref d, .int 0 0, .int n 0, .int ep 0] }
def ItD (d it : Addr) (n ep : Nat) : HO := .ext fun h => h.get? it = some (kyObj d n ep)
theorem itD_ok {P : Program} {w : World} {H : Hp} {h : Heap} {d it : Addr} {n ep : Nat} (e : h.get? it = some (kyObj d n ep)) : ObjOk P w H h it (ItD d it n ep) := ⟨e, ⟨_, e⟩, fun h1 h2 q k => k _ q⟩
def rIterD (n0 : Nat) : List V → Hp → VK → Prop := fun xs H Q => ∃ (d : Addr) (o : Obj) (kvs : List (Key × V)), xs = [.ref d] ∧ H d = some (.frz o (.dK kvs)) ∧ ∀ it es ep, o.data = .dict es ep → H it = none → n0 ≤ it → Q (.ref it) (upd H it (ItD d it kvs.length ep))
theorem call_iterD {X : Cx} : CallR X (.builtin "iter") (rIterD X.s_0.heap.objs.size) := by
  intro pins s σ H xs us Q I r h
  obtain ⟨d, o, kvs, rfl, hd, q⟩ := h
  obtain ⟨u, rfl, ru⟩ := vals1 r
  cases ru
  obtain ⟨hs, hgd, hx, es, ep, vs, hdt, hsz, kv, hm⟩ := I.frzK hd
  refine Calls.call_function_entry (by decide +kernel) (by decide +kernel) PySem.W.kdk_entry_iter (PySem.W.kdk_args_iter _) ?_
  unfold Builtin.«iter»
  refine wpAny_bind (m := someArgs "iter" 1 2 _) (wpAny_of_eq (a := [Value.ref d]) (by first | rfl | kernel_rfl!) ?_)
  show wpAny _ _ (pyIter (.ref d) >>= _) _ _ _
  refine wpAny_bind (iter_keys hs hgd hx hdt ?_)
  rw [hsz]
  refine wpAny_pure ⟨_, rfl, ?_⟩
  refine ⟨.ref s.heap.objs.size, _, I.laid (t' := s.toks) (fun b u e => Heap.get?_push_of_some _ e) (Nat.le_refl _) (itD_ok (n := kvs.length) (ep := ep) (Heap.get?_push_size _ rfl)), rfl, q _ es ep hdt (I.hok.fresh (Nat.le_refl _)) I.sz⟩
def FoD (P : Program) (w : World) (K : PySem.W.Frag) (mg : Str → Option Value) (base : Heap) (f : Addr) (k : Nat) (C : Addr) (g : Str) : Prop :=
  ∃ (fd : FuncData) (ps : List Str), ps.length = 1 ∧ Binds K fd ps [] ∧ ∀ (A : Around) (outer : List Env) (s : Shared) (H : Hp) (args : Args) (us : List Value) (a : Addr) (dx : Addr) (fs : List (Str × V)) (t : Addr) (o : Obj) (kvs : List (Key × V)) (Q : VK) (E : XK),
    Room k A → Env0 P w K mg base A outer s H → BindsTo s fd args (ps.zip us) → Vals [.ref a] us → H a = some (.ins C dx fs) → fs.lookup g = some (.ref t) → H t = some (.frz o (.dK kvs)) →
    (∀ it es ep, o.data = .dict es ep → H it = none → s.heap.objs.size ≤ it → Q (.ref it) (upd H it (ItD t it kvs.length ep))) → codeAny (model P w) A (.call (.ref f) args) (CR (L2.CX P w) outer P w H s Q E) s
theorem fod_mk {P : Program} {w : World} {K : PySem.W.Frag} {mg : Str → Option Value} {base : Heap} {x qual : Str} {st : Stmt} {f C : Addr} {N : List Str} {g self : Str} {k : Nat} (F : ∃ fd, FunD K x qual (defArgs st) (defBody st) (defScope st) [] [] f fd) (S : FnScope N [self] (defScope st)) (hN : N = [self])
    (hb : ∀ (kV doc pm : Value) (an : Option Addr) (cdv ct : Value) (us : List Value), us.length = [self].length → bindArgs (PySem.W.fnOf x qual (defArgs st) (defBody st) (defScope st) .none kV doc pm an cdv ct) ⟨us, []⟩ = pure ([self].zip us))
    (hc : Cls K C) (hn : NoAttr K C g)
    (hbody : ∀ (cdv : Value) (A : Around) (outer : List Env) (s : Shared) (H : Hp) (E : XK), Room k (A.deeper (envOfC qual (defScope st) s.heap.objs.size f cdv)) →
      PSs (cxOf (L2.CX P w) P w K mg base N qual (defScope st) f cdv A outer s H E) (defBody st) (tRet (tCB (rIterD s.heap.objs.size) (tCons (tFld K (tVar 0) g) tNil)))) : FoD P w K mg base f (k + 1) C g := by
  obtain ⟨fd, F⟩ := F
  refine ⟨fd, [self], rfl, F.bindsN hb, fun A outer s H args us a dx fs t o kvs Q E hr e0 bt r ha hl ht q => ?_⟩
  obtain ⟨oc, od, dV, kV, doc, pm, an, cdv, ct, osl, rfl, lk, hcd, _, _⟩ := F.ex
  refine LamX.run_ofS lk hcd S hr e0 bt r rfl fun hr' => ⟨_, hbody cdv A outer s H E hr', ?_⟩
  show tCB _ _ (L2.start N [.ref a]) H _
  have h0 : (L2.start N [V.ref a])[0]? = some (some (.ref a)) := by rw [hN]; rfl
  exact ⟨.ref a, h0, a, C, dx, fs, .ref t, rfl, ha, hc, hn, hl, t, o, kvs, rfl, ht, q⟩
section
variable {X : Cx} {tg e : Expr} {te : TE} {C f : Addr} {g : Str} {k j : Nat}
def iOwnD (C : Addr) (g : Str) (te : TE) : TI := fun σ H R => te σ H fun x H1 => ∃ a dx fs t o kvs, x = .ref a ∧ H1 a = some (.ins C dx fs) ∧ fs.lookup g = some (.ref t) ∧ H1 t = some (.frz o (.dK kvs)) ∧ R (Itk t o kvs) H1
theorem pi_ownD (he : PE X e te) (hs : PySem.W.findIn X.K (.ref C) "__iter__" = some (some (.ref f))) (hf : PySem.W.isFn X.K (.ref f) = true) (F : FoD X.prog X.w X.K X.mg X.base f k C g) (hr : Room j X.A) (hk : k ≤ j) : PI X tg e (iOwnD C g te) := by
  refine ⟨fun pins s σ H R I h => ?_⟩
  refine thn (he.run pins s σ H _ I h) fun v s1 ⟨x, H1, I1, r1, q1⟩ => ?_
  obtain ⟨a, dx, fs, t, o, kvs, rfl, ha, hl, ht, q⟩ := q1
  cases r1
  obtain ⟨fd, ps, hps, hb, run⟩ := F
  obtain ⟨mA, J, _⟩ := ins_get I1.hok ha
  obtain ⟨od, J, _⟩ := J.look
  obtain ⟨m, hF⟩ := I1.fr
  refine PySem.W.owit_iter hF I1.ok.mod.kin J hs hf ?_
  have b := hb s1 [.ref a] I1.kIn (by rw [hps]; rfl)
  rw [List.append_nil] at b
  refine wpAny_call (codeAny_mono (run X.A X.stack s1 H1 ⟨[.ref a], []⟩ [.ref a] a dx fs t o kvs (fun v H' => ∃ it es ep, v = .ref it ∧ o.data = .dict es ep ∧ H1 it = none ∧ s1.heap.objs.size ≤ it ∧ H' = upd H1 it (ItD t it kvs.length ep)) (fun _ _ _ => False) (hr.mono hk) I1.env0 b (.cons rfl .nil) ha hl ht
    (fun it es ep h0 h1 h2 => ⟨it, es, ep, rfl, h0, h1, h2, rfl⟩)) fun r s' hq => ?_)
  match r, hq with
  | .ok (.ret u), hq =>
    obtain ⟨v, H', I', rv, it, es, ep, rfl, h0, h1, h2, rfl⟩ := I1.after hq
    obtain rfl : u = Value.ref it := rv
    have hg : s'.heap.get? it = some (kyObj t kvs.length ep) := (I'.hok it _ upd_same).1
    have I2 := ItX.inv_drop I' (a := it) upd_same
    have fp := ItX.inv_fp I' (a := it) upd_same (Nat.le_trans I1.sz h2)
    rw [ItX.dropH_upd h1] at I2 fp
    unfold PySem.W.OwitIt
    have hT : s'.TypeIs (.ref it) "dict_keyiterator" := ⟨_, hg, rfl⟩
    refine wpAny_specialOf hT PySem.F.slot_dict_keyiterator_next.lookup ?_
    exact ⟨it, [it], _, _, H1, rfl, I2, turn_keys it h0, ⟨_, hg, rfl, rfl⟩, fun b hb => by rw [List.mem_singleton.mp hb]; exact fp, q⟩
  | .error e, hq =>
    obtain ⟨_, _, _, _, _, _, _, _, _, _, _, _, hE⟩ := hq
    exact hE.elim
  | .ok .next, hq => exact False.elim hq
  | .ok .brk, hq => exact False.elim hq
  | .ok .cont, hq => exact False.elim hq
end
end Nk
namespace Sh
open PySem PySem.Spec PyProof.Rows L2 Nk StX
variable [TabSet] [BasePred]
def cBool (c : String) (F : List D → Store → R D) : List D → Store → R D
  | [x], S => if x.isO c S = true then (F [x] S).clean.bind fun z S1 => match z with
    | .bl n => .ok (.bl n) S1
    | _ => .no else .no
  | _, _ => .no
def cBoolD : List D → Store → R D
  | [x], S => R.of S ((x.dkv S).map fun kvs => .bl (!kvs.isEmpty))
  | _, _ => .no
section
variable {K : PySem.W.Frag} {X : Cx} {W : WX} {c : String} {fa : Addr} {lv j : Nat} {ps : List Str} {sp : Sp} {F : List D → Store → R D} {ex tg iter : Expr} {f : Sx D} {pos : Pos} {fd : Str}
theorem ce_bool (hK : X.K = K) (T : OwnM K (He.ga K c) "__bool__" fa) (hF : Fo X.prog X.w X.K X.mg X.base fa lv ps sp) (hs : Shp K sp F) (hr : Room j X.A) (hk : lv + 2 ≤ j) : CallE K X (.type "bool") (cBool c F) := by
  subst hK
  refine ⟨_, call_boolO T hF hr hk, fun B m ow H S xs ds Q W cl r q => ?_⟩
  have q := post_clean q
  unfold cBool at q
  split at q
  · obtain ⟨v, rfl, r1⟩ := reps1 r rfl
    split at q
    · rename_i hi
      obtain ⟨a, dx', fs, rfl, hH⟩ := isO_at cl r1 hi
      refine ⟨a, dx', fs, rfl, hH, hs.at cl (reps_cons r1 reps_nil) ((Post.bind q fun z S1 v m1 H1 f1 c1 rz q => ?_ : Post X.K B ow m H Rep W _ _).clean)⟩
      cases z <;> try exact q.elim
      rename_i n
      cases rep_blD rz
      exact ⟨n, rfl, q.val c1 rep_bl⟩
    · exact q.elim
  · exact q.elim
theorem ce_boolD (hK : X.K = K) : CallE K X (.type "bool") cBoolD := by
  subst hK
  refine ⟨_, call_boolDR, fun B m ow H S xs ds Q W cl r q => ?_⟩
  match ds, r, q with
  | [], _, q => exact q.elim
  | _ :: _ :: _, _, q => exact q.elim
  | [x], r, q =>
    have q : Post X.K B ow m H Rep W Q (R.of S ((x.dkv S).map fun kvs => .bl (!kvs.isEmpty))) := post_clean q
    obtain ⟨v, rfl, r1⟩ := reps1 r rfl
    cases hx : x.dkv S with
    | none => rw [hx] at q; exact q.elim
    | some kvs =>
      rw [hx] at q
      obtain ⟨a, vs, rfl, rd, rk⟩ := dkv_at cl r1 hx
      refine ⟨a, vs, rfl, rd, ?_⟩
      have hl := repK_len rk
      have e : vs.isEmpty = kvs.isEmpty := by cases vs <;> cases kvs <;> first | rfl | (simp at hl)
      rw [e]
      have q : Post X.K B ow m H Rep W Q (.ok (.bl (!kvs.isEmpty)) S) := q
      exact q.val cl rep_bl
def iOwD (c : String) (fd : Str) (f : Sx D) (e : En) (S : Store) : R (List D) := (f e S).bind fun x S1 => match x with
  | .obj c' fs => if c' = c then (match fs.lookup fd with
    | some (.fk kvs) => .ok (kvs.map fun p => keyD p.1) S1
    | _ => .no) else .no
  | _ => .no
theorem i_ownD (hK : X.K = K) (T : OwnM K (He.ga K c) "__iter__" fa) (hF : FoD X.prog X.w K X.mg X.base fa lv (He.ga K c) fd) (hr : Room j X.A) (hk : lv ≤ j) (hf : Ev K X W ex f) : Ei K X W tg ex (iOwD c fd f) := by
  subst hK
  obtain ⟨ta, p1, h1⟩ := hf.run
  refine ⟨_, pi_ownD p1 T.at_ T.fn hF hr hk, fun b m ow H σ e S Q t q => h1 b m ow H σ e S _ t (Post.bind q fun x S1 v m1 H1 f1 c1 rx q2 => ?_)⟩
  clear q
  have q := q2
  clear q2
  cases x <;> try exact q.elim
  rename_i c' fs
  dsimp only at q
  split at q
  · rename_i hc
    rename_i q0
    cases hc
    cases l : fs.lookup fd with
    | none => rw [l] at q; exact q.elim
    | some d =>
      rw [l] at q
      cases d <;> try exact q.elim
      rename_i kvs
      unfold Rep at rx
      obtain ⟨a, dx, gs, rfl, _, hH, r⟩ := rx
      obtain ⟨u, h2, h3⟩ := repF_get r l
      unfold Rep at h3
      obtain ⟨a2, od, vs, rfl, z, hd, rk⟩ := h3
      exact ⟨a, dx, gs, a2, od, vs, rfl, hH, h2, hd, q _ m1 H1 (Fut.refl _ _) c1 (itr_dk hd rk)⟩
  · exact q.elim
def eCv (c : String) (i : Int) (f : Sx D) (e : En) (S : Store) : R D := (f e S).bind fun x S1 => match x with
  | .cls c' => if c' = c then .ok (.int i) S1 else .no
  | _ => .no
def eCi (c : String) (g : Str) (i : Int) (f : Sx D) (e : En) (S : Store) : R D := (f e S).bind fun x S1 => match x with
  | .obj c' fs => if c' = c ∧ fs.lookup g = none then .ok (.int i) S1 else .no
  | _ => .no
theorem x_cv {i : Int} {apos : Pos} (hK : X.K = K) (hf : Ev K X W ex f) (r : ClX.CRead K (He.ga K c) (.type "type")) (k : ∃ u, ClX.CVal K (He.ga K c) (.type "type") fd (.int i) u) (hb : attributeBase ex fd X.env (eval ex X.env) = eval ex X.env := by rfl) : Ev K X W (.Attribute ex fd apos) (eCv c i f) := by
  subst hK
  obtain ⟨ta, p1, h1⟩ := hf.run
  obtain ⟨u, k⟩ := k
  refine ⟨_, ClX.pe_cval p1 hb, fun b m ow H σ e S Q t q => h1 b m ow H σ e S _ t (Post.bind q fun x S1 v m1 H1 f1 c1 rx q2 => ?_)⟩
  clear q
  have q := q2
  clear q2
  cases x <;> try exact q.elim
  dsimp only at q
  split at q
  · rename_i hc
    subst hc
    unfold Rep at rx
    subst rx
    exact ⟨_, _, _, u, rfl, r, k, q _ m1 H1 (Fut.refl _ _) c1 rep_int⟩
  · exact q.elim
theorem x_ci {i : Int} {apos : Pos} (hK : X.K = K) (hf : Ev K X W ex f) (hc : Cls K (He.ga K c)) (k : ∃ u, Con K (He.ga K c) fd (.int i) u) (hb : attributeBase ex fd X.env (eval ex X.env) = eval ex X.env := by rfl) : Ev K X W (.Attribute ex fd apos) (eCi c fd i f) := by
  subst hK
  obtain ⟨ta, p1, h1⟩ := hf.run
  obtain ⟨u, k⟩ := k
  refine ⟨_, pe_con p1 hb, fun b m ow H σ e S Q t q => h1 b m ow H σ e S _ t (Post.bind q fun x S1 v m1 H1 f1 c1 rx q2 => ?_)⟩
  clear q
  have q := q2
  clear q2
  cases x <;> try exact q.elim
  rename_i c' fs
  dsimp only at q
  split at q
  · rename_i hcc
    obtain ⟨rfl, hl⟩ := hcc
    unfold Rep at rx
    obtain ⟨a, dx, gs, rfl, _, hH, r⟩ := rx
    exact ⟨a, _, dx, gs, _, u, rfl, hH, hc, k, repF_none r hl, q _ m1 H1 (Fut.refl _ _) c1 rep_int⟩
  · exact q.elim
end
end Sh
namespace Sh
open PySem PySem.Spec PyProof.Rows L2 Nk StX
theorem kfit_all {ks : List Str} (h : (ks.all fun z => decide (z.length ≤ sizeLine)) = true) : ∀ z ∈ ks, KFit (.inr z) := fun z hz x e => by
  cases e
  exact of_decide_eq_true (List.all_eq_true.mp h z hz)
def prm {α : Type} (l : List Nat) (zs : List α) : List α := l.filterMap fun i => zs[i]?
variable [TabSet] [BasePred]
section
variable {X : Cx} {W : WX} {o : Expr} {pos apos : Pos} {lv j : Nat} {m : Str} {sp : Sp} {ks : List Str} {kws : List Keyword} {C fa : Addr} {ta : TE} {tk : TA} {pl : Sem Bool}
theorem pe_meKW (he : PE X o ta) (c : Cls X.K C) (hm : Meth X.K C m fa) (F : FsK X.prog X.w X.K X.mg X.base fa lv ks sp) (hr : Room j X.A) (hk : lv ≤ j) (tk' : Takes X W) (hkw : PK X kws tk)
    (hall : (backToKw pos (keywordEach kws X.env)).all (·.1.isSome) = true := by rfl) (hks : (backToKw pos (keywordEach kws X.env)).filterMap (·.1) = ks := by rfl)
    (hpl : ((backTo pos (starEach [] X.env)).any (·.1) || (backToKw pos (keywordEach kws X.env)).any (·.1.isNone)) = false := by rfl)
    (ht : eval (.Call (.Attribute o m apos) [] kws pos) X.env = (do
      let ov ← eval o X.env
      standAt apos.atName
      let (f, first) ← holding [ov] (getMethod ov m pl)
      callWith pos f first (backTo pos (starEach [] X.env)) (backToKw pos (keywordEach kws X.env))) := by rfl) :
    PE X (.Call (.Attribute o m apos) [] kws pos) (fun σ H Q => ta σ H fun x H1 => ∃ a dx fs, x = .ref a ∧ H1 a = some (.ins C dx fs) ∧ fs.lookup m = none ∧ tk σ H1 fun zs H2 => zs.length = ks.length ∧ sp (.ref a :: zs) H2 Q (WE W σ)) := by
  refine ⟨fun pins s σ H Q I h => ?_⟩
  refine PySem.W.methodCall_KW (pl := pl) (thn (he.run pins s σ H _ I h) fun u s1 ⟨x, H1, I1, rx, a, dx, fs, ex, ea, l, q⟩ => ?_) ht
  subst ex
  obtain rfl : u = Value.ref a := rx
  refine getmeth_ok I1 ea c hm l ?_
  refine PySem.W.callWith_KW0 (first := [.ref a]) (h₀ := X.base) I.ok.mod.kin hm.kp hall ?_ hpl
  refine thn (hkw.run pos pins s1 σ H1 _ I1 q) fun ws s2 ⟨zs, H2, I2, rz, l2, q2⟩ => ⟨I2.kIn, ?_⟩
  rw [hks]
  exact wpAny_call (run_fsK (A := X.A) (v := .ref a) (u := .ref a) F (hr.mono hk) (passAt tk' σ) I2 rfl rz l2 q2)
end
theorem reps_ati {w : Wo} : ∀ {ds : List D} {vs : List V} (i : Nat), Reps w ds vs → (match ds[i]? with
    | some d => ∃ v, vs[i]? = some v ∧ Rep w d v
    | none => vs[i]? = none)
  | [], vs, i, r => by unfold Reps at r; subst r; rfl
  | d :: ds, vs, 0, r => by
    unfold Reps at r
    obtain ⟨v, us, rfl, r1, r2⟩ := r
    exact ⟨v, rfl, r1⟩
  | d :: ds, vs, i + 1, r => by
    unfold Reps at r
    obtain ⟨v, us, rfl, r1, r2⟩ := r
    exact reps_ati i r2
theorem reps_prm {w : Wo} {ds : List D} {vs : List V} (r : Reps w ds vs) : ∀ l : List Nat, Reps w (prm l ds) (prm l vs)
  | [] => reps_nil
  | i :: l => by
    have a := reps_ati i r
    have ih := reps_prm r l
    unfold prm at ih ⊢
    cases h : ds[i]? with
    | none =>
      rw [h] at a
      rw [List.filterMap_cons_none h, List.filterMap_cons_none a]
      exact ih
    | some d =>
      rw [h] at a
      obtain ⟨v, e, rv⟩ := a
      rw [List.filterMap_cons_some h, List.filterMap_cons_some e]
      exact reps_cons rv ih
section
variable {K : PySem.W.Frag} {X : Cx} {W : WX} {ex2 : Expr} {g : Sx D} {a : Sx (List D)} {pos apos : Pos} {lv j : Nat} {m : Str} {sp : Sp} {ks : List Str} {kws : List Keyword} {c : String} {fa : Addr} {pl : Sem Bool}
theorem x_meK {F : List D → Store → R D} (hK : X.K = K) (ho : Ev K X W ex2 g) (hc : Cls K (He.ga K c)) (hm : Meth K (He.ga K c) m fa) (hF : FsK X.prog X.w K X.mg X.base fa lv ks sp) (hs : Shp K sp F) (hr : Room j X.A) (hk : lv ≤ j) (tk' : Takes X W) (ha : Eak K X W kws a) (hn : ∀ e S ds S', a e S = .ok ds S' → ds.length = ks.length)
    (hall : (backToKw pos (keywordEach kws X.env)).all (·.1.isSome) = true := by rfl) (hks : (backToKw pos (keywordEach kws X.env)).filterMap (·.1) = ks := by rfl)
    (hpl : ((backTo pos (starEach [] X.env)).any (·.1) || (backToKw pos (keywordEach kws X.env)).any (·.1.isNone)) = false := by rfl)
    (ht : eval (.Call (.Attribute ex2 m apos) [] kws pos) X.env = (do
      let ov ← eval ex2 X.env
      standAt apos.atName
      let (f, first) ← holding [ov] (getMethod ov m pl)
      callWith pos f first (backTo pos (starEach [] X.env)) (backToKw pos (keywordEach kws X.env))) := by rfl) : Ev K X W (.Call (.Attribute ex2 m apos) [] kws pos) (eMe c m F g a) := by
  subst hK
  obtain ⟨tb, p2, h2⟩ := ho.run
  obtain ⟨ta, p1, h1⟩ := ha.run
  refine ⟨_, pe_meKW p2 hc hm hF hr hk tk' p1 hall hks hpl ht, fun b m ow H σ e S Q t q => h2 b m ow H σ e S _ t (Post.bind q fun d S1 v m1 H1 f1 c1 rx q => ?_)⟩
  split at q
  · rename_i hi
    obtain ⟨a', dx, fs, rfl, hH, hl⟩ := isC_at c1 rx hi
    refine ⟨a', dx, fs, rfl, hH, hl, h1 b m1 ow H1 σ e S1 _ (t.go f1 c1) ?_⟩
    have hln := hn e S1
    cases ea : a e S1 with
    | no => rw [ea] at q; exact q.elim
    | er y S2 => rw [ea] at q; exact q
    | ok ds S2 =>
      rw [ea, ok_bind] at q
      intro vs m2 H2 f2 c2 ry
      exact ⟨by rw [reps_len ry]; exact hln ds S2 ea, hs.at c2 (reps_cons (Rep.le f2.le d rx) ry) (q.go f2)⟩
  · exact q.elim
end
end Sh
namespace Nk
open PySem PySem.Spec PyProof.Rows L2
theorem vals_ati : ∀ {vs : List V} {us : List Value} (i : Nat), Vals vs us → (match vs[i]? with
    | some v => ∃ u, us[i]? = some u ∧ RelV v u
    | none => us[i]? = none)
  | _, _, _, .nil => rfl
  | _, _, 0, .cons a _ => ⟨_, rfl, a⟩
  | _, _, i + 1, .cons _ r => vals_ati i r
theorem vals_prm {vs : List V} {us : List Value} (r : Vals vs us) : ∀ l : List Nat, Vals (Sh.prm l vs) (Sh.prm l us)
  | [] => .nil
  | i :: l => by
    have a := vals_ati i r
    have ih := vals_prm r l
    unfold Sh.prm at ih ⊢
    cases h : vs[i]? with
    | none =>
      rw [h] at a
      rw [List.filterMap_cons_none h, List.filterMap_cons_none a]
      exact ih
    | some d =>
      rw [h] at a
      obtain ⟨v, e, rv⟩ := a
      rw [List.filterMap_cons_some h, List.filterMap_cons_some e]
      exact .cons rv ih
end Nk
namespace Nk
open PySem PySem.Calls PySem.Spec PyProof.Rows L2 StX LiI
def ZlSt (h : Heap) (z TI TO i1 i2 l1 l2 : Addr) (xs ys : List Value) (S : Addr) (i : Nat) : Prop :=
  IsPair h TI (.ref i1) (.ref i2) ∧ h.IsListIter i1 l1 i ∧ h.IsListIter i2 l2 i ∧ h.IsList l1 xs.toArray ∧ h.IsList l2 ys.toArray ∧
    ((IsZip h z TI TO .none ∧ ∃ a b, IsPair h TO a b) ∨ ∃ T f oT, IsZipHeld h z TI TO T f ∧ h.get? T = some oT ∧ T ≠ z ∧ T ≠ i1 ∧ T ≠ i2 ∧ T ≠ S)
structure ZlSep (z TI TO i1 i2 l1 l2 S : Addr) : Prop where
  z : z ≠ S
  TI : TI ≠ S
  TO : TO ≠ S
  i1 : i1 ≠ S
  i2 : i2 ≠ S
  l1 : l1 ≠ S
  l2 : l2 ≠ S
theorem ZlSt.keep {h h' : Heap} {z TI TO i1 i2 l1 l2 S : Addr} {xs ys : List Value} {i : Nat} (x : ZlSt h z TI TO i1 i2 l1 l2 xs ys S i) (P : ZlSep z TI TO i1 i2 l1 l2 S) (hk : ∀ b o, b ≠ S → h.get? b = some o → h'.get? b = some o) : ZlSt h' z TI TO i1 i2 l1 l2 xs ys S i := by
  obtain ⟨hTI, h1, h2, hl1, hl2, hz⟩ := x
  refine ⟨hk _ _ P.TI hTI, h1.at fun o e => hk _ o P.i1 e, h2.at fun o e => hk _ o P.i2 e, hl1.at fun o e => hk _ o P.l1 e, hl2.at fun o e => hk _ o P.l2 e, ?_⟩
  rcases hz with ⟨hz, a, b, hTO⟩ | ⟨T, f, oT, hz, hT, r1, r2, r3, r4⟩
  · exact .inl ⟨hk _ _ P.z hz, a, b, hk _ _ P.TO hTO⟩
  · exact .inr ⟨T, f, oT, hk _ _ P.z hz, hk _ _ r4 hT, r1, r2, r3, r4⟩
end Nk
namespace Sh
open PySem PySem.Spec PyProof.Rows L2 Nk StX
variable [TabSet] [BasePred]
theorem At.unhide {K : PySem.W.Frag} {b : Bs} {m : List Addr} {ow : List (Option Addr)} {H : Hp} {σ : L2.St} {e : En} {S : Store} {p : Addr} (t : At K ⟨fun x => b.B x ∨ x = p, b.m0, b.H0, b.sf⟩ m ow H σ e S) (ph : BasePred.Φ b) : At K b m ow H σ e S := by
  refine ⟨t.cells.unhide, t.len, fun j s hs => ?_, t.fut, t.new, t.oe, t.sf, ph⟩
  have h := t.slots j s hs
  cases s with
  | no => exact True.intro
  | val d' => obtain ⟨u, h1, h2⟩ := h; exact ⟨u, h1, Rep.le le_hid d' h2⟩
  | own x => obtain ⟨u, h1, h2, h3⟩ := h; exact ⟨u, h1, h2, h3.le le_hid fun o e _ => e⟩
end Sh
namespace Nk
open PySem PySem.Spec PyProof.Rows L2 StX
theorem SupD.okK {P : Program} {w : World} {K : PySem.W.Frag} {mg : Str → Option Value} {base : Heap} {k : Nat} {name qual file : Str} {st : Stmt} {f D : Addr} {N ps ks : List Str} {sp : Sp} {sf : Str} {ar : Arg} (l : List Nat) (F : SupD K name qual st f D file) (S : FnSup N ps (defScope st))
    (len : ∀ vs H Q E, sp vs H Q E → vs.length = ps.length)
    (hb : ∀ (kV doc pm : Value) (an : Option Addr) (cdv ct : Value) (cc : Addr) (us ws : List Value), us.length = 1 → ws.length = ks.length → bindArgs (PySem.W.ksFn name qual (defArgs st) (defBody st) (defScope st) .none kV doc pm an cdv ct cc) ⟨us, ks.zip ws⟩ = pure (ps.zip (us ++ Sh.prm l ws)))
    (har : ((defArgs st).posonlyargs ++ (defArgs st).args).head? = some ar) (hsf : ar.arg = sf) (hfile : ((P.main.file : Str) == file) = true) (htop : (P.main.scope.names.lookup ("super" : Str)).isSome = false) (hmg : mg "super" = none)
    (sS : (defScope st).names.lookup ("super" : Str) = some .globalImplicit) (sC : (defScope st).names.lookup ("__class__" : Str) = some .free) (sX : (defScope st).names.lookup sf = some .local) (n0 : N[0]? = some sf) (hD : ∃ cd, PySem.W.clsIn K D = some cd)
    (hbody : ∀ (cc : Addr) (cdv : Value) (A : Around) (outer : List Env) (s : Shared) (H : Hp) (vs : List V) (Q : VK) (E : XK), SupAt (supCx (L2.CX P w) P w K mg base N qual (defScope st) f cdv cc A outer s H E) f cc D sf → Room k (A.deeper (supEnv qual (defScope st) s.heap.objs.size f cdv cc)) → sp vs H Q E →
      ∃ t, PScs (supCx (L2.CX P w) P w K mg base N qual (defScope st) f cdv cc A outer s H E) (.func (defBody st) (supEnv qual (defScope st) s.heap.objs.size f cdv cc)) (defBody st) t ∧ t { nx := fun _ H' => Q .non H', rt := Q } (L2.start N vs) H) :
    Sh.FsK P w K mg base f (k + 1) ks (fun vs H Q E => ∃ x zs, vs = x :: zs ∧ sp (x :: Sh.prm l zs) H Q E) := by
  obtain ⟨oc, od, dV, kV, doc, pm, an, cdv, ct, osl, cc, lk, hcd, C, rfl, cda, ccl, cdd, vs0, ccs, tf, rfl, h2, h3⟩ := F.ex
  refine ⟨_, ps, fun us ws => us ++ Sh.prm l ws, sp, fun vs zs => vs ++ Sh.prm l zs, fn_sup lk hcd C S len fun A outer s H vs Q E hr hsp => hbody cc (.ref cda) A outer s H vs Q E ⟨⟨oc, od, _, osl, ar, lk, har, hsf⟩, ⟨cda, ccl, cdd, vs0, ccs, file, tf, rfl, h2, h3, hfile⟩, htop, hmg, rfl, C, ?_, sS, sC, sX, n0, hD⟩ hr hsp, ⟨fun s us ws X l1 l2 => ?_, fun r1 r2 => r1.append (vals_prm r2 l)⟩, fun x zs H Q E h => by obtain ⟨x', zs', e, h⟩ := h; cases e; exact h⟩
  · show List.lookup _ [_] = _
    simp [List.lookup]
  · exact .of_eq (hb kV doc pm an (.ref cda) ct cc us ws l1 l2)
end Nk
namespace Sh
open PySem PySem.Spec PyProof.Rows L2 Nk StX
variable [TabSet] [BasePred]
section
variable (K : PySem.W.Frag) (B : Addr → Prop) (ow : List (Option Addr))
def PostFT (m : List Addr) (H : Hp) (W : Value → Option Addr → Hp → Prop) (Q : VK) : R (List (List Key × D)) → Prop
  | .ok kvs S' => ∀ p vs m' H', Fut m H m' H' → Fr H p → Cells K (fun x => B x ∨ x = p) m' ow H' S' → ¬ zf B m' ow p → H' p = some (.dT vs) → RepT (wo K (fun x => B x ∨ x = p) m' ow H') kvs vs → Q (.ref p) H'
  | .er x S' => ∀ c d m' H', Fut m H m' H' → Cells K B m' ow H' S' → ExR (wo K B m' ow H') x c d → W c d H'
  | .no => False
end
abbrev RT := R (List (List Key × D))
section
variable {K : PySem.W.Frag} {X : Cx} {W : WX} {ex ex2 : Expr} {f : Sx D} {l : Sx (List (List Key × D))} {pos p pos' apos : Pos} {i : Nat} {x : Str}
theorem PostFT.new {B : Addr → Prop} {ow : List (Option Addr)} {m : List Addr} {H : Hp} {S : Store} {W : Value → Option Addr → Hp → Prop} {Q : VK} {kvs : List (List Key × D)} {vs : List (List Key × V)} {p : Addr} (h : PostFT K B ow m H W Q (.ok kvs S)) (c : Cells K B m ow H S) (r : RepT (wo K B m ow H) kvs vs) (hp : H p = none) : Q (.ref p) (upd H p (.dT vs)) := by
  have hf : ¬ zf B m ow p := fun z => c.full p z (.none hp)
  exact h p vs m _ (Fut.same (same_mut (Same.refl _) hp)) (.none hp) (c.hide hp hf fun _ z => by cases z) hf upd_same (RepT.le (le_hide hp) kvs r)
theorem PostFT.go {B : Addr → Prop} {ow : List (Option Addr)} {m m' : List Addr} {H H' : Hp} {W : Value → Option Addr → Hp → Prop} {Q : VK} {r : RT} (h : PostFT K B ow m H W Q r) (f : Fut m H m' H') : PostFT K B ow m' H' W Q r := by
  cases r with
  | ok y S' => exact fun p vs m2 H2 f2 hp => h p vs m2 H2 (f.trans f2) (f.dom p hp)
  | er x S' => exact fun c d m2 H2 f2 => h c d m2 H2 (f.trans f2)
  | no => exact h
end
end Sh
namespace Nk
open PySem PySem.Spec PyProof.Rows L2
def tLockC (t : TS) : TS := fun D σ H => ∃ d u, H d = some u ∧ Mut (some u) ∧ ∀ od, t ⟨fun σ' H' => H' d = some (.frz od u) ∧ D.nx σ' (upd H' d u), D.rt, fun σ' H' => H' d = some (.frz od u) ∧ D.bk σ' (upd H' d u), fun σ' H' => H' d = some (.frz od u) ∧ D.ct σ' (upd H' d u)⟩ σ (upd H d (.frz od u))
theorem ps_lockC {X : Cx} {st : Stmt} {t : TS} (h : PS X st t) : PS X st (tLockC t) := by
  refine ⟨fun pins s σ H D I hw => ?_⟩
  obtain ⟨d, u, hd, mu, hw⟩ := hw
  obtain ⟨od, I1⟩ := I.lock hd mu
  refine thn (h.run pins s σ _ _ I1 (hw od)) fun f s1 q => ?_
  cases f with
  | next => obtain ⟨σ', H', I2, e, q⟩ := q; exact ⟨σ', _, I2.unlock e (I.nofrz hd mu), q⟩
  | brk => obtain ⟨σ', H', I2, e, q⟩ := q; exact ⟨σ', _, I2.unlock e (I.nofrz hd mu), q⟩
  | cont => obtain ⟨σ', H', I2, e, q⟩ := q; exact ⟨σ', _, I2.unlock e (I.nofrz hd mu), q⟩
  | ret v => exact q
end Nk
namespace Sh
open PySem PySem.Spec PyProof.Rows L2 Nk StX
variable [TabSet] [BasePred]
section
variable {K : PySem.W.Frag} {B : Addr → Prop} {m m' : List Addr} {ow ow' : List (Option Addr)} {H H' : Hp} {S S' : Store} {a : Addr}
theorem le0_put {u : HO} (h : zf B m ow a) : Le0 (wo K B m ow H) (wo K B m ow (L2.upd H a u)) := ⟨rfl, fun _ _ _ _ h => h, fun _ _ h => h, fun x u e _ z => upd_keep x u (fun q => z (q ▸ h)) e⟩
theorem Cells.put0 {n : Nat} {c' : Cell} {u : HO} (t : Cells K B m ow H S) (hm : m[n]? = some a) (hu : ∀ ps, u ≠ .tbl ps) (r : CRep (wo K B m ow (L2.upd H a u)) a c') : Cells K B m ow (L2.upd H a u) (S.set n c') := by
  have am : a ∈ m := List.mem_of_getElem? hm
  have keep : ∀ x o, x ≠ a → H x = some o → L2.upd H a u x = some o := upd_keep
  have dom : ∀ x, Fr (L2.upd H a u) x → Fr H x := fun x h => h.upd hu
  refine ⟨fun x hx q => t.hB x hx (dom x q), t.nd, t.no, t.nB, t.od, fun x hx q => t.oh x hx (dom x q), by simpa using t.len, fun k x c h1 h2 => ?_, tabs_keep t.tb (t.cs n a _ hm (List.getElem?_eq_getElem (by rw [← t.len]; exact (List.getElem?_eq_some_iff.mp hm).1))).some keep, fun x z xs hx => if e : x = a then r.noT xs (e ▸ hx) else t.ntK1 keep x z e xs hx⟩
  by_cases e1 : n = k
  · subst e1
    rw [hm] at h1
    cases h1
    rw [List.getElem?_set_self (by rw [← t.len]; exact (List.getElem?_eq_some_iff.mp hm).1)] at h2
    cases h2
    exact r
  · rw [List.getElem?_set_ne e1] at h2
    refine (t.cs k x c h1 h2).le0 (le0_put (.inr (.inl am))) fun o e _ => keep x o (fun q => e1 ?_) e
    subst q
    exact (List.getElem?_inj (List.getElem?_eq_some_iff.mp hm).1 t.nd).mp (hm.trans h1.symm)
theorem lock_le {vs : List (Key × V)} {od : Obj} (am : zf B m ow a) (hH : H a = some (.dK vs)) : Le (wo K B m ow H) (wo K B m ow (L2.upd H a (.frz od (.dK vs)))) :=
  ⟨rfl, fun _ _ _ _ h => h, fun _ _ h => h, fun x u e _ z => upd_keep x u (fun q => z (q ▸ am)) e, upd_fz (nz_of hH fun _ _ z => by cases z)⟩
theorem unlock_le {vs : List (Key × V)} {od : Obj} (am : zf B m ow a) (hH : H a = some (.dK vs)) (l : Le (wo K B m ow (L2.upd H a (.frz od (.dK vs)))) (wo K B m' ow' H')) : Le (wo K B m ow H) (wo K B m' ow' (L2.upd H' a (.dK vs))) := by
  have l1 := (lock_le (K := K) (od := od) am hH).trans l
  refine ⟨rfl, l1.z, l1.m, fun x o e n z => ?_, fun x o u e => ?_⟩
  · exact upd_keep x o (fun q => z (q ▸ am)) (l1.keep x o e n z)
  · refine upd_keep x _ (fun q => ?_) (l1.fz x o u e)
    have e : H x = some (.frz o u) := e
    rw [q, hH] at e
    cases e
end
section
variable {K : PySem.W.Frag} {b : Bs} {m m' : List Addr} {ow ow' : List (Option Addr)} {H H' : Hp} {σ σ' : L2.St} {e e' : En} {S S' : Store} {a : Addr} {n : Nat}
theorem At.unlock {vs : List (Key × V)} {od : Obj} {kvs : List (Key × D)} (t : At K b m ow H σ e S) (hm : m[n]? = some a) (hH : H a = some (.dK vs)) (rk : RepK (wo K b.B m ow H) kvs vs) (l : Le (wo K b.B m ow (L2.upd H a (.frz od (.dK vs)))) (wo K b.B m' ow' H')) (t' : At K b m' ow' H' σ' e' S') :
    At K b m' ow' (L2.upd H' a (.dK vs)) σ' e' (S'.set n (.dk kvs)) := by
  have am : a ∈ m := List.mem_of_getElem? hm
  have hm' : m'[n]? = some a := l.m n a hm
  have am' : a ∈ m' := List.mem_of_getElem? hm'
  have ul := unlock_le (K := K) (.inr (.inl am)) hH l
  have hF : H' a = some (.frz od (.dK vs)) := l.fz a od _ upd_same
  have c2 : Cells K b.B m' ow' (L2.upd H' a (.dK vs)) (S'.set n (.dk kvs)) := t'.cells.put0 hm' (fun _ z => by cases z) ⟨vs, upd_same, RepK.le ul _ rk⟩
  have l0 : Le0 (wo K b.B m' ow' H') (wo K b.B m' ow' (L2.upd H' a (.dK vs))) := le0_put (.inr (.inl am'))
  refine ⟨c2, t'.len, fun i s hs => ?_, ⟨t'.fut.pre, fun x o h nn hx => ?_, fun x h => t'.fut.dom x (h.upd fun _ z => by cases z), fun x o u h => ?_⟩, t'.new, t'.oe, t'.sf, t'.ph⟩
  · have h := t'.slots i s hs
    cases s with
    | no => exact True.intro
    | val d => obtain ⟨v, h1, h2⟩ := h; exact ⟨v, h1, Rep.le0 l0 d h2⟩
    | own x =>
      obtain ⟨y, h1, h2, h3⟩ := h
      exact ⟨y, h1, h2, h3.le0 l0 fun o e _ => upd_keep y o (fun q => t'.cells.no a am' (q ▸ List.mem_of_getElem? h2)) e⟩
  · refine upd_keep x o (fun q => ?_) (t'.fut.keep x o h nn hx)
    have h1 := t.fut.keep x o h nn hx
    rw [q, hH] at h1
    have h2 := t'.fut.keep x o h nn hx
    rw [q, hF] at h2
    rw [← Option.some.inj h1] at h2
    cases h2
  · refine upd_keep x _ (fun q => ?_) (t'.fut.fz x o u h)
    have h1 := t.fut.fz x o u h
    rw [q, hH] at h1
    cases h1
end
def unlS (n : Nat) (kvs : List (Key × D)) (S : Store) (k : Store → RS) : RS := match S[n]? with
  | some (.fk _) => k (S.set n (.dk kvs))
  | _ => .no
def unlk (n : Nat) (kvs : List (Key × D)) : RS → RS
  | .nx e S => unlS n kvs S fun S1 => .nx e S1
  | .bk e S => unlS n kvs S fun S1 => .bk e S1
  | .ct e S => unlS n kvs S fun S1 => .ct e S1
  | .rt d S => .rt d S
  | _ => .no
def sLk2 (n : Nat) (p : Sy) (e : En) (S : Store) (c : Option Cell) : RS := match c with
  | some (.dk kvs) => unlk n kvs (p e (S.set n (.fk kvs)))
  | _ => p e S
def sLk (i : Nat) (p : Sy) (e : En) (S : Store) : RS := match (e[i]? : Option Sl) with
  | some (Sl.val (.ref n)) => sLk2 n p e S S[n]?
  | _ => p e S
section
variable {K : PySem.W.Frag} {X : Cx} {W : WX} {st : Stmt} {p : Sy} {i : Nat}
theorem s_lk (h : Es K X W st p) : Es K X W st (sLk i p) := by
  obtain ⟨ts, p1, h1⟩ := h.run
  refine ⟨fun D σ H => ts D σ H ∨ tLockC ts D σ H, ⟨fun pins s σ H D I z => z.elim (p1.run pins s σ H D I) ((ps_lockC p1).run pins s σ H D I)⟩, fun b m ow H σ e S D t z => ?_⟩
  unfold sLk at z
  split at z
  · rename_i n hq
    unfold sLk2 at z
    split at z
    · rename_i kvs hS
      have hm : ∃ a, m[n]? = some a := by
        have : n < S.length := (List.getElem?_eq_some_iff.mp hS).1
        rw [← t.cells.len] at this
        exact ⟨_, List.getElem?_eq_getElem this⟩
      obtain ⟨a, hm⟩ := hm
      obtain ⟨vs, hH, rk⟩ := t.cells.cs n a _ hm hS
      have ame : a ∈ m := List.mem_of_getElem? hm
      have am : zf b.B m ow a := .inr (.inl ame)
      refine .inr ⟨a, _, hH, True.intro, fun od => ?_⟩
      obtain ⟨t1, f1⟩ := cell_put (c' := .fk kvs) t hm (upd_keep (o := .frz od (.dK vs))) (fun x h => h.upd fun _ z => by cases z) ⟨_, _, upd_same, RepK.le (lock_le am hH) _ rk⟩ (nz_of hH fun _ _ z => by cases z)
      refine h1 b m ow _ σ e _ _ t1 ?_
      have go : ∀ {e' : En} {S' : Store} {N : L2.St → Hp → Prop} {k : Store → RS}, PostS K b (wo K b.B m ow H) W D (unlS n kvs S' k) → (∀ S1, PostS K b (wo K b.B m ow H) W D (k S1) = Ends1 K b (wo K b.B m ow H) N e' S1) → Ends1 K b (wo K b.B m ow (L2.upd H a (.frz od (.dK vs)))) (fun σ' H' => H' a = some (.frz od (.dK vs)) ∧ N σ' (L2.upd H' a (.dK vs))) e' S' := by
        intro e' S' N k z hk
        unfold unlS at z
        split at z
        · rw [hk] at z
          intro σ' m' ow' H' t' l'
          exact ⟨l'.fz a od _ upd_same, z σ' m' ow' _ (t.unlock hm hH rk l' t') (unlock_le am hH l')⟩
        · exact z.elim
      generalize p e (S.set n (.fk kvs)) = R at z ⊢
      cases R with
      | nx e' S' => exact go z fun _ => rfl
      | bk e' S' => exact go z fun _ => rfl
      | ct e' S' => exact go z fun _ => rfl
      | rt d S' => exact z
      | er x e' S' => exact z.elim
      | no => exact z.elim
    · exact .inl (h1 b m ow H σ e S D t z)
  · exact .inl (h1 b m ow H σ e S D t z)
end
theorem sLk_ok {i n : Nat} {p : Sy} {e : En} {S : Store} {kvs : List (Key × D)} (he : e[i]? = some (.val (.ref n))) (hS : S[n]? = some (.dk kvs)) : sLk i p e S = unlk n kvs (p e (S.set n (.fk kvs))) := by
  unfold sLk sLk2
  rw [he]
  dsimp only
  rw [hS]
theorem lk_at {n : Nat} {S : Store} {c x : Cell} (h : S[n]? = some c) : (S.set n x)[n]? = some x := List.getElem?_set_self (List.getElem?_eq_some_iff.mp h).1
theorem lk_ne {n k : Nat} {S : Store} {x : Cell} (h : n ≠ k) : (S.set n x)[k]? = S[k]? := List.getElem?_set_ne h
theorem unlS_ok {n : Nat} {kvs l : List (Key × D)} {S : Store} {k : Store → RS} (h : S[n]? = some (.fk l)) : unlS n kvs S k = k (S.set n (.dk kvs)) := by
  unfold unlS
  rw [h]
theorem lk_back {n : Nat} {S : Store} {c x : Cell} (h : S[n]? = some c) : (S.set n x).set n c = S := by
  rw [List.set_set]
  exact List.ext_getElem? fun k => by
    by_cases e : n = k
    · subst e
      rw [lk_at h, h]
    · rw [lk_ne e]
theorem fkv_ref {n : Nat} {S : Store} {kvs : List (Key × D)} (h : S[n]? = some (.fk kvs)) : (D.ref n).fkv S = some kvs := by unfold D.fkv; dsimp only; rw [h]
theorem dkv_reff {n : Nat} {S : Store} {kvs : List (Key × D)} (h : S[n]? = some (.fk kvs)) : (D.ref n).dkv S = some kvs := by unfold D.dkv; dsimp only; rw [h]
theorem dkv_refd {n : Nat} {S : Store} {kvs : List (Key × D)} (h : S[n]? = some (.dk kvs)) : (D.ref n).dkv S = some kvs := by unfold D.dkv; dsimp only; rw [h]
theorem unlk_nx {n : Nat} {kvs : List (Key × D)} {e : En} {S : Store} : unlk n kvs (.nx e S) = unlS n kvs S fun S1 => .nx e S1 := rfl
theorem unlk_bk {n : Nat} {kvs : List (Key × D)} {e : En} {S : Store} : unlk n kvs (.bk e S) = unlS n kvs S fun S1 => .bk e S1 := rfl
theorem unlk_ct {n : Nat} {kvs : List (Key × D)} {e : En} {S : Store} : unlk n kvs (.ct e S) = unlS n kvs S fun S1 => .ct e S1 := rfl
theorem unlk_rt {n : Nat} {kvs : List (Key × D)} {d : D} {S : Store} : unlk n kvs (.rt d S) = .rt d S := rfl
end Sh
namespace Sh
open PySem PySem.Spec PyProof.Rows L2 Nk StX
variable [TabSet] [BasePred]
def putVL (i j : Nat) (d1 : D) (ds : List D) (e : En) (S : Store) : RS := if notOwn i e = true ∧ j < (e.set i (.val d1)).length ∧ notOwn j (e.set i (.val d1)) = true then .nx ((e.set i (.val d1)).set j (.own (.lst ds))) S else .no
def sPar2VL (i j : Nat) (h : Sx D) (g : Sx (List D)) (e : En) (S : Store) : RS := (h e S).run e fun d1 S1 => (g e S1).run e fun ds S2 => putVL i j d1 ds e S2
theorem s_par2VL {K : PySem.W.Frag} {X : Cx} {W : WX} {ex ex2 : Expr} {h : Sx D} {g : Sx (List D)} {i j : Nat} {x y : Str} {px py pt pos : Pos} {kt k2 pt2} (hc : X.calm = true) (hN : X.N.Nodup) (hi : X.N[i]? = some x) (hj : X.N[j]? = some y) (hij : i ≠ j)
    (hx : X.env.scope.names.lookup x = some .local) (hy : X.env.scope.names.lookup y = some .local) (hh : Ev K X W ex h) (hg : Ef K X W ex2 g)
    (hw : swappedStores [.Tuple [.Name x px, .Name y py] kt pt] (.Tuple [ex, ex2] k2 pt2) X.env = pure (some [x, y]))
    (he : starEach [ex, ex2] X.env = (false, eval ex X.env) :: starEach [ex2] X.env := by rfl) (he2 : starEach [ex2] X.env = (false, eval ex2 X.env) :: starEach [] X.env := by rfl)
    (hs : swapsWithSole [.Tuple [.Name x px, .Name y py] kt pt] (.Tuple [ex, ex2] k2 pt2) pos.line X.env = pure false := by rfl) : Es K X W (.Assign [.Tuple [.Name x px, .Name y py] kt pt] (.Tuple [ex, ex2] k2 pt2) pos) (sPar2VL i j h g) := by
  obtain ⟨tg, p1, h1⟩ := hg.run
  obtain ⟨th, p2, h2⟩ := hh.run
  refine ⟨_, ps_par hc hN hi hj hij hx hy (pa_cons p2 (pa_cons p1 pa_nil he2) he) hw hs, fun b m ow H σ e S D t z => h2 b m ow H σ e S _ t ?_⟩
  unfold sPar2VL at z
  generalize h e S = R at z ⊢
  cases R with
  | no => exact z.elim
  | er x S2 => exact fun c d m2 H2 f2 c2 rx => z c d σ m2 ow H2 (t.go f2 c2) f2.le rx
  | ok d1 S2 =>
    rw [run_ok] at z
    intro v1 m1 H1 f1 c1 r1
    have t1 := t.go f1 c1
    refine h1 b m1 ow H1 σ e S2 _ t1 ?_
    generalize g e S2 = R at z ⊢
    cases R with
    | no => exact z.elim
    | er x S3 => exact fun c d m2 H2 f2 c2 rx => z c d σ m2 ow H2 (t1.go f2 c2) (f1.le.trans f2.le) rx
    | ok ds S3 =>
      rw [run_ok] at z
      intro p vs m2 H2 f2 hp c2 hz hv hlen rk
      obtain ⟨t2, lp⟩ := t1.hid f2 hp c2
      unfold putVL at z
      split at z
      · rename_i hn
        have t3 := t1.go f2 (Cells.unhide (p := p) c2)
        have r1' := Rep.le f2.le d1 r1
        have r1h := Rep.le lp d1 r1
        have t4 := t3.set' hn.1 r1'
        have t4h := t2.set' hn.1 r1h
        obtain ⟨t5, l5⟩ := t4.own (c := .lst ds) (i := j) hz (t1.fut.dom p hp) c2 ⟨vs, hv, hlen, rk⟩ (fun j s _ hs => t4h.slots j s hs) hn.2.1 hn.2.2
        exact ⟨v1, .ref p, rfl, z _ m2 _ H2 t5 (f1.le.trans (lp.trans l5))⟩
      · exact z.elim
end Sh
namespace Sh
open PySem PyProof.Rows L2
theorem mapA_enc {α : Type} {g : Tg} {f : Sx D} {e : En} {S : Store} (enc : α → D) (k : α → D) (xs : List α) (acc : List D) (h : ∀ x ∈ xs, ∃ e1, g (enc x) e = some e1 ∧ f e1 S = .ok (k x) S) : mapA g tYesD f acc (xs.map enc) e S = .ok (acc ++ xs.map k) S := by
  induction xs generalizing acc with
  | nil => rw [List.map_nil, mapA_nil, List.map_nil, List.append_nil]
  | cons x r ih =>
    obtain ⟨e1, h1, h2⟩ := h x List.mem_cons_self
    rw [List.map_cons, mapA_cons, h1]
    show (R.ok true S).bind _ = _
    rw [ok_bind, if_pos rfl, h2, ok_bind, ih (acc ++ [k x]) (fun y hy => h y (List.mem_cons_of_mem _ hy)), List.append_assoc]
    rfl
theorem szl {n : Nat} (h : n ≤ 16777216) : (n ≤ sizeLine) = True := eq_true h
theorem szt {n : Nat} (h : n < 16777216) : (n < sizeLine) = True := eq_true h
theorem b_bl {b : Bool} : D.b (.bl b) = some b := rfl
def isDat : Nat → D → Bool
  | _, .non => true
  | _, .bl _ => true
  | _, .int _ => true
  | _, .str _ => true
  | 0, _ => false
  | n + 1, .tup xs => xs.all (isDat n)
  | n + 1, .lst xs => xs.all (isDat n)
  | _, _ => false
mutual
def D.qe : D → D → Bool
  | .non, .non => true
  | .bl a, .bl b => a == b
  | .bl a, .int j => (if a then 1 else 0) == j
  | .int i, .bl b => i == (if b then 1 else 0)
  | .int i, .int j => i == j
  | .str x, .str y => x == y
  | .lst xs, .lst ys => D.qes xs ys
  | .tup xs, .tup ys => D.qes xs ys
  | _, _ => false
def D.qes : List D → List D → Bool
  | [], [] => true
  | x :: xs, y :: ys => D.qe x y && D.qes xs ys
  | _, _ => false
end
mutual
theorem eqv_qe : ∀ (x y : D) {p q : PyData}, x.py = some p → y.py = some q → PyData.eqv p q = D.qe x y
  | .lst xs, y, p, q, e, e2 => by
    unfold D.py at e
    cases h : D.pys xs with
    | none => rw [h] at e; cases e
    | some ps =>
      rw [h] at e; cases e
      cases y <;> unfold D.py at e2 <;> try cases e2
      all_goals try (unfold D.qe; rfl)
      all_goals
        rename_i ys
        cases h2 : D.pys ys with
        | none => rw [h2] at e2; cases e2
        | some qs =>
          rw [h2] at e2; cases e2
          unfold D.qe PyData.eqv
          first | exact eqvs_qe xs ys h h2 | rfl
  | .tup xs, y, p, q, e, e2 => by
    unfold D.py at e
    cases h : D.pys xs with
    | none => rw [h] at e; cases e
    | some ps =>
      rw [h] at e; cases e
      cases y <;> unfold D.py at e2 <;> try cases e2
      all_goals try (unfold D.qe; rfl)
      all_goals
        rename_i ys
        cases h2 : D.pys ys with
        | none => rw [h2] at e2; cases e2
        | some qs =>
          rw [h2] at e2; cases e2
          unfold D.qe PyData.eqv
          first | exact eqvs_qe xs ys h h2 | rfl
  | .non, y, p, q, e, e2 => by
    cases e
    cases y <;> unfold D.py at e2 <;> try cases e2
    all_goals try (unfold D.qe; rfl)
    all_goals
      rename_i ys
      cases h2 : D.pys ys with
      | none => rw [h2] at e2; cases e2
      | some qs => rw [h2] at e2; cases e2; unfold D.qe; rfl
  | .bl b, y, p, q, e, e2 => by
    cases e
    cases y <;> unfold D.py at e2 <;> try cases e2
    all_goals try (unfold D.qe; rfl)
    all_goals
      rename_i ys
      cases h2 : D.pys ys with
      | none => rw [h2] at e2; cases e2
      | some qs => rw [h2] at e2; cases e2; unfold D.qe; rfl
  | .int i, y, p, q, e, e2 => by
    cases e
    cases y <;> unfold D.py at e2 <;> try cases e2
    all_goals try (unfold D.qe; rfl)
    all_goals
      rename_i ys
      cases h2 : D.pys ys with
      | none => rw [h2] at e2; cases e2
      | some qs => rw [h2] at e2; cases e2; unfold D.qe; rfl
  | .str i, y, p, q, e, e2 => by
    cases e
    cases y <;> unfold D.py at e2 <;> try cases e2
    all_goals try (unfold D.qe; rfl)
    all_goals
      rename_i ys
      cases h2 : D.pys ys with
      | none => rw [h2] at e2; cases e2
      | some qs => rw [h2] at e2; cases e2; unfold D.qe; rfl
  | .ty _, _, _, _, e, _ => by unfold D.py at e; cases e
  | .cls _, _, _, _, e, _ => by unfold D.py at e; cases e
  | .obj _ _, _, _, _, e, _ => by unfold D.py at e; cases e
  | .exc _ _, _, _, _, e, _ => by unfold D.py at e; cases e
  | .dk _, _, _, _, e, _ => by unfold D.py at e; cases e
  | .dt _, _, _, _, e, _ => by unfold D.py at e; cases e
  | .ref _, _, _, _, e, _ => by unfold D.py at e; cases e
  | .scr _, _, _, _, e, _ => by unfold D.py at e; cases e
  | .adr _, _, _, _, e, _ => by unfold D.py at e; cases e
  | .fk _, _, _, _, e, _ => by unfold D.py at e; cases e
  | .ft _, _, _, _, e, _ => by unfold D.py at e; cases e
  | .tpl _, _, _, _, e, _ => by unfold D.py at e; cases e
theorem eqvs_qe : ∀ (xs ys : List D) {ps qs : List PyData}, D.pys xs = some ps → D.pys ys = some qs → PyData.eqvAll ps qs = D.qes xs ys
  | [], ys, ps, qs, e, e2 => by
    cases e
    cases ys with
    | nil => cases e2; unfold D.qes; rfl
    | cons y r =>
      unfold D.pys at e2
      cases h : y.py <;> cases h2 : D.pys r <;> simp only [h, h2] at e2 <;> cases e2
      unfold D.qes; rfl
  | x :: xs, ys, ps, qs, e, e2 => by
    unfold D.pys at e
    cases h : x.py <;> cases h2 : D.pys xs <;> simp only [h, h2] at e <;> cases e
    cases ys with
    | nil => cases e2; unfold D.qes; rfl
    | cons y r =>
      unfold D.pys at e2
      cases h3 : y.py <;> cases h4 : D.pys r <;> simp only [h3, h4] at e2 <;> cases e2
      unfold D.qes PyData.eqvAll
      rw [eqv_qe x y h h3, eqvs_qe xs r h2 h4]
end
mutual
theorem dat_py : ∀ (n : Nat) (x : D), isDat n x = true → ∃ p, x.py = some p ∧ p.depth ≤ n + 1
  | n, .non, _ => ⟨_, by unfold D.py; rfl, by simp only [PyData.depth]; omega⟩
  | n, .bl _, _ => ⟨_, by unfold D.py; rfl, by simp only [PyData.depth]; omega⟩
  | n, .int _, _ => ⟨_, by unfold D.py; rfl, by simp only [PyData.depth]; omega⟩
  | n, .str _, _ => ⟨_, by unfold D.py; rfl, by simp only [PyData.depth]; omega⟩
  | n + 1, .tup xs, h => by
    unfold isDat at h
    obtain ⟨ps, e, d⟩ := dats_py n xs h
    exact ⟨.tuple ps, by unfold D.py; rw [e]; rfl, by simp only [PyData.depth]; omega⟩
  | n + 1, .lst xs, h => by
    unfold isDat at h
    obtain ⟨ps, e, d⟩ := dats_py n xs h
    exact ⟨.list ps, by unfold D.py; rw [e]; rfl, by simp only [PyData.depth]; omega⟩
  | 0, .tup xs, h => by unfold isDat at h; cases h
  | 0, .lst xs, h => by unfold isDat at h; cases h
  | n, .ty _, h => by unfold isDat at h; cases n <;> cases h
  | n, .cls _, h => by unfold isDat at h; cases n <;> cases h
  | n, .obj _ _, h => by unfold isDat at h; cases n <;> cases h
  | n, .exc _ _, h => by unfold isDat at h; cases n <;> cases h
  | n, .dk _, h => by unfold isDat at h; cases n <;> cases h
  | n, .dt _, h => by unfold isDat at h; cases n <;> cases h
  | n, .ref _, h => by unfold isDat at h; cases n <;> cases h
  | n, .scr _, h => by unfold isDat at h; cases n <;> cases h
  | n, .adr _, h => by unfold isDat at h; cases n <;> cases h
  | n, .fk _, h => by unfold isDat at h; cases n <;> cases h
  | n, .ft _, h => by unfold isDat at h; cases n <;> cases h
  | n, .tpl _, h => by unfold isDat at h; cases n <;> cases h
theorem dats_py : ∀ (n : Nat) (xs : List D), xs.all (isDat n) = true → ∃ ps, D.pys xs = some ps ∧ PyData.depthAll ps ≤ n + 1
  | n, [], _ => ⟨[], rfl, by simp only [PyData.depthAll]; omega⟩
  | n, x :: xs, h => by
    rw [List.all_cons, Bool.and_eq_true] at h
    obtain ⟨p, e, d⟩ := dat_py n x h.1
    obtain ⟨ps, e2, d2⟩ := dats_py n xs h.2
    exact ⟨p :: ps, by unfold D.pys; rw [e, e2], by simp only [PyData.depthAll]; omega⟩
end
theorem dEq_of {x y : D} {b : Bool} (hx : isDat 9 x = true) (hy : isDat 9 y = true) (h : D.qe x y = b) : dEq x y = some (.bl b) := by
  obtain ⟨p, e, d⟩ := dat_py 9 x hx
  obtain ⟨q, e2, _⟩ := dat_py 9 y hy
  unfold dEq dEqP
  rw [e, e2]
  dsimp only
  rw [if_pos (by omega), eqv_qe x y e e2, h]
  rfl
theorem dNe_of {x y : D} {b : Bool} (hx : isDat 9 x = true) (hy : isDat 9 y = true) (h : D.qe x y = b) : dNe x y = some (.bl (!b)) := by
  obtain ⟨p, e, d⟩ := dat_py 9 x hx
  obtain ⟨q, e2, _⟩ := dat_py 9 y hy
  unfold dNe dEqP
  rw [e, e2]
  dsimp only
  rw [if_pos (by omega), eqv_qe x y e e2, h]
  rfl
theorem dEq_q {x y : D} (hx : isDat 9 x = true) (hy : isDat 9 y = true) : dEq x y = some (.bl (D.qe x y)) := dEq_of hx hy rfl
theorem dNe_q {x y : D} (hx : isDat 9 x = true) (hy : isDat 9 y = true) : dNe x y = some (.bl (!D.qe x y)) := dNe_of hx hy rfl
theorem isDat_non {n : Nat} : isDat n .non = true := by unfold isDat; rfl
theorem isDat_bl {n : Nat} {b : Bool} : isDat n (.bl b) = true := by unfold isDat; rfl
theorem isDat_int {n : Nat} {b : Int} : isDat n (.int b) = true := by unfold isDat; rfl
theorem isDat_str {n : Nat} {b : Str} : isDat n (.str b) = true := by unfold isDat; rfl
theorem isDat_t9 {xs : List D} : isDat 9 (.tup xs) = xs.all (isDat 8) := by rw [isDat]
theorem isDat_l9 {xs : List D} : isDat 9 (.lst xs) = xs.all (isDat 8) := by rw [isDat]
theorem isDat_t8 {xs : List D} : isDat 8 (.tup xs) = xs.all (isDat 7) := by rw [isDat]
theorem isDat_l8 {xs : List D} : isDat 8 (.lst xs) = xs.all (isDat 7) := by rw [isDat]
theorem isDat_t7 {xs : List D} : isDat 7 (.tup xs) = xs.all (isDat 6) := by rw [isDat]
theorem isDat_l7 {xs : List D} : isDat 7 (.lst xs) = xs.all (isDat 6) := by rw [isDat]
theorem isDat_t6 {xs : List D} : isDat 6 (.tup xs) = xs.all (isDat 5) := by rw [isDat]
theorem isDat_l6 {xs : List D} : isDat 6 (.lst xs) = xs.all (isDat 5) := by rw [isDat]
mutual
theorem qe_self : ∀ (n : Nat) (x : D), isDat n x = true → D.qe x x = true
  | n, .non, _ => by unfold D.qe; rfl
  | n, .bl _, _ => by unfold D.qe; simp
  | n, .int _, _ => by unfold D.qe; simp
  | n, .str _, _ => by unfold D.qe; simp
  | n + 1, .tup xs, h => by
    unfold isDat at h
    unfold D.qe
    exact qes_self n xs h
  | n + 1, .lst xs, h => by
    unfold isDat at h
    unfold D.qe
    exact qes_self n xs h
  | 0, .tup xs, h => by unfold isDat at h; cases h
  | 0, .lst xs, h => by unfold isDat at h; cases h
  | n, .ty _, h => by unfold isDat at h; cases n <;> cases h
  | n, .cls _, h => by unfold isDat at h; cases n <;> cases h
  | n, .obj _ _, h => by unfold isDat at h; cases n <;> cases h
  | n, .exc _ _, h => by unfold isDat at h; cases n <;> cases h
  | n, .dk _, h => by unfold isDat at h; cases n <;> cases h
  | n, .dt _, h => by unfold isDat at h; cases n <;> cases h
  | n, .ref _, h => by unfold isDat at h; cases n <;> cases h
  | n, .scr _, h => by unfold isDat at h; cases n <;> cases h
  | n, .adr _, h => by unfold isDat at h; cases n <;> cases h
  | n, .fk _, h => by unfold isDat at h; cases n <;> cases h
  | n, .ft _, h => by unfold isDat at h; cases n <;> cases h
  | n, .tpl _, h => by unfold isDat at h; cases n <;> cases h
theorem qes_self : ∀ (n : Nat) (xs : List D), xs.all (isDat n) = true → D.qes xs xs = true
  | n, [], _ => by unfold D.qes; rfl
  | n, x :: xs, h => by
    rw [List.all_cons, Bool.and_eq_true] at h
    unfold D.qes
    rw [qe_self n x h.1, qes_self n xs h.2]
    rfl
end
theorem qe_ii {a b : Int} : D.qe (.int a) (.int b) = (a == b) := by unfold D.qe; rfl
theorem qe_ss {a b : Str} : D.qe (.str a) (.str b) = (a == b) := by unfold D.qe; rfl
theorem qe_bb {a b : Bool} : D.qe (.bl a) (.bl b) = (a == b) := by unfold D.qe; rfl
theorem qe_bi {a : Bool} {b : Int} : D.qe (.bl a) (.int b) = ((if a then 1 else 0) == b) := by unfold D.qe; rfl
theorem qe_ib {a : Int} {b : Bool} : D.qe (.int a) (.bl b) = (a == (if b then 1 else 0)) := by unfold D.qe; rfl
theorem qe_nn : D.qe .non .non = true := by unfold D.qe; rfl
theorem qe_ns {b : Str} : D.qe .non (.str b) = false := by unfold D.qe; rfl
theorem qe_sn {b : Str} : D.qe (.str b) .non = false := by unfold D.qe; rfl
theorem qe_ni {b : Int} : D.qe .non (.int b) = false := by unfold D.qe; rfl
theorem qe_in {b : Int} : D.qe (.int b) .non = false := by unfold D.qe; rfl
theorem qe_is {a : Int} {b : Str} : D.qe (.int a) (.str b) = false := by unfold D.qe; rfl
theorem qe_si {a : Int} {b : Str} : D.qe (.str b) (.int a) = false := by unfold D.qe; rfl
theorem qe_bn {b : Bool} : D.qe (.bl b) .non = false := by unfold D.qe; rfl
theorem qe_nb {b : Bool} : D.qe .non (.bl b) = false := by unfold D.qe; rfl
theorem qe_bs {a : Bool} {b : Str} : D.qe (.bl a) (.str b) = false := by unfold D.qe; rfl
theorem qe_sb {a : Bool} {b : Str} : D.qe (.str b) (.bl a) = false := by unfold D.qe; rfl
theorem qe_tt {a b : List D} : D.qe (.tup a) (.tup b) = D.qes a b := by rw [D.qe]
theorem qe_ll {a b : List D} : D.qe (.lst a) (.lst b) = D.qes a b := by rw [D.qe]
theorem qe_lt {a b : List D} : D.qe (.lst a) (.tup b) = false := by rw [D.qe] <;> simp
theorem qe_tl {a b : List D} : D.qe (.tup a) (.lst b) = false := by rw [D.qe] <;> simp
theorem qe_tn {a : List D} : D.qe (.tup a) .non = false := by rw [D.qe] <;> simp
theorem qe_nt {a : List D} : D.qe .non (.tup a) = false := by rw [D.qe] <;> simp
theorem qe_ts {a : List D} {b : Str} : D.qe (.tup a) (.str b) = false := by rw [D.qe] <;> simp
theorem qe_st {a : List D} {b : Str} : D.qe (.str b) (.tup a) = false := by rw [D.qe] <;> simp
theorem qes_nil : D.qes [] [] = true := by unfold D.qes; rfl
theorem qes_cons {x y : D} {xs ys : List D} : D.qes (x :: xs) (y :: ys) = (D.qe x y && D.qes xs ys) := by rw [D.qes]
theorem qes_nc {y : D} {ys : List D} : D.qes [] (y :: ys) = false := by rw [D.qes] <;> simp
theorem qes_cn {y : D} {ys : List D} : D.qes (y :: ys) [] = false := by rw [D.qes] <;> simp
theorem at_z {x : D} {xs : List D} : atI (x :: xs) 0 = some x := by
  unfold atI ixN
  rw [if_pos (by decide), if_pos (by simp only [List.length_cons]; omega)]
  rfl
theorem at_1 {x y : D} {xs : List D} : atI (x :: y :: xs) 1 = some y := by
  unfold atI ixN
  rw [if_pos (by decide), if_pos (by simp only [List.length_cons]; omega)]
  rfl
theorem at_2 {x y z : D} {xs : List D} : atI (x :: y :: z :: xs) 2 = some z := by
  unfold atI ixN
  rw [if_pos (by decide), if_pos (by simp only [List.length_cons]; omega)]
  rfl
theorem at_3 {x y z u : D} {xs : List D} : atI (x :: y :: z :: u :: xs) 3 = some u := by
  unfold atI ixN
  rw [if_pos (by decide), if_pos (by simp only [List.length_cons]; omega)]
  rfl
theorem at_4 {x y z u v : D} {xs : List D} : atI (x :: y :: z :: u :: v :: xs) 4 = some v := by
  unfold atI ixN
  rw [if_pos (by decide), if_pos (by simp only [List.length_cons]; omega)]
  rfl
theorem ix_T {xs : List D} {k : Int} : D.ix (.tup xs) (.int k) = atI xs k := by
  simp only [D.ix, alt2]
  cases atI xs k <;> rfl
theorem dLen_S {x : Str} : dLen [.str x] = some (.int x.length) := rfl
theorem dLen_T {xs : List D} : dLen [.tup xs] = some (.int xs.length) := rfl
theorem sl_L {xs : List D} {a b : Option Int} : D.sl a b (.lst xs) = some (.lst (cutD xs a b)) := rfl
theorem sl_T {xs : List D} {a b : Option Int} : D.sl a b (.tup xs) = some (.tup (cutD xs a b)) := rfl
theorem sl_S {xs : List D} {a b : Option Int} : D.sl a b (.scr xs) = some (.lst (cutD xs a b)) := rfl
theorem cut_to {xs : List D} {k : Int} (h : 0 ≤ k) : cutD xs none (some k) = xs.take k.toNat := by
  unfold cutD
  rw [HT.sIx_none]
  show (xs.drop 0).take ((if k < 0 then (k + (xs.length : Int)).toNat else min k.toNat xs.length) - 0) = _
  rw [if_neg (by omega), List.drop_zero, Nat.sub_zero]
  rw [← List.take_take, List.take_length]
theorem cut_from {xs : List D} {k : Int} (h : 0 ≤ k) : cutD xs (some k) none = xs.drop k.toNat := by
  unfold cutD
  rw [HT.sIx_none]
  show (xs.drop (if k < 0 then (k + (xs.length : Int)).toNat else min k.toNat xs.length)).take (xs.length - (if k < 0 then (k + (xs.length : Int)).toNat else min k.toNat xs.length)) = _
  rw [if_neg (by omega)]
  by_cases hk : k.toNat ≤ xs.length
  · rw [Nat.min_eq_left hk, ← List.length_drop, List.take_length]
  · rw [Nat.min_eq_right (by omega), Nat.sub_self, List.take_zero, List.drop_eq_nil_of_le (by omega)]
variable [TabSet] [BasePred]
theorem dList_L {xs : List D} : dList [.lst xs] = some (.lst xs) := rfl
theorem dList_T {xs : List D} : dList [.tup xs] = some (.lst xs) := rfl
theorem dTuple_L {xs : List D} : dTuple [.lst xs] = some (.tup xs) := rfl
theorem dTuple_T {xs : List D} : dTuple [.tup xs] = some (.tup xs) := rfl
theorem okR_t {n : Int} (h : -(2 ^ 62) ≤ n) (h2 : n < 2 ^ 62) : okR n = true := okR_of h h2
theorem okRt {n : Int} (h : -4611686018427387904 ≤ n ∧ n < 4611686018427387904) : (okR n = true) = True := eq_true (okR_of (by omega) (by omega))
theorem okLent {n : Int} (h : 0 ≤ n ∧ n < 9223372036854775808) : (okLen n = true) = True := eq_true (okLen_of (by omega) (by omega))
theorem bs_bls {bs : List Bool} : D.bs (bs.map D.bl) = some bs := by
  induction bs with
  | nil => rfl
  | cons b r ih => simp only [List.map_cons, D.bs, D.b, ih]
theorem dAll_b {xs : List D} : dAll [.lst xs] = (D.bs xs).map fun bs => .bl (bs.all id) := rfl
theorem isi_non {bi : List String} {own : List (String × Bool)} : isiF bi own .non = some (bi.contains "NoneType") := rfl
theorem isi_bl {bi : List String} {own : List (String × Bool)} {b : Bool} : isiF bi own (.bl b) = some (bi.contains "bool") := rfl
theorem isi_int {bi : List String} {own : List (String × Bool)} {b : Int} : isiF bi own (.int b) = some (bi.contains "int") := rfl
theorem isi_str {bi : List String} {own : List (String × Bool)} {b : Str} : isiF bi own (.str b) = some (bi.contains "str") := rfl
theorem isi_tup {bi : List String} {own : List (String × Bool)} {b : List D} : isiF bi own (.tup b) = some (bi.contains "tuple") := rfl
theorem isi_lst {bi : List String} {own : List (String × Bool)} {b : List D} : isiF bi own (.lst b) = some (bi.contains "list") := rfl
theorem isi_scr {bi : List String} {own : List (String × Bool)} {b : List D} : isiF bi own (.scr b) = some (bi.contains "list") := rfl
theorem isi_dk {bi : List String} {own : List (String × Bool)} {b : List (Key × D)} : isiF bi own (.dk b) = some (bi.contains "dict") := rfl
theorem isi_dt {bi : List String} {own : List (String × Bool)} {b : List (List Key × D)} : isiF bi own (.dt b) = some (bi.contains "dict") := rfl
theorem isi_obj {bi : List String} {own : List (String × Bool)} {c : String} {fs : List (Str × D)} : isiF bi own (.obj c fs) = own.lookup c := rfl
theorem items_lst {xs : List D} : D.items (.lst xs) = some xs := rfl
theorem items_tup {xs : List D} : D.items (.tup xs) = some xs := rfl
theorem items_str {z : Str} : D.items (.str z) = some (z.cps.toList.map fun c => .str ⟨#[c]⟩) := rfl
theorem fmt_str {z : Str} : fmtD (.str z) = some (.str z) := rfl
theorem tree_lst {xs : List D} : Cell.tree (.lst xs) = .lst xs := rfl
theorem tree_ins {c : String} {fs : List (Str × D)} : Cell.tree (.ins c fs) = .obj c fs := rfl
theorem tree_dk {b : List (Key × D)} : Cell.tree (.dk b) = .dk b := rfl
theorem tree_fk {b : List (Key × D)} : Cell.tree (.fk b) = .fk b := rfl
theorem tree_dt {b : List (List Key × D)} : Cell.tree (.dt b) = .dt b := rfl
theorem seq_lst {xs : List D} : D.seq (.lst xs) = some xs := rfl
theorem seq_tup {xs : List D} : D.seq (.tup xs) = some xs := rfl
theorem fld_obj {cs : List String} {f : Str} {S : Store} {c : String} {fs : List (Str × D)} : D.fld cs f S (.obj c fs) = if c ∈ cs then fs.lookup f else none := rfl
theorem isC_obj {k : String} {f : Str} {S : Store} {c : String} {fs : List (Str × D)} : D.isC k f S (.obj c fs) = (c == k && (fs.lookup f).isNone) := rfl
theorem isO_obj {k : String} {S : Store} {c : String} {fs : List (Str × D)} : D.isO k S (.obj c fs) = (c == k) := rfl
theorem tyIn_obj {bi cs : List String} {S : Store} {c : String} {fs : List (Str × D)} : D.tyIn bi cs S (.obj c fs) = cs.contains c := rfl
theorem dAdd_ll {xs ys : List D} (h : xs.length + ys.length ≤ 16777216) : dAdd (.lst xs) (.lst ys) = some (.lst (xs ++ ys)) := by
  simp only [dAdd, alt2, oI0, oStr, oCatL, oCatT]
  rw [if_pos (show xs.length + ys.length ≤ sizeLine from h)]
theorem dAdd_tt {xs ys : List D} (h : xs.length + ys.length ≤ 16777216) : dAdd (.tup xs) (.tup ys) = some (.tup (xs ++ ys)) := by
  simp only [dAdd, alt2, oI0, oStr, oCatL, oCatT]
  rw [if_pos (show xs.length + ys.length ≤ sizeLine from h)]
theorem dAdd_ss {x y : Str} (h : x.length + y.length ≤ 16777216) : dAdd (.str x) (.str y) = some (.str (x ++ y)) := by
  simp only [dAdd, alt2, oI0, oStr, oCatL, oCatT]
  rw [if_pos (show x.length + y.length ≤ sizeLine from h)]
theorem dMul_r1 {x : D} {k : Int} (h : -9223372036854775808 ≤ k ∧ k ≤ 16777216) : dMul (.lst [x]) (.int k) = some (.lst (List.replicate k.toNat x)) := by
  simp only [dMul, alt2, oI, oRep]
  rw [if_pos ⟨okK_of (by omega) (by omega), show [x].length * k.toNat ≤ sizeLine by rw [List.length_singleton, Nat.one_mul]; show _ ≤ 16777216; omega⟩]
  have : ∀ n, (List.replicate n [x]).flatten = List.replicate n x := fun n => by
    induction n with
    | zero => rfl
    | succ n ih => rw [List.replicate_succ, List.flatten_cons, ih, List.replicate_succ]; rfl
  rw [this]
theorem strs_map {ys : List Str} : D.strs (ys.map D.str) = some ys := by
  induction ys with
  | nil => rfl
  | cons y r ih => simp only [List.map_cons, D.strs, ih, Option.map_some]
theorem isiC_non {bi : List String} {own : List (String × Bool)} {S : Store} : isiC bi own S .non = some (bi.contains "NoneType") := rfl
theorem isiC_bl {bi : List String} {own : List (String × Bool)} {S : Store} {b : Bool} : isiC bi own S (.bl b) = some (bi.contains "bool") := rfl
theorem isiC_int {bi : List String} {own : List (String × Bool)} {S : Store} {b : Int} : isiC bi own S (.int b) = some (bi.contains "int") := rfl
theorem isiC_str {bi : List String} {own : List (String × Bool)} {S : Store} {b : Str} : isiC bi own S (.str b) = some (bi.contains "str") := rfl
theorem isiC_tup {bi : List String} {own : List (String × Bool)} {S : Store} {b : List D} : isiC bi own S (.tup b) = some (bi.contains "tuple") := rfl
theorem isiC_lst {bi : List String} {own : List (String × Bool)} {S : Store} {b : List D} : isiC bi own S (.lst b) = some (bi.contains "list") := rfl
theorem isiC_obj {bi : List String} {own : List (String × Bool)} {S : Store} {c : String} {fs : List (Str × D)} : isiC bi own S (.obj c fs) = own.lookup c := rfl
theorem dEq_sk {x : Str} {kvs : List (Key × D)} : dEq (.str x) (.dk kvs) = none := rfl
theorem dEq_so {x : Str} {c : String} {fs : List (Str × D)} : dEq (.str x) (.obj c fs) = none := rfl
theorem dkv_fk {kvs : List (Key × D)} {S : Store} : (D.fk kvs).dkv S = some kvs := rfl
theorem fkv_fk {kvs : List (Key × D)} {S : Store} : (D.fk kvs).fkv S = some kvs := rfl
theorem dkv_dk {kvs : List (Key × D)} {S : Store} : (D.dk kvs).dkv S = some kvs := rfl
theorem isDk_fk {kvs : List (Key × D)} {S : Store} : (D.fk kvs).isDk S = true := rfl
theorem isDk_dk {kvs : List (Key × D)} {S : Store} : (D.dk kvs).isDk S = true := rfl
theorem key_str {z : Str} : (D.str z).key = some (.inr z) := rfl
theorem key_int {i : Int} : (D.int i).key = some (.inl i) := rfl
theorem keyD_s {z : Str} : keyD (.inr z) = D.str z := rfl
theorem keyD_i {i : Int} : keyD (.inl i) = D.int i := rfl
theorem isi_fk {bi : List String} {own : List (String × Bool)} {b : List (Key × D)} : isiF bi own (.fk b) = some (bi.contains "dict") := rfl
theorem tyIn_fk {bi cs : List String} {S : Store} {b : List (Key × D)} : D.tyIn bi cs S (.fk b) = bi.contains "dict" := rfl
theorem mapK_nil {g : Tg} {t : Sx Bool} {fk fv : Sx D} {acc : List (Key × D)} {e : En} {S : Store} : mapK g t fk fv acc [] e S = .ok acc S := rfl
theorem mapK_cons {g : Tg} {t : Sx Bool} {fk fv : Sx D} {acc : List (Key × D)} {d : D} {ds : List D} {e : En} {S : Store} : mapK g t fk fv acc (d :: ds) e S = match g d e with
    | none => .no
    | some e1 => (t e1 S).bind fun c S1 => if c then (fk e1 S1).bind fun y S2 => (fv e1 S2).bind fun z S3 => match y.key with
      | some k => mapK g t fk fv (dkSt acc k z) ds e S3
      | none => .no
      else mapK g t fk fv acc ds e S1 := rfl
theorem prm_nil {α : Type} {zs : List α} : prm [] zs = [] := rfl
theorem prm_0 {α : Type} {l : List Nat} {x : α} {zs : List α} : prm (0 :: l) (x :: zs) = x :: prm l (x :: zs) := rfl
theorem prm_1 {α : Type} {l : List Nat} {x y : α} {zs : List α} : prm (1 :: l) (x :: y :: zs) = y :: prm l (x :: y :: zs) := rfl
theorem prm_2 {α : Type} {l : List Nat} {x y u : α} {zs : List α} : prm (2 :: l) (x :: y :: u :: zs) = u :: prm l (x :: y :: u :: zs) := rfl
theorem cBoolD_eq {x : D} {S : Store} : cBoolD [x] S = R.of S ((x.dkv S).map fun kvs => .bl (!kvs.isEmpty)) := rfl
theorem cBool_eq {c : String} {F : List D → Store → R D} {x : D} {S : Store} : cBool c F [x] S = if x.isO c S = true then (F [x] S).clean.bind (fun z S1 => match z with
    | .bl n => .ok (.bl n) S1
    | _ => .no) else .no := rfl
theorem pairsD_nil {e : En} {S : Store} : pairsD [] e S = .ok [] S := rfl
theorem pairsD_cons {f g : Sx D} {r : List (Sx D × Sx D)} {e : En} {S : Store} : pairsD ((f, g) :: r) e S = (f e S).bind (fun y S1 => (g e S1).bind fun z S2 => (pairsD r e S2).bind fun ps S3 => match y.key with
    | some k => .ok ((k, z) :: ps) S3
    | none => .no) := rfl
theorem zip_nn {α β : Type} {zs : List β} : ([] : List α).zip zs = [] := rfl
theorem zip_cc {α β : Type} {x : α} {xs : List α} {y : β} {ys : List β} : (x :: xs).zip (y :: ys) = (x, y) :: xs.zip ys := rfl
theorem ap_runD (n k : Nat) (f : Sy) (ds : List D) (S : Store) : runD n k f ds S = (if ds.length = n then (f (ds.map Sl.val ++ List.replicate k .no) S).res else .no) := rfl
theorem ap_runI (n k : Nat) (f : Sy) (c : Cell) (ds : List D) (S : Store) : runI n k f c ds S = (if ds.length + 1 = n then (f (.own c :: (ds.map Sl.val ++ List.replicate k .no)) S).resI else .no) := rfl
theorem ap_sSeq (f g : Sy) (e : En) (S : Store) : sSeq f g e S = ((f e S).seq g) := rfl
theorem ap_sNil (e : En) (S : Store) : sNil e S = (.nx e S) := rfl
def k_sSet_1 (i : Nat) (e : En) (d : D) (S1 : Store) : RS := if notOwn i e then .nx (e.set i (.val d)) S1 else .no
theorem ap_k_sSet_1 (i : Nat) (e : En) (d : D) (S1 : Store) : k_sSet_1 i e d S1 = (if notOwn i e then .nx (e.set i (.val d)) S1 else .no) := rfl
theorem ap_sSet (i : Nat) (f : Sx D) (e : En) (S : Store) : sSet i f e S = ((f e S).run e (k_sSet_1 i e)) := rfl
def k_sAsg_1 (g : Tg) (e : En) (d : D) (S1 : Store) : RS := match g d e with
  | some e' => .nx e' S1
  | none => .no
theorem ap_k_sAsg_1 (g : Tg) (e : En) (d : D) (S1 : Store) : k_sAsg_1 g e d S1 = (match g d e with
  | some e' => .nx e' S1
  | none => .no) := rfl
theorem ap_sAsg (g : Tg) (f : Sx D) (e : En) (S : Store) : sAsg g f e S = ((f e S).run e (k_sAsg_1 g e)) := rfl
def k_sDrop_1 (e : En) (_0 : D) (S1 : Store) : RS := .nx e S1
theorem ap_k_sDrop_1 (e : En) (_0 : D) (S1 : Store) : k_sDrop_1 e _0 S1 = (.nx e S1) := rfl
theorem ap_sDrop (f : Sx D) (e : En) (S : Store) : sDrop f e S = ((f e S).run e (k_sDrop_1 e)) := rfl
def k_sRet_1 (d : D) (S1 : Store) : RS := .rt d S1
theorem ap_k_sRet_1 (d : D) (S1 : Store) : k_sRet_1 d S1 = (.rt d S1) := rfl
theorem ap_sRet (f : Sx D) (e : En) (S : Store) : sRet f e S = ((f e S).run e (k_sRet_1)) := rfl
def k_sIf_1 (f : Sy) (g : Sy) (e : En) (b : Bool) (S1 : Store) : RS := if b then f e S1 else g e S1
theorem ap_k_sIf_1 (f : Sy) (g : Sy) (e : En) (b : Bool) (S1 : Store) : k_sIf_1 f g e b S1 = (if b then f e S1 else g e S1) := rfl
theorem ap_sIf (t : Sx Bool) (f g : Sy) (e : En) (S : Store) : sIf t f g e S = ((t e S).run e (k_sIf_1 f g e)) := rfl
def k_sFor_1 (g : Tg) (body : Sy) (e : En) (ds : (List D)) (S1 : Store) : RS := forD g body ds e S1
theorem ap_k_sFor_1 (g : Tg) (body : Sy) (e : En) (ds : (List D)) (S1 : Store) : k_sFor_1 g body e ds S1 = (forD g body ds e S1) := rfl
theorem ap_sFor (it : Sx (List D)) (g : Tg) (body : Sy) (e : En) (S : Store) : sFor it g body e S = ((it e S).run e (k_sFor_1 g body e)) := rfl
theorem ap_sFrz (i : Nat) (f : Sy) (e : En) (S : Store) : sFrz i f e S = (f (freeze i e) S) := rfl
theorem ap_freeze (i : Nat) (e : En) : freeze i e = (match e[i]? with
  | some (.own (.lst ds)) => e.set i (.val (.lst ds))
  | some (.own (.dk ds)) => e.set i (.val (.dk ds))
  | some (.own (.dt ds)) => e.set i (.val (.dt ds))
  | _ => e) := rfl
def k_sApp_1 (i : Nat) (e : En) (ds : List D) (d : D) (S1 : Store) : RS := if ds.length < sizeLine then .nx (e.set i (.own (.lst (ds ++ [d])))) S1 else .no
theorem ap_k_sApp_1 (i : Nat) (e : En) (ds : List D) (d : D) (S1 : Store) : k_sApp_1 i e ds d S1 = (if ds.length < sizeLine then .nx (e.set i (.own (.lst (ds ++ [d])))) S1 else .no) := rfl
theorem ap_sApp (i : Nat) (f : Sx D) (e : En) (S : Store) : sApp i f e S = (match e[i]? with
  | some (Sl.own (.lst ds)) => (f e S).run e (k_sApp_1 i e ds)
  | _ => .no) := rfl
def k_sRs_1 (c : String) (fs : List Str) (e : En) (ds : (List D)) (S1 : Store) : RS := if ds.length = fs.length then .er ⟨c, (fs.zip ds).reverse⟩ e S1 else .no
theorem ap_k_sRs_1 (c : String) (fs : List Str) (e : En) (ds : (List D)) (S1 : Store) : k_sRs_1 c fs e ds S1 = (if ds.length = fs.length then .er ⟨c, (fs.zip ds).reverse⟩ e S1 else .no) := rfl
theorem ap_sRs (c : String) (fs : List Str) (a : Sx (List D)) (e : En) (S : Store) : sRs c fs a e S = ((a e S).run e (k_sRs_1 c fs e)) := rfl
def k_sFdO_1 (c : String) (fd : Str) (e : En) (d : D) (S1 : Store) : RS := match (e[0]? : Option Sl) with
  | some (Sl.own (.ins c' fs)) => if c' = c ∧ fs.length < 999 then .nx (e.set 0 (.own (.ins c' (putD fd d fs)))) S1 else .no
  | _ => .no
theorem ap_k_sFdO_1 (c : String) (fd : Str) (e : En) (d : D) (S1 : Store) : k_sFdO_1 c fd e d S1 = (match (e[0]? : Option Sl) with
  | some (Sl.own (.ins c' fs)) => if c' = c ∧ fs.length < 999 then .nx (e.set 0 (.own (.ins c' (putD fd d fs)))) S1 else .no
  | _ => .no) := rfl
theorem ap_sFdO (c : String) (fd : Str) (f : Sx D) (e : En) (S : Store) : sFdO c fd f e S = ((f e S).run e (k_sFdO_1 c fd e)) := rfl
def k_sIxC_1 (e : En) (d : D) (o : D) (y : D) (S3 : Store) : RS := match o, y with
  | .ref n, .int l => match S3[n]? with
    | some (.lst ds) => match ixN ds.length l with
      | some j => .nx e (S3.set n (.lst (ds.set j d)))
      | none => .no
    | _ => .no
  | _, _ => .no
theorem ap_k_sIxC_1 (e : En) (d : D) (o : D) (y : D) (S3 : Store) : k_sIxC_1 e d o y S3 = (match o, y with
  | .ref n, .int l => match S3[n]? with
    | some (.lst ds) => match ixN ds.length l with
      | some j => .nx e (S3.set n (.lst (ds.set j d)))
      | none => .no
    | _ => .no
  | _, _ => .no) := rfl
def k_sIxC_2 (k : Sx D) (e : En) (d : D) (o : D) (S2 : Store) : RS := (k e S2).run e (k_sIxC_1 e d o)
theorem ap_k_sIxC_2 (k : Sx D) (e : En) (d : D) (o : D) (S2 : Store) : k_sIxC_2 k e d o S2 = ((k e S2).run e (k_sIxC_1 e d o)) := rfl
def k_sIxC_3 (g : Sx D) (k : Sx D) (e : En) (d : D) (S1 : Store) : RS := (g e S1).run e (k_sIxC_2 k e d)
theorem ap_k_sIxC_3 (g : Sx D) (k : Sx D) (e : En) (d : D) (S1 : Store) : k_sIxC_3 g k e d S1 = ((g e S1).run e (k_sIxC_2 k e d)) := rfl
theorem ap_sIxC (g k f : Sx D) (e : En) (S : Store) : sIxC g k f e S = ((f e S).run e (k_sIxC_3 g k e)) := rfl
theorem ap_eVar (i : Nat) (e : En) (S : Store) : eVar i e S = (match e[i]? with
  | some (.val d) => .ok d S
  | _ => .no) := rfl
theorem ap_eC (d : D) (_z : En) (S : Store) : eC d _z S = (.ok d S) := rfl
def k_eBin_1 (o : D → D → Option D) (x : D) (y : D) (S2 : Store) : R D := R.of S2 (o x y)
theorem ap_k_eBin_1 (o : D → D → Option D) (x : D) (y : D) (S2 : Store) : k_eBin_1 o x y S2 = (R.of S2 (o x y)) := rfl
def k_eBin_2 (o : D → D → Option D) (g : Sx D) (e : En) (x : D) (S1 : Store) : R D := (g e S1).bind (k_eBin_1 o x)
theorem ap_k_eBin_2 (o : D → D → Option D) (g : Sx D) (e : En) (x : D) (S1 : Store) : k_eBin_2 o g e x S1 = ((g e S1).bind (k_eBin_1 o x)) := rfl
theorem ap_eBin (o : D → D → Option D) (f g : Sx D) (e : En) (S : Store) : eBin o f g e S = ((f e S).bind (k_eBin_2 o g e)) := rfl
def k_tVal_1 (x : D) (S1 : Store) : R Bool := R.of S1 x.b
theorem ap_k_tVal_1 (x : D) (S1 : Store) : k_tVal_1 x S1 = (R.of S1 x.b) := rfl
theorem ap_tVal (f : Sx D) (e : En) (S : Store) : tVal f e S = ((f e S).bind (k_tVal_1)) := rfl
def k_tNt_1 (b : Bool) (S1 : Store) : R Bool := .ok (!b) S1
theorem ap_k_tNt_1 (b : Bool) (S1 : Store) : k_tNt_1 b S1 = (.ok (!b) S1) := rfl
theorem ap_tNt (f : Sx Bool) (e : En) (S : Store) : tNt f e S = ((f e S).bind (k_tNt_1)) := rfl
def k_tAd_1 (g : Sx Bool) (e : En) (b : Bool) (S1 : Store) : R Bool := if b then g e S1 else .ok false S1
theorem ap_k_tAd_1 (g : Sx Bool) (e : En) (b : Bool) (S1 : Store) : k_tAd_1 g e b S1 = (if b then g e S1 else .ok false S1) := rfl
theorem ap_tAd (f g : Sx Bool) (e : En) (S : Store) : tAd f g e S = ((f e S).bind (k_tAd_1 g e)) := rfl
def k_tOo_1 (g : Sx Bool) (e : En) (b : Bool) (S1 : Store) : R Bool := if b then .ok true S1 else g e S1
theorem ap_k_tOo_1 (g : Sx Bool) (e : En) (b : Bool) (S1 : Store) : k_tOo_1 g e b S1 = (if b then .ok true S1 else g e S1) := rfl
theorem ap_tOo (f g : Sx Bool) (e : En) (S : Store) : tOo f g e S = ((f e S).bind (k_tOo_1 g e)) := rfl
def k_eNt_1 (b : Bool) (S1 : Store) : R D := .ok (.bl (!b)) S1
theorem ap_k_eNt_1 (b : Bool) (S1 : Store) : k_eNt_1 b S1 = (.ok (.bl (!b)) S1) := rfl
theorem ap_eNt (f : Sx D) (e : En) (S : Store) : eNt f e S = ((tVal f e S).bind (k_eNt_1)) := rfl
def k_eAd_1 (g : Sx D) (e : En) (b : Bool) (S1 : Store) : R D := if b then g e S1 else .ok (.bl false) S1
theorem ap_k_eAd_1 (g : Sx D) (e : En) (b : Bool) (S1 : Store) : k_eAd_1 g e b S1 = (if b then g e S1 else .ok (.bl false) S1) := rfl
theorem ap_eAd (f g : Sx D) (e : En) (S : Store) : eAd f g e S = ((tVal f e S).bind (k_eAd_1 g e)) := rfl
def k_eIf_1 (f : Sx D) (g : Sx D) (e : En) (b : Bool) (S1 : Store) : R D := if b then f e S1 else g e S1
theorem ap_k_eIf_1 (f : Sx D) (g : Sx D) (e : En) (b : Bool) (S1 : Store) : k_eIf_1 f g e b S1 = (if b then f e S1 else g e S1) := rfl
theorem ap_eIf (t : Sx Bool) (f g : Sx D) (e : En) (S : Store) : eIf t f g e S = ((t e S).bind (k_eIf_1 f g e)) := rfl
def k_eChain_1 (p : D → D → Option D) (y : D) (z : D) (S4 : Store) : R D := R.of S4 (p y z)
theorem ap_k_eChain_1 (p : D → D → Option D) (y : D) (z : D) (S4 : Store) : k_eChain_1 p y z S4 = (R.of S4 (p y z)) := rfl
def k_eChain_2 (p : D → D → Option D) (h : Sx D) (e : En) (y : D) (b : Bool) (S3 : Store) : R D := if b then (h e S3).bind (k_eChain_1 p y) else .ok (.bl false) S3
theorem ap_k_eChain_2 (p : D → D → Option D) (h : Sx D) (e : En) (y : D) (b : Bool) (S3 : Store) : k_eChain_2 p h e y b S3 = (if b then (h e S3).bind (k_eChain_1 p y) else .ok (.bl false) S3) := rfl
def k_eChain_3 (o : D → D → Option D) (p : D → D → Option D) (h : Sx D) (e : En) (x : D) (y : D) (S2 : Store) : R D := (R.of S2 ((o x y).bind D.b)).bind (k_eChain_2 p h e y)
theorem ap_k_eChain_3 (o : D → D → Option D) (p : D → D → Option D) (h : Sx D) (e : En) (x : D) (y : D) (S2 : Store) : k_eChain_3 o p h e x y S2 = ((R.of S2 ((o x y).bind D.b)).bind (k_eChain_2 p h e y)) := rfl
def k_eChain_4 (o : D → D → Option D) (p : D → D → Option D) (g : Sx D) (h : Sx D) (e : En) (x : D) (S1 : Store) : R D := (g e S1).bind (k_eChain_3 o p h e x)
theorem ap_k_eChain_4 (o : D → D → Option D) (p : D → D → Option D) (g : Sx D) (h : Sx D) (e : En) (x : D) (S1 : Store) : k_eChain_4 o p g h e x S1 = ((g e S1).bind (k_eChain_3 o p h e x)) := rfl
theorem ap_eChain (o p : D → D → Option D) (f g h : Sx D) (e : En) (S : Store) : eChain o p f g h e S = ((f e S).bind (k_eChain_4 o p g h e)) := rfl
theorem ap_aNil (_z : En) (S : Store) : aNil _z S = (.ok [] S) := rfl
def k_aCons_1 (x : D) (xs : (List D)) (S2 : Store) : R (List D) := .ok (x :: xs) S2
theorem ap_k_aCons_1 (x : D) (xs : (List D)) (S2 : Store) : k_aCons_1 x xs S2 = (.ok (x :: xs) S2) := rfl
def k_aCons_2 (g : Sx (List D)) (e : En) (x : D) (S1 : Store) : R (List D) := (g e S1).bind (k_aCons_1 x)
theorem ap_k_aCons_2 (g : Sx (List D)) (e : En) (x : D) (S1 : Store) : k_aCons_2 g e x S1 = ((g e S1).bind (k_aCons_1 x)) := rfl
theorem ap_aCons (f : Sx D) (g : Sx (List D)) (e : En) (S : Store) : aCons f g e S = ((f e S).bind (k_aCons_2 g e)) := rfl
def k_eTup_1 (xs : (List D)) (S1 : Store) : R D := if xs.length ≤ sizeLine then .ok (.tup xs) S1 else .no
theorem ap_k_eTup_1 (xs : (List D)) (S1 : Store) : k_eTup_1 xs S1 = (if xs.length ≤ sizeLine then .ok (.tup xs) S1 else .no) := rfl
theorem ap_eTup (g : Sx (List D)) (e : En) (S : Store) : eTup g e S = ((g e S).bind (k_eTup_1)) := rfl
def k_eLst_1 (xs : (List D)) (S1 : Store) : R D := if xs.length ≤ sizeLine then .ok (.lst xs) S1 else .no
theorem ap_k_eLst_1 (xs : (List D)) (S1 : Store) : k_eLst_1 xs S1 = (if xs.length ≤ sizeLine then .ok (.lst xs) S1 else .no) := rfl
theorem ap_eLst (g : Sx (List D)) (e : En) (S : Store) : eLst g e S = ((g e S).bind (k_eLst_1)) := rfl
def k_eCall_1 (o : List D → Option D) (xs : (List D)) (S1 : Store) : R D := R.of S1 (o xs)
theorem ap_k_eCall_1 (o : List D → Option D) (xs : (List D)) (S1 : Store) : k_eCall_1 o xs S1 = (R.of S1 (o xs)) := rfl
theorem ap_eCall (o : List D → Option D) (g : Sx (List D)) (e : En) (S : Store) : eCall o g e S = ((g e S).bind (k_eCall_1 o)) := rfl
def k_eIx_1 (x : D) (y : D) (S2 : Store) : R D := match x with
  | .ref n => match S2[n]?, y with
    | some (.lst xs), .int i => R.of S2 (atI xs i)
    | _, _ => .no
  | _ => R.of S2 (D.ix x y)
theorem ap_k_eIx_1 (x : D) (y : D) (S2 : Store) : k_eIx_1 x y S2 = (match x with
  | .ref n => match S2[n]?, y with
    | some (.lst xs), .int i => R.of S2 (atI xs i)
    | _, _ => .no
  | _ => R.of S2 (D.ix x y)) := rfl
def k_eIx_2 (g : Sx D) (e : En) (x : D) (S1 : Store) : R D := (g e S1).bind (k_eIx_1 x)
theorem ap_k_eIx_2 (g : Sx D) (e : En) (x : D) (S1 : Store) : k_eIx_2 g e x S1 = ((g e S1).bind (k_eIx_1 x)) := rfl
theorem ap_eIx (f g : Sx D) (e : En) (S : Store) : eIx f g e S = ((f e S).bind (k_eIx_2 g e)) := rfl
def k_eDf_1 (f : List D → Store → R D) (ds : (List D)) (S1 : Store) : R D := f ds S1
theorem ap_k_eDf_1 (f : List D → Store → R D) (ds : (List D)) (S1 : Store) : k_eDf_1 f ds S1 = (f ds S1) := rfl
theorem ap_eDf (f : List D → Store → R D) (a : Sx (List D)) (e : En) (S : Store) : eDf f a e S = ((a e S).bind (k_eDf_1 f)) := rfl
def k_eFd_1 (cs : List String) (f : Str) (x : D) (S1 : Store) : R D := R.of S1 (x.fld cs f S1)
theorem ap_k_eFd_1 (cs : List String) (f : Str) (x : D) (S1 : Store) : k_eFd_1 cs f x S1 = (R.of S1 (x.fld cs f S1)) := rfl
theorem ap_eFd (cs : List String) (f : Str) (g : Sx D) (e : En) (S : Store) : eFd cs f g e S = ((g e S).bind (k_eFd_1 cs f)) := rfl
def k_eMe_1 (f : List D → Store → R D) (x : D) (ds : (List D)) (S2 : Store) : R D := f (x :: ds) S2
theorem ap_k_eMe_1 (f : List D → Store → R D) (x : D) (ds : (List D)) (S2 : Store) : k_eMe_1 f x ds S2 = (f (x :: ds) S2) := rfl
def k_eMe_2 (c : String) (m : Str) (f : List D → Store → R D) (a : Sx (List D)) (e : En) (x : D) (S1 : Store) : R D := if x.isC c m S1 then (a e S1).bind (k_eMe_1 f x) else .no
theorem ap_k_eMe_2 (c : String) (m : Str) (f : List D → Store → R D) (a : Sx (List D)) (e : En) (x : D) (S1 : Store) : k_eMe_2 c m f a e x S1 = (if x.isC c m S1 then (a e S1).bind (k_eMe_1 f x) else .no) := rfl
theorem ap_eMe (c : String) (m : Str) (f : List D → Store → R D) (g : Sx D) (a : Sx (List D)) (e : En) (S : Store) : eMe c m f g a e S = ((g e S).bind (k_eMe_2 c m f a e)) := rfl
def k_eCm_1 (c : String) (f : List D → Store → R D) (ds : (List D)) (S2 : Store) : R D := f (.cls c :: ds) S2
theorem ap_k_eCm_1 (c : String) (f : List D → Store → R D) (ds : (List D)) (S2 : Store) : k_eCm_1 c f ds S2 = (f (.cls c :: ds) S2) := rfl
def k_eCm_2 (c : String) (f : List D → Store → R D) (a : Sx (List D)) (e : En) (x : D) (S1 : Store) : R D := match x with
  | .cls c' => if c' = c then (a e S1).bind (k_eCm_1 c f) else .no
  | _ => .no
theorem ap_k_eCm_2 (c : String) (f : List D → Store → R D) (a : Sx (List D)) (e : En) (x : D) (S1 : Store) : k_eCm_2 c f a e x S1 = (match x with
  | .cls c' => if c' = c then (a e S1).bind (k_eCm_1 c f) else .no
  | _ => .no) := rfl
theorem ap_eCm (c : String) (f : List D → Store → R D) (g : Sx D) (a : Sx (List D)) (e : En) (S : Store) : eCm c f g a e S = ((g e S).bind (k_eCm_2 c f a e)) := rfl
def k_ePr_1 (c : String) (f : List D → Store → R D) (x : D) (S1 : Store) : R D := if x.isC c "" S1 then (f [x] S1).clean else .no
theorem ap_k_ePr_1 (c : String) (f : List D → Store → R D) (x : D) (S1 : Store) : k_ePr_1 c f x S1 = (if x.isC c "" S1 then (f [x] S1).clean else .no) := rfl
theorem ap_ePr (c : String) (f : List D → Store → R D) (g : Sx D) (e : En) (S : Store) : ePr c f g e S = ((g e S).bind (k_ePr_1 c f)) := rfl
def k_eMk_1 (c' : Cell) (S3 : Store) : R D := .ok c'.tree S3
theorem ap_k_eMk_1 (c' : Cell) (S3 : Store) : k_eMk_1 c' S3 = (.ok c'.tree S3) := rfl
def k_eMk_2 (c : String) (f : Cell → List D → Store → R Cell) (ds : (List D)) (S2 : Store) : R D := (f (.ins c []) ds S2).bind (k_eMk_1)
theorem ap_k_eMk_2 (c : String) (f : Cell → List D → Store → R Cell) (ds : (List D)) (S2 : Store) : k_eMk_2 c f ds S2 = ((f (.ins c []) ds S2).bind (k_eMk_1)) := rfl
def k_eMk_3 (c : String) (f : Cell → List D → Store → R Cell) (a : Sx (List D)) (e : En) (x : D) (S1 : Store) : R D := match x with
  | .cls c' => if c' = c then (a e S1).bind (k_eMk_2 c f) else .no
  | _ => .no
theorem ap_k_eMk_3 (c : String) (f : Cell → List D → Store → R Cell) (a : Sx (List D)) (e : En) (x : D) (S1 : Store) : k_eMk_3 c f a e x S1 = (match x with
  | .cls c' => if c' = c then (a e S1).bind (k_eMk_2 c f) else .no
  | _ => .no) := rfl
theorem ap_eMk (c : String) (f : Cell → List D → Store → R Cell) (g : Sx D) (a : Sx (List D)) (e : En) (S : Store) : eMk c f g a e S = ((g e S).bind (k_eMk_3 c f a e)) := rfl
def k_eLstC_1 (xs : (List D)) (S1 : Store) : R D := if xs.length ≤ sizeLine then pubC (.lst xs) S1 else .no
theorem ap_k_eLstC_1 (xs : (List D)) (S1 : Store) : k_eLstC_1 xs S1 = (if xs.length ≤ sizeLine then pubC (.lst xs) S1 else .no) := rfl
theorem ap_eLstC (a : Sx (List D)) (e : En) (S : Store) : eLstC a e S = ((a e S).bind (k_eLstC_1)) := rfl
theorem ap_pubC (c : Cell) (S : Store) : pubC c S = (.ok (.ref S.length) (S ++ [c])) := rfl
def k_eIsi_1 (bi : List String) (own : List (String × Bool)) (x : D) (S1 : Store) : R D := R.of S1 ((isiF bi own x).map .bl)
theorem ap_k_eIsi_1 (bi : List String) (own : List (String × Bool)) (x : D) (S1 : Store) : k_eIsi_1 bi own x S1 = (R.of S1 ((isiF bi own x).map .bl)) := rfl
theorem ap_eIsi (bi : List String) (own : List (String × Bool)) (f : Sx D) (e : En) (S : Store) : eIsi bi own f e S = ((f e S).bind (k_eIsi_1 bi own)) := rfl
def k_eFmt_1 (x : D) (S1 : Store) : R D := R.of S1 (fmtD x)
theorem ap_k_eFmt_1 (x : D) (S1 : Store) : k_eFmt_1 x S1 = (R.of S1 (fmtD x)) := rfl
theorem ap_eFmt (f : Sx D) (e : En) (S : Store) : eFmt f e S = ((f e S).bind (k_eFmt_1)) := rfl
def k_eSl_1 (x : D) (l : (Option Int)) (u : (Option Int)) (S3 : Store) : R D := match x with
  | .ref n => match S3[n]? with
    | some (.lst xs) => .ok (.lst (cutD xs l u)) S3
    | _ => .no
  | _ => R.of S3 (x.sl l u)
theorem ap_k_eSl_1 (x : D) (l : (Option Int)) (u : (Option Int)) (S3 : Store) : k_eSl_1 x l u S3 = (match x with
  | .ref n => match S3[n]? with
    | some (.lst xs) => .ok (.lst (cutD xs l u)) S3
    | _ => .no
  | _ => R.of S3 (x.sl l u)) := rfl
def k_eSl_2 (hi : Sx (Option Int)) (e : En) (x : D) (l : (Option Int)) (S2 : Store) : R D := (hi e S2).bind (k_eSl_1 x l)
theorem ap_k_eSl_2 (hi : Sx (Option Int)) (e : En) (x : D) (l : (Option Int)) (S2 : Store) : k_eSl_2 hi e x l S2 = ((hi e S2).bind (k_eSl_1 x l)) := rfl
def k_eSl_3 (lo : Sx (Option Int)) (hi : Sx (Option Int)) (e : En) (x : D) (S1 : Store) : R D := (lo e S1).bind (k_eSl_2 hi e x)
theorem ap_k_eSl_3 (lo : Sx (Option Int)) (hi : Sx (Option Int)) (e : En) (x : D) (S1 : Store) : k_eSl_3 lo hi e x S1 = ((lo e S1).bind (k_eSl_2 hi e x)) := rfl
theorem ap_eSl (f : Sx D) (lo hi : Sx (Option Int)) (e : En) (S : Store) : eSl f lo hi e S = ((f e S).bind (k_eSl_3 lo hi e)) := rfl
theorem ap_pNo (_z : En) (S : Store) : pNo _z S = (.ok none S) := rfl
def k_pSo_1 (x : D) (S1 : Store) : R (Option Int) := match x with
  | .int i => .ok (some i) S1
  | _ => .no
theorem ap_k_pSo_1 (x : D) (S1 : Store) : k_pSo_1 x S1 = (match x with
  | .int i => .ok (some i) S1
  | _ => .no) := rfl
theorem ap_pSo (f : Sx D) (e : En) (S : Store) : pSo f e S = ((f e S).bind (k_pSo_1)) := rfl
def k_eM1_1 (o : Str → D → Option D) (z : Str) (y : D) (S2 : Store) : R D := R.of S2 (o z y)
theorem ap_k_eM1_1 (o : Str → D → Option D) (z : Str) (y : D) (S2 : Store) : k_eM1_1 o z y S2 = (R.of S2 (o z y)) := rfl
def k_eM1_2 (o : Str → D → Option D) (g : Sx D) (e : En) (x : D) (S1 : Store) : R D := match x with
  | .str z => (g e S1).bind (k_eM1_1 o z)
  | _ => .no
theorem ap_k_eM1_2 (o : Str → D → Option D) (g : Sx D) (e : En) (x : D) (S1 : Store) : k_eM1_2 o g e x S1 = (match x with
  | .str z => (g e S1).bind (k_eM1_1 o z)
  | _ => .no) := rfl
theorem ap_eM1 (o : Str → D → Option D) (f g : Sx D) (e : En) (S : Store) : eM1 o f g e S = ((f e S).bind (k_eM1_2 o g e)) := rfl
def k_eBinE_1 (o : D → D → Store → R D) (x : D) (y : D) (S2 : Store) : R D := (o x y S2).clean
theorem ap_k_eBinE_1 (o : D → D → Store → R D) (x : D) (y : D) (S2 : Store) : k_eBinE_1 o x y S2 = ((o x y S2).clean) := rfl
def k_eBinE_2 (o : D → D → Store → R D) (g : Sx D) (e : En) (x : D) (S1 : Store) : R D := (g e S1).bind (k_eBinE_1 o x)
theorem ap_k_eBinE_2 (o : D → D → Store → R D) (g : Sx D) (e : En) (x : D) (S1 : Store) : k_eBinE_2 o g e x S1 = ((g e S1).bind (k_eBinE_1 o x)) := rfl
theorem ap_eBinE (o : D → D → Store → R D) (f g : Sx D) (e : En) (S : Store) : eBinE o f g e S = ((f e S).bind (k_eBinE_2 o g e)) := rfl
def k_eCallE_1 (o : List D → Store → R D) (xs : (List D)) (S1 : Store) : R D := (o xs S1).clean
theorem ap_k_eCallE_1 (o : List D → Store → R D) (xs : (List D)) (S1 : Store) : k_eCallE_1 o xs S1 = ((o xs S1).clean) := rfl
theorem ap_eCallE (o : List D → Store → R D) (g : Sx (List D)) (e : En) (S : Store) : eCallE o g e S = ((g e S).bind (k_eCallE_1 o)) := rfl
def k_eNew_1 (ds : (List D)) (S1 : Store) : R D := .ok (.lst ds) S1
theorem ap_k_eNew_1 (ds : (List D)) (S1 : Store) : k_eNew_1 ds S1 = (.ok (.lst ds) S1) := rfl
theorem ap_eNew (f : Sx (List D)) (e : En) (S : Store) : eNew f e S = ((f e S).bind (k_eNew_1)) := rfl
def k_lDisp_1 (ds : (List D)) (S1 : Store) : R (List D) := if ds.length ≤ sizeLine then .ok ds S1 else .no
theorem ap_k_lDisp_1 (ds : (List D)) (S1 : Store) : k_lDisp_1 ds S1 = (if ds.length ≤ sizeLine then .ok ds S1 else .no) := rfl
theorem ap_lDisp (a : Sx (List D)) (e : En) (S : Store) : lDisp a e S = ((a e S).bind (k_lDisp_1)) := rfl
def k_lComp_1 (vs : List Nat) (g : Tg) (t : Sx Bool) (f : Sx D) (e : En) (ds : (List D)) (S1 : Store) : R (List D) := if ds.length ≤ sizeLine ∧ vs.all (fun v => notOwn v e) = true then (mapA g t f [] ds (clr vs e) S1).clean else .no
theorem ap_k_lComp_1 (vs : List Nat) (g : Tg) (t : Sx Bool) (f : Sx D) (e : En) (ds : (List D)) (S1 : Store) : k_lComp_1 vs g t f e ds S1 = (if ds.length ≤ sizeLine ∧ vs.all (fun v => notOwn v e) = true then (mapA g t f [] ds (clr vs e) S1).clean else .no) := rfl
theorem ap_lComp (vs : List Nat) (it : Sx (List D)) (g : Tg) (t : Sx Bool) (f : Sx D) (e : En) (S : Store) : lComp vs it g t f e S = ((it e S).bind (k_lComp_1 vs g t f e)) := rfl
def k_iSq_1 (x : D) (S1 : Store) : R (List D) := R.of S1 x.items
theorem ap_k_iSq_1 (x : D) (S1 : Store) : k_iSq_1 x S1 = (R.of S1 x.items) := rfl
theorem ap_iSq (f : Sx D) (e : En) (S : Store) : iSq f e S = ((f e S).bind (k_iSq_1)) := rfl
def k_iRng1_1 (xs : (List D)) (S1 : Store) : R (List D) := match xs with
  | [.int j] => if okR j = true then .ok ((List.range j.toNat).map fun i => .int (i : Nat)) S1 else .no
  | _ => .no
theorem ap_k_iRng1_1 (xs : (List D)) (S1 : Store) : k_iRng1_1 xs S1 = (match xs with
  | [.int j] => if okR j = true then .ok ((List.range j.toNat).map fun i => .int (i : Nat)) S1 else .no
  | _ => .no) := rfl
theorem ap_iRng1 (a : Sx (List D)) (e : En) (S : Store) : iRng1 a e S = ((a e S).bind (k_iRng1_1)) := rfl
theorem ap_tYesD (_z : En) (S : Store) : tYesD _z S = (.ok true S) := rfl
theorem ap_gN (i : Nat) (d : D) (e : En) : gN i d e = (if notOwn i e then some (e.set i (.val d)) else none) := rfl
theorem ap_gT (gs : List D → En → Option En) (d : D) (e : En) : gT gs d e = (match d with
  | .tup ds => gs ds e
  | _ => none) := rfl
theorem ap_gsNil (ds : List D) (e : En) : gsNil ds e = (match ds with
  | [] => some e
  | _ => none) := rfl
theorem ap_gsCons (g : Tg) (gs : List D → En → Option En) (ds : List D) (e : En) : gsCons g gs ds e = (match ds with
  | d :: ds => (g d e).bind (gs ds)
  | [] => none) := rfl
theorem ap_starI (n : Nat) (f : Cell → List D → Store → R Cell) (c : Cell) (ds : List D) (S : Store) : starI n f c ds S = (if n ≤ ds.length ∧ ds.length ≤ sizeLine then f c (ds.take n ++ [.tup (ds.drop n)]) S else .no) := rfl
theorem ap_cOf (o : List D → Option D) (x : List D) (S : Store) : cOf o x S = (R.of S (o x)) := rfl
theorem ap_oOf (o : D → D → Option D) (x : D) (y : D) (S : Store) : oOf o x y S = (R.of S (o x y)) := rfl
def k_oOwn_1 (neg : Bool) (z : D) (S1 : Store) : R D := R.of S1 (z.b.map fun b => .bl (if neg then !b else b))
theorem ap_k_oOwn_1 (neg : Bool) (z : D) (S1 : Store) : k_oOwn_1 neg z S1 = (R.of S1 (z.b.map fun b => .bl (if neg then !b else b))) := rfl
theorem ap_oOwn (neg : Bool) (c : String) (bi cs : List String) (F : List D → Store → R D) (x : D) (y : D) (S : Store) : oOwn neg c bi cs F x y S = (if x.isO c S = true ∧ y.tyIn bi cs S = true then (F [x, y] S).clean.bind (k_oOwn_1 neg) else .no) := rfl
theorem ap_oOr (o p : D → D → Store → R D) (x : D) (y : D) (S : Store) : oOr o p x y S = ((o x y S).orE (p x y S)) := rfl
def k_eGi_1 (c : String) (F : List D → Store → R D) (x : D) (y : D) (S2 : Store) : R D := if x.isO c S2 = true then F [x, y] S2 else .no
theorem ap_k_eGi_1 (c : String) (F : List D → Store → R D) (x : D) (y : D) (S2 : Store) : k_eGi_1 c F x y S2 = (if x.isO c S2 = true then F [x, y] S2 else .no) := rfl
def k_eGi_2 (c : String) (F : List D → Store → R D) (g : Sx D) (e : En) (x : D) (S1 : Store) : R D := (g e S1).bind (k_eGi_1 c F x)
theorem ap_k_eGi_2 (c : String) (F : List D → Store → R D) (g : Sx D) (e : En) (x : D) (S1 : Store) : k_eGi_2 c F g e x S1 = ((g e S1).bind (k_eGi_1 c F x)) := rfl
theorem ap_eGi (c : String) (F : List D → Store → R D) (f g : Sx D) (e : En) (S : Store) : eGi c F f g e S = ((f e S).bind (k_eGi_2 c F g e)) := rfl
def k_eIsiC_1 (bi : List String) (own : List (String × Bool)) (x : D) (S1 : Store) : R D := R.of S1 ((isiC bi own S1 x).map .bl)
theorem ap_k_eIsiC_1 (bi : List String) (own : List (String × Bool)) (x : D) (S1 : Store) : k_eIsiC_1 bi own x S1 = (R.of S1 ((isiC bi own S1 x).map .bl)) := rfl
theorem ap_eIsiC (bi : List String) (own : List (String × Bool)) (f : Sx D) (e : En) (S : Store) : eIsiC bi own f e S = ((f e S).bind (k_eIsiC_1 bi own)) := rfl
def k_sPar_1 (i : Nat) (j : Nat) (e : En) (xs : (List D)) (S1 : Store) : RS := match xs with
  | [x, y] => if notOwn i e = true ∧ notOwn j (e.set i (.val x)) = true then .nx ((e.set i (.val x)).set j (.val y)) S1 else .no
  | _ => .no
theorem ap_k_sPar_1 (i : Nat) (j : Nat) (e : En) (xs : (List D)) (S1 : Store) : k_sPar_1 i j e xs S1 = (match xs with
  | [x, y] => if notOwn i e = true ∧ notOwn j (e.set i (.val x)) = true then .nx ((e.set i (.val x)).set j (.val y)) S1 else .no
  | _ => .no) := rfl
theorem ap_sPar (i j : Nat) (a : Sx (List D)) (e : En) (S : Store) : sPar i j a e S = ((a e S).run e (k_sPar_1 i j e)) := rfl
theorem ap_kwF (g : List D → List D) (F : List D → Store → R D) (ds : List D) (S : Store) : kwF g F ds S = (match ds with
  | x :: zs => F (x :: g zs) S
  | _ => .no) := rfl
def k_eCf_1 (F : List D → Store → R D) (ds : (List D)) (S2 : Store) : R D := F ds S2
theorem ap_k_eCf_1 (F : List D → Store → R D) (ds : (List D)) (S2 : Store) : k_eCf_1 F ds S2 = (F ds S2) := rfl
def k_eCf_2 (c : String) (F : List D → Store → R D) (a : Sx (List D)) (e : En) (d : D) (S1 : Store) : R D := match d with
  | .cls c' => if c' = c then (a e S1).bind (k_eCf_1 F) else .no
  | _ => .no
theorem ap_k_eCf_2 (c : String) (F : List D → Store → R D) (a : Sx (List D)) (e : En) (d : D) (S1 : Store) : k_eCf_2 c F a e d S1 = (match d with
  | .cls c' => if c' = c then (a e S1).bind (k_eCf_1 F) else .no
  | _ => .no) := rfl
theorem ap_eCf (c : String) (F : List D → Store → R D) (g : Sx D) (a : Sx (List D)) (e : En) (S : Store) : eCf c F g a e S = ((g e S).bind (k_eCf_2 c F a e)) := rfl
def k_oInO_1 (neg : Bool) (z : D) (S1 : Store) : R D := R.of S1 (z.b.map fun b => .bl (if neg then !b else b))
theorem ap_k_oInO_1 (neg : Bool) (z : D) (S1 : Store) : k_oInO_1 neg z S1 = (R.of S1 (z.b.map fun b => .bl (if neg then !b else b))) := rfl
theorem ap_oInO (neg : Bool) (c : String) (F : List D → Store → R D) (x : D) (y : D) (S : Store) : oInO neg c F x y S = (if y.isO c S = true then (F [y, x] S).clean.bind (k_oInO_1 neg) else .no) := rfl
def k_eNewD_1 (kvs : List (Key × D)) (S1 : Store) : R D := .ok (.fk kvs) S1
theorem ap_k_eNewD_1 (kvs : List (Key × D)) (S1 : Store) : k_eNewD_1 kvs S1 = (.ok (.fk kvs) S1) := rfl
theorem ap_eNewD (f : Sx (List (Key × D))) (e : En) (S : Store) : eNewD f e S = ((f e S).bind (k_eNewD_1)) := rfl
def k_eNewDC_1 (kvs : List (Key × D)) (S1 : Store) : R D := pubC (.dk kvs) S1
theorem ap_k_eNewDC_1 (kvs : List (Key × D)) (S1 : Store) : k_eNewDC_1 kvs S1 = (pubC (.dk kvs) S1) := rfl
theorem ap_eNewDC (f : Sx (List (Key × D))) (e : En) (S : Store) : eNewDC f e S = ((f e S).bind (k_eNewDC_1)) := rfl
theorem ap_kNil (e : En) (S : Store) : kNil e S = (.ok [] S) := rfl
theorem ap_kPairs (f : Sx D) (e : En) (S : Store) : kPairs f e S = ((f e S).bind fun x S1 => match x with
  | .lst ds => R.of S1 ((pairsOf ds).map fun ps => dkMer [] ps)
  | _ => .no) := rfl
theorem ap_kCopy (f : Sx D) (e : En) (S : Store) : kCopy f e S = ((f e S).bind fun x S1 => R.of S1 (x.dkv S1)) := rfl
def k_kComp_1 (vs : List Nat) (g : Tg) (t : Sx Bool) (fk : Sx D) (fv : Sx D) (e : En) (ds : (List D)) (S1 : Store) : RK := if ds.length ≤ sizeLine ∧ vs.all (fun v => notOwn v e) = true then (mapK g t fk fv [] ds (clr vs e) S1).clean else .no
theorem ap_k_kComp_1 (vs : List Nat) (g : Tg) (t : Sx Bool) (fk : Sx D) (fv : Sx D) (e : En) (ds : (List D)) (S1 : Store) : k_kComp_1 vs g t fk fv e ds S1 = (if ds.length ≤ sizeLine ∧ vs.all (fun v => notOwn v e) = true then (mapK g t fk fv [] ds (clr vs e) S1).clean else .no) := rfl
theorem ap_kComp (vs : List Nat) (it : Sx (List D)) (g : Tg) (t : Sx Bool) (fk fv : Sx D) (e : En) (S : Store) : kComp vs it g t fk fv e S = ((it e S).bind (k_kComp_1 vs g t fk fv e)) := rfl
theorem ap_eDix (f g : Sx D) (e : En) (S : Store) : eDix f g e S = ((f e S).bind fun x S1 => (g e S1).bind fun y S2 => R.of S2 ((x.dkv S2).bind fun kvs => (y.key).bind fun k => dkV kvs k)) := rfl
def k_eGet2_1 (x : D) (y : D) (z : D) (S3 : Store) : R D := R.of S3 (dGetD S3 x y z)
theorem ap_k_eGet2_1 (x : D) (y : D) (z : D) (S3 : Store) : k_eGet2_1 x y z S3 = (R.of S3 (dGetD S3 x y z)) := rfl
def k_eGet2_2 (h : Sx D) (e : En) (x : D) (y : D) (S2 : Store) : R D := (h e S2).bind (k_eGet2_1 x y)
theorem ap_k_eGet2_2 (h : Sx D) (e : En) (x : D) (y : D) (S2 : Store) : k_eGet2_2 h e x y S2 = ((h e S2).bind (k_eGet2_1 x y)) := rfl
def k_eGet2_3 (g : Sx D) (h : Sx D) (e : En) (x : D) (S1 : Store) : R D := if x.isDk S1 then (g e S1).bind (k_eGet2_2 h e x) else .no
theorem ap_k_eGet2_3 (g : Sx D) (h : Sx D) (e : En) (x : D) (S1 : Store) : k_eGet2_3 g h e x S1 = (if x.isDk S1 then (g e S1).bind (k_eGet2_2 h e x) else .no) := rfl
theorem ap_eGet2 (f g h : Sx D) (e : En) (S : Store) : eGet2 f g h e S = ((f e S).bind (k_eGet2_3 g h e)) := rfl
theorem ap_dGetD (S : Store) (x y z : D) : dGetD S x y z = ((x.dkv S).bind fun kvs => (y.key).map fun k => (dkV kvs k).getD z) := rfl
theorem ap_eDin (ng : Bool) (f g : Sx D) (e : En) (S : Store) : eDin ng f g e S = ((f e S).bind fun y S1 => (g e S1).bind fun x S2 => R.of S2 ((x.dkv S2).bind fun kvs => (y.key).map fun k => .bl (Bool.xor ng (dkV kvs k).isSome))) := rfl
def k_iDk_1 (x : D) (S1 : Store) : R (List D) := R.of S1 ((x.fkv S1).map fun kvs => kvs.map fun p => keyD p.1)
theorem ap_k_iDk_1 (x : D) (S1 : Store) : k_iDk_1 x S1 = (R.of S1 ((x.fkv S1).map fun kvs => kvs.map fun p => keyD p.1)) := rfl
theorem ap_iDk (f : Sx D) (e : En) (S : Store) : iDk f e S = ((f e S).bind (k_iDk_1)) := rfl
def k_iDit_1 (x : D) (S1 : Store) : R (List D) := R.of S1 ((x.fkv S1).map fun kvs => kvs.map fun p => .tup [keyD p.1, p.2])
theorem ap_k_iDit_1 (x : D) (S1 : Store) : k_iDit_1 x S1 = (R.of S1 ((x.fkv S1).map fun kvs => kvs.map fun p => .tup [keyD p.1, p.2])) := rfl
theorem ap_iDit (f : Sx D) (e : En) (S : Store) : iDit f e S = ((f e S).bind (k_iDit_1)) := rfl
theorem ap_eLenD (f : Sx D) (e : En) (S : Store) : eLenD f e S = ((f e S).bind fun x S1 => R.of S1 ((x.dkv S1).map fun kvs => .int kvs.length)) := rfl
theorem ap_lKeys (f : Sx D) (e : En) (S : Store) : lKeys f e S = ((f e S).bind fun x S1 => R.of S1 ((x.dkv S1).bind fun kvs => if kvs.length ≤ sizeLine then some (kvs.map fun p => keyD p.1) else none)) := rfl
def k_sOwnD_1 (i : Nat) (e : En) (kvs : List (Key × D)) (S1 : Store) : RS := if i < e.length ∧ notOwn i e = true then .nx (e.set i (.own (.dk kvs))) S1 else .no
theorem ap_k_sOwnD_1 (i : Nat) (e : En) (kvs : List (Key × D)) (S1 : Store) : k_sOwnD_1 i e kvs S1 = (if i < e.length ∧ notOwn i e = true then .nx (e.set i (.own (.dk kvs))) S1 else .no) := rfl
theorem ap_sOwnD (i : Nat) (f : Sx (List (Key × D))) (e : En) (S : Store) : sOwnD i f e S = ((f e S).run e (k_sOwnD_1 i e)) := rfl
theorem ap_sFrzD (i : Nat) (p : Sy) (e : En) (S : Store) : sFrzD i p e S = (match (e[i]? : Option Sl) with
  | some (Sl.own (.dk kvs)) => p (e.set i (.val (.fk kvs))) S
  | _ => p e S) := rfl
def k_sDsO_1 (i : Nat) (e : En) (kvs : List (Key × D)) (d : D) (y : D) (S2 : Store) : RS := setDk i kvs y d e S2
theorem ap_k_sDsO_1 (i : Nat) (e : En) (kvs : List (Key × D)) (d : D) (y : D) (S2 : Store) : k_sDsO_1 i e kvs d y S2 = (setDk i kvs y d e S2) := rfl
def k_sDsO_2 (i : Nat) (k : Sx D) (e : En) (kvs : List (Key × D)) (d : D) (S1 : Store) : RS := (k e S1).run e (k_sDsO_1 i e kvs d)
theorem ap_k_sDsO_2 (i : Nat) (k : Sx D) (e : En) (kvs : List (Key × D)) (d : D) (S1 : Store) : k_sDsO_2 i k e kvs d S1 = ((k e S1).run e (k_sDsO_1 i e kvs d)) := rfl
theorem ap_sDsO (i : Nat) (k f : Sx D) (e : En) (S : Store) : sDsO i k f e S = (match (e[i]? : Option Sl) with
  | some (Sl.own (.dk kvs)) => (f e S).run e (k_sDsO_2 i k e kvs)
  | _ => .no) := rfl
theorem ap_setDk (i : Nat) (kvs : List (Key × D)) (y d : D) (e : En) (S : Store) : setDk i kvs y d e S = (match y.key with
  | some kk => if kvs.length < sizeLine then .nx (e.set i (.own (.dk (dkSt kvs kk d)))) S else .no
  | none => .no) := rfl
def k_sDsC_1 (e : En) (d : D) (o : D) (y : D) (S3 : Store) : RS := match o with
  | .ref n => putDk n y d e S3
  | _ => .no
theorem ap_k_sDsC_1 (e : En) (d : D) (o : D) (y : D) (S3 : Store) : k_sDsC_1 e d o y S3 = (match o with
  | .ref n => putDk n y d e S3
  | _ => .no) := rfl
def k_sDsC_2 (k : Sx D) (e : En) (d : D) (o : D) (S2 : Store) : RS := (k e S2).run e (k_sDsC_1 e d o)
theorem ap_k_sDsC_2 (k : Sx D) (e : En) (d : D) (o : D) (S2 : Store) : k_sDsC_2 k e d o S2 = ((k e S2).run e (k_sDsC_1 e d o)) := rfl
def k_sDsC_3 (g : Sx D) (k : Sx D) (e : En) (d : D) (S1 : Store) : RS := (g e S1).run e (k_sDsC_2 k e d)
theorem ap_k_sDsC_3 (g : Sx D) (k : Sx D) (e : En) (d : D) (S1 : Store) : k_sDsC_3 g k e d S1 = ((g e S1).run e (k_sDsC_2 k e d)) := rfl
theorem ap_sDsC (g k f : Sx D) (e : En) (S : Store) : sDsC g k f e S = ((f e S).run e (k_sDsC_3 g k e)) := rfl
theorem ap_putDk (n : Nat) (y d : D) (e : En) (S : Store) : putDk n y d e S = (match S[n]?, y.key with
  | some (.dk kvs), some kk => if kvs.length < sizeLine then .nx e (S.set n (.dk (dkSt kvs kk d))) else .no
  | _, _ => .no) := rfl
def k_kDisp_1 (ps : List (Key × D)) (S1 : Store) : RK := if ps.length ≤ 15 then .ok (dkMer [] ps) S1 else .no
theorem ap_k_kDisp_1 (ps : List (Key × D)) (S1 : Store) : k_kDisp_1 ps S1 = (if ps.length ≤ 15 then .ok (dkMer [] ps) S1 else .no) := rfl
theorem ap_kDisp (l : List (Sx D × Sx D)) (e : En) (S : Store) : kDisp l e S = ((pairsD l e S).clean.bind (k_kDisp_1)) := rfl
theorem ap_oEqD (neg : Bool) (x y : D) (S : Store) : oEqD neg x y S = (R.of S ((x.dkv S).bind fun ks => (y.dkv S).bind fun ls => (dkEq ks ls).map fun b => .bl (if neg then !b else b))) := rfl
theorem ap_kwdI (f : Cell → List D → Store → R Cell) (c : Cell) (ds : List D) (S : Store) : kwdI f c ds S = (f c (ds ++ [.fk []]) S) := rfl
theorem ap_lRev (f : Sx D) (e : En) (S : Store) : lRev f e S = ((f e S).bind fun x S1 => match x with
  | .lst xs => .ok xs.reverse S1
  | _ => .no) := rfl
theorem ap_kStarD (f : Sx D) (l : List (Sx D × Sx D)) (e : En) (S : Store) : kStarD f l e S = ((f e S).clean.bind fun x S1 => kStar2 l e (x.dkv S1) S1) := rfl
theorem ap_kwdKI (ks : List Str) (f : Cell → List D → Store → R Cell) (c : Cell) (ds : List D) (S : Store) : kwdKI ks f c ds S = (f c [.tup [], .fk ((ks.map fun z => (.inr z : Key)).zip ds)] S) := rfl
def k_iOwD_1 (c : String) (fd : Str) (x : D) (S1 : Store) : R (List D) := match x with
  | .obj c' fs => if c' = c then (match fs.lookup fd with
    | some (.fk kvs) => .ok (kvs.map fun p => keyD p.1) S1
    | _ => .no) else .no
  | _ => .no
theorem ap_k_iOwD_1 (c : String) (fd : Str) (x : D) (S1 : Store) : k_iOwD_1 c fd x S1 = (match x with
  | .obj c' fs => if c' = c then (match fs.lookup fd with
    | some (.fk kvs) => .ok (kvs.map fun p => keyD p.1) S1
    | _ => .no) else .no
  | _ => .no) := rfl
theorem ap_iOwD (c : String) (fd : Str) (f : Sx D) (e : En) (S : Store) : iOwD c fd f e S = ((f e S).bind (k_iOwD_1 c fd)) := rfl
def k_eCv_1 (c : String) (i : Int) (x : D) (S1 : Store) : R D := match x with
  | .cls c' => if c' = c then .ok (.int i) S1 else .no
  | _ => .no
theorem ap_k_eCv_1 (c : String) (i : Int) (x : D) (S1 : Store) : k_eCv_1 c i x S1 = (match x with
  | .cls c' => if c' = c then .ok (.int i) S1 else .no
  | _ => .no) := rfl
theorem ap_eCv (c : String) (i : Int) (f : Sx D) (e : En) (S : Store) : eCv c i f e S = ((f e S).bind (k_eCv_1 c i)) := rfl
def k_eCi_1 (c : String) (g : Str) (i : Int) (x : D) (S1 : Store) : R D := match x with
  | .obj c' fs => if c' = c ∧ fs.lookup g = none then .ok (.int i) S1 else .no
  | _ => .no
theorem ap_k_eCi_1 (c : String) (g : Str) (i : Int) (x : D) (S1 : Store) : k_eCi_1 c g i x S1 = (match x with
  | .obj c' fs => if c' = c ∧ fs.lookup g = none then .ok (.int i) S1 else .no
  | _ => .no) := rfl
theorem ap_eCi (c : String) (g : Str) (i : Int) (f : Sx D) (e : En) (S : Store) : eCi c g i f e S = ((f e S).bind (k_eCi_1 c g i)) := rfl
theorem ap_sPar2VL (i j : Nat) (h : Sx D) (g : Sx (List D)) (e : En) (S : Store) : sPar2VL i j h g e S = ((h e S).run e fun d1 S1 => (g e S1).run e fun ds S2 => putVL i j d1 ds e S2) := rfl
theorem ap_putVL (i j : Nat) (d1 : D) (ds : List D) (e : En) (S : Store) : putVL i j d1 ds e S = (if notOwn i e = true ∧ j < (e.set i (.val d1)).length ∧ notOwn j (e.set i (.val d1)) = true then .nx ((e.set i (.val d1)).set j (.own (.lst ds))) S else .no) := rfl
end Sh
local macro_rules | `(tactic| simp_all_arith) => `(tactic| simp -implicitDefEqProofs (disch := first | (simp only [Sh.isDat_non, Sh.isDat_bl, Sh.isDat_int, Sh.isDat_str, Sh.isDat_t9, Sh.isDat_l9, Sh.isDat_t8, Sh.isDat_l8, Sh.isDat_t7, Sh.isDat_l7, Sh.isDat_t6, Sh.isDat_l6, List.all_cons, List.all_nil, Bool.and_self, Bool.and_true]; done) | omega | (simp only [List.length_append, List.length_cons, List.length_nil, List.length_map, List.length_replicate, List.length_drop, List.length_take]; omega)) only [Sh.ap_runD, Sh.ap_runI, Sh.runL, Sh.ap_sSeq, Sh.ap_sNil, Sh.ap_sSet, Sh.ap_sAsg, Sh.ap_sDrop, Sh.ap_sRet, Sh.ap_sIf, Sh.ap_sFor, Sh.ap_sFrz, Sh.ap_freeze, Sh.ap_sApp, Sh.ap_sRs, Sh.ap_sFdO, Sh.ap_sIxC, Sh.ap_eVar, Sh.ap_eC, Sh.ap_eBin, Sh.ap_tVal, Sh.ap_tNt, Sh.ap_tAd, Sh.ap_tOo, Sh.ap_eNt, Sh.ap_eAd, Sh.ap_eIf, Sh.ap_eChain, Sh.ap_aNil, Sh.ap_aCons, Sh.ap_eTup, Sh.ap_eLst, Sh.ap_eCall, Sh.ap_eIx, Sh.ap_eDf, Sh.ap_eFd, Sh.ap_eMe, Sh.ap_eCm, Sh.ap_ePr, Sh.ap_eMk, Sh.ap_eLstC, Sh.ap_pubC, Sh.ap_eIsi, Sh.ap_eFmt, Sh.ap_eSl, Sh.ap_pNo, Sh.ap_pSo, Sh.ap_eM1, Sh.ap_eBinE, Sh.ap_eCallE, Sh.ap_eNew, Sh.ap_lDisp, Sh.ap_lComp, Sh.clr, Sh.ap_iSq, Sh.ap_iRng1, Sh.ap_tYesD, Sh.ap_gN, Sh.ap_gT, Sh.ap_gsNil, Sh.ap_gsCons, Sh.notOwn_free, Sh.free_no, Sh.free_val, Sh.free_own, Sh.ap_starI, Sh.ap_cOf, Sh.ap_oOf, ↓Sh.seq_nx, ↓Sh.seq_rt, ↓Sh.seq_bk, ↓Sh.seq_ct, ↓Sh.seq_er, ↓Sh.seq_no, ↓Sh.run_ok, ↓Sh.run_er, ↓Sh.run_no, ↓Sh.ok_bind, ↓Sh.er_bind, ↓Sh.no_bind, Sh.of_some, Sh.of_none, Sh.res_nx, Sh.res_rt, Sh.res_er, Sh.res_no, Sh.resI_nx, Sh.resI_er, Sh.resI_no, Sh.orE_no, Sh.orE_ok, Sh.orE_er, Sh.clean_ok, Sh.clean_er, Sh.clean_no, Sh.clean_of, Option.map_some, Option.map_none, ↓Option.bind_some, ↓Option.bind_none, List.getElem?_cons_zero, List.getElem?_cons_succ, List.set_cons_zero, List.set_cons_succ, List.length_cons, List.length_nil, List.map_cons, List.map_nil, List.cons_append, List.nil_append, List.append_nil, List.replicate_succ, List.replicate_zero, List.all_cons, List.all_nil, Nat.zero_add, Nat.reduceAdd, Nat.reduceLeDiff, Nat.reduceLT, Nat.reduceEqDiff, if_true, if_false, ite_true, ite_false, reduceIte, Bool.and_true, Bool.true_and, and_true, true_and, and_self, decide_true, decide_false, Bool.not_true, Bool.not_false, Bool.false_eq_true, reduceCtorEq, cond_true, cond_false, List.lookup_nil, List.lookup_cons, Sh.ofStr_beq, Sh.ofStr_eq, String.reduceBEq, String.reduceEq, beq_self_eq_true, List.mem_cons, List.not_mem_nil, or_false, false_or, or_true, true_or, or_self, Sh.dMul_L, Sh.dMul_R, Sh.dAdd_I, Sh.dSub_I, Sh.dMod_I, Sh.dFdiv_I, Sh.dPow_I, Sh.dLt_I, Sh.dLe_I, Sh.dGt_I, Sh.dGe_I, Sh.dInt_I, Sh.dInt_B, Sh.dAbs_I, Sh.dLen_L, Sh.ix_L, Sh.at0, Sh.at1, Sh.at2, Sh.ixN0, Sh.ixN1, Sh.ixN2, Sh.ap_oOwn, Sh.ap_oOr, Sh.sWhile, Sh.putD, Nat.zero_le, List.take_zero, List.drop_zero, List.contains_cons, List.contains_nil, Bool.or_false, Bool.false_or, Bool.or_true, Bool.true_or, Bool.and_false, Bool.false_and, List.length_map, Int.toNat_natCast, Int.natCast_nonneg, Sh.forD_nil, Sh.mapA_nil, ↓Sh.turn_nx, ↓Sh.turn_ct, ↓Sh.turn_bk, ↓Sh.turn_rt, ↓Sh.turn_er, ↓Sh.turn_no, List.length_replicate, List.length_append, List.length_range, Option.isNone_some, Option.isNone_none, Option.isNone, Bool.not_eq_true, eq_self, id_eq, Int.cast_ofNat_Int, Int.reduceBEq, Int.reduceLT, Int.reduceLE, Int.reduceToNat, Int.reduceAdd, Int.reduceSub, Int.reduceNeg, Int.reduceMul, Sh.D.bs, Sh.ap_eGi, Sh.ap_eIsiC, Sh.ap_sPar, Sh.ap_kwF, Sh.ap_eCf, Sh.ap_oInO, Sh.ap_eNewD, Sh.ap_eNewDC, Sh.ap_kNil, Sh.ap_kPairs, Sh.ap_kCopy, Sh.ap_kComp, Sh.ap_eDix, Sh.ap_eGet2, Sh.ap_dGetD, Sh.ap_eDin, Sh.ap_iDk, Sh.ap_iDit, Sh.ap_eLenD, Sh.ap_lKeys, Sh.ap_sOwnD, Sh.ap_sFrzD, Sh.ap_sDsO, Sh.ap_setDk, Sh.ap_sDsC, Sh.ap_putDk, Sh.ap_kDisp, Sh.ap_oEqD, Sh.ap_kwdI, Sh.dNilEq, Sh.ap_lRev, Sh.ap_kStarD, Sh.kStar2_some, Sh.stPut_one, Sh.ap_kwdKI, Sh.ap_iOwD, Sh.ap_eCv, Sh.ap_eCi, Sh.ap_sPar2VL, Sh.ap_putVL, Sh.unlk_nx, Sh.unlk_bk, Sh.unlk_ct, Sh.unlk_rt, Sh.dStr_S, Sh.dStr_N, Sh.fmt_N, Sh.eJs_nil, Sh.eJs_cons, Sh.kJs_s, Sh.szl, Sh.szt, Sh.b_bl, Sh.dEq_q, Sh.dNe_q, Sh.isDat_non, Sh.isDat_bl, Sh.isDat_int, Sh.isDat_str, Sh.isDat_t9, Sh.isDat_l9, Sh.isDat_t8, Sh.isDat_l8, Sh.isDat_t7, Sh.isDat_l7, Sh.isDat_t6, Sh.isDat_l6, Sh.qe_ii, Sh.qe_ss, Sh.qe_bb, Sh.qe_bi, Sh.qe_ib, Sh.qe_nn, Sh.qe_ns, Sh.qe_sn, Sh.qe_ni, Sh.qe_in, Sh.qe_is, Sh.qe_si, Sh.qe_bn, Sh.qe_nb, Sh.qe_bs, Sh.qe_sb, Sh.qe_tt, Sh.qe_ll, Sh.qe_lt, Sh.qe_tl, Sh.qe_tn, Sh.qe_nt, Sh.qe_ts, Sh.qe_st, Sh.qes_nil, Sh.qes_cons, Sh.qes_nc, Sh.qes_cn, Sh.at_z, Sh.at_1, Sh.at_2, Sh.at_3, Sh.at_4, Sh.ix_T, Sh.dLen_S, Sh.dLen_T, Sh.sl_L, Sh.sl_T, Sh.sl_S, Sh.cut_to, Sh.cut_from, Sh.dList_L, Sh.dList_T, Sh.dTuple_L, Sh.dTuple_T, Sh.okRt, Sh.okLent, Sh.bs_bls, Sh.dAll_b, Sh.isi_non, Sh.isi_bl, Sh.isi_int, Sh.isi_str, Sh.isi_tup, Sh.isi_lst, Sh.isi_scr, Sh.isi_dk, Sh.isi_dt, Sh.isi_obj, Sh.items_lst, Sh.items_tup, Sh.items_str, Sh.fmt_str, Sh.tree_lst, Sh.tree_ins, Sh.tree_dk, Sh.tree_fk, Sh.tree_dt, Sh.seq_lst, Sh.seq_tup, Sh.fld_obj, Sh.isC_obj, Sh.isO_obj, Sh.tyIn_obj, Sh.dAdd_ll, Sh.dAdd_tt, Sh.dAdd_ss, Sh.dMul_r1, Sh.strs_map, Sh.isiC_non, Sh.isiC_bl, Sh.isiC_int, Sh.isiC_str, Sh.isiC_tup, Sh.isiC_lst, Sh.isiC_obj, Sh.dEq_sk, Sh.dEq_so, Sh.dkv_fk, Sh.fkv_fk, Sh.dkv_dk, Sh.isDk_fk, Sh.isDk_dk, Sh.key_str, Sh.key_int, Sh.keyD_s, Sh.keyD_i, Sh.isi_fk, Sh.tyIn_fk, Sh.mapK_nil, Sh.prm_nil, Sh.prm_0, Sh.prm_1, Sh.prm_2, Sh.cBoolD_eq, Sh.cBool_eq, Sh.pairsD_nil, Sh.pairsD_cons, Sh.zip_nn, Sh.zip_cc, Sh.ap_k_sSet_1, Sh.ap_k_sAsg_1, Sh.ap_k_sDrop_1, Sh.ap_k_sRet_1, Sh.ap_k_sIf_1, Sh.ap_k_sFor_1, Sh.ap_k_sApp_1, Sh.ap_k_sRs_1, Sh.ap_k_sFdO_1, Sh.ap_k_sIxC_1, Sh.ap_k_sIxC_2, Sh.ap_k_sIxC_3, Sh.ap_k_eBin_1, Sh.ap_k_eBin_2, Sh.ap_k_tVal_1, Sh.ap_k_tNt_1, Sh.ap_k_tAd_1, Sh.ap_k_tOo_1, Sh.ap_k_eNt_1, Sh.ap_k_eAd_1, Sh.ap_k_eIf_1, Sh.ap_k_eChain_1, Sh.ap_k_eChain_2, Sh.ap_k_eChain_3, Sh.ap_k_eChain_4, Sh.ap_k_aCons_1, Sh.ap_k_aCons_2, Sh.ap_k_eTup_1, Sh.ap_k_eLst_1, Sh.ap_k_eCall_1, Sh.ap_k_eIx_1, Sh.ap_k_eIx_2, Sh.ap_k_eDf_1, Sh.ap_k_eFd_1, Sh.ap_k_eMe_1, Sh.ap_k_eMe_2, Sh.ap_k_eCm_1, Sh.ap_k_eCm_2, Sh.ap_k_ePr_1, Sh.ap_k_eMk_1, Sh.ap_k_eMk_2, Sh.ap_k_eMk_3, Sh.ap_k_eLstC_1, Sh.ap_k_eIsi_1, Sh.ap_k_eFmt_1, Sh.ap_k_eSl_1, Sh.ap_k_eSl_2, Sh.ap_k_eSl_3, Sh.ap_k_pSo_1, Sh.ap_k_eM1_1, Sh.ap_k_eM1_2, Sh.ap_k_eBinE_1, Sh.ap_k_eBinE_2, Sh.ap_k_eCallE_1, Sh.ap_k_eNew_1, Sh.ap_k_lDisp_1, Sh.ap_k_lComp_1, Sh.ap_k_iSq_1, Sh.ap_k_iRng1_1, Sh.ap_k_oOwn_1, Sh.ap_k_eGi_1, Sh.ap_k_eGi_2, Sh.ap_k_eIsiC_1, Sh.ap_k_sPar_1, Sh.ap_k_eCf_1, Sh.ap_k_eCf_2, Sh.ap_k_oInO_1, Sh.ap_k_eNewD_1, Sh.ap_k_eNewDC_1, Sh.ap_k_kComp_1, Sh.ap_k_eGet2_1, Sh.ap_k_eGet2_2, Sh.ap_k_eGet2_3, Sh.ap_k_iDk_1, Sh.ap_k_iDit_1, Sh.ap_k_sOwnD_1, Sh.ap_k_sDsO_1, Sh.ap_k_sDsO_2, Sh.ap_k_sDsC_1, Sh.ap_k_sDsC_2, Sh.ap_k_sDsC_3, Sh.ap_k_kDisp_1, Sh.ap_k_iOwD_1, Sh.ap_k_eCv_1, Sh.ap_k_eCi_1])
local macro_rules | `(tactic| simp_all_arith [$ts,*]) => `(tactic| simp -implicitDefEqProofs (disch := first | (simp only [Sh.isDat_non, Sh.isDat_bl, Sh.isDat_int, Sh.isDat_str, Sh.isDat_t9, Sh.isDat_l9, Sh.isDat_t8, Sh.isDat_l8, Sh.isDat_t7, Sh.isDat_l7, Sh.isDat_t6, Sh.isDat_l6, List.all_cons, List.all_nil, Bool.and_self, Bool.and_true]; done) | omega | (simp only [List.length_append, List.length_cons, List.length_nil, List.length_map, List.length_replicate, List.length_drop, List.length_take]; omega)) only [Sh.ap_runD, Sh.ap_runI, Sh.runL, Sh.ap_sSeq, Sh.ap_sNil, Sh.ap_sSet, Sh.ap_sAsg, Sh.ap_sDrop, Sh.ap_sRet, Sh.ap_sIf, Sh.ap_sFor, Sh.ap_sFrz, Sh.ap_freeze, Sh.ap_sApp, Sh.ap_sRs, Sh.ap_sFdO, Sh.ap_sIxC, Sh.ap_eVar, Sh.ap_eC, Sh.ap_eBin, Sh.ap_tVal, Sh.ap_tNt, Sh.ap_tAd, Sh.ap_tOo, Sh.ap_eNt, Sh.ap_eAd, Sh.ap_eIf, Sh.ap_eChain, Sh.ap_aNil, Sh.ap_aCons, Sh.ap_eTup, Sh.ap_eLst, Sh.ap_eCall, Sh.ap_eIx, Sh.ap_eDf, Sh.ap_eFd, Sh.ap_eMe, Sh.ap_eCm, Sh.ap_ePr, Sh.ap_eMk, Sh.ap_eLstC, Sh.ap_pubC, Sh.ap_eIsi, Sh.ap_eFmt, Sh.ap_eSl, Sh.ap_pNo, Sh.ap_pSo, Sh.ap_eM1, Sh.ap_eBinE, Sh.ap_eCallE, Sh.ap_eNew, Sh.ap_lDisp, Sh.ap_lComp, Sh.clr, Sh.ap_iSq, Sh.ap_iRng1, Sh.ap_tYesD, Sh.ap_gN, Sh.ap_gT, Sh.ap_gsNil, Sh.ap_gsCons, Sh.notOwn_free, Sh.free_no, Sh.free_val, Sh.free_own, Sh.ap_starI, Sh.ap_cOf, Sh.ap_oOf, ↓Sh.seq_nx, ↓Sh.seq_rt, ↓Sh.seq_bk, ↓Sh.seq_ct, ↓Sh.seq_er, ↓Sh.seq_no, ↓Sh.run_ok, ↓Sh.run_er, ↓Sh.run_no, ↓Sh.ok_bind, ↓Sh.er_bind, ↓Sh.no_bind, Sh.of_some, Sh.of_none, Sh.res_nx, Sh.res_rt, Sh.res_er, Sh.res_no, Sh.resI_nx, Sh.resI_er, Sh.resI_no, Sh.orE_no, Sh.orE_ok, Sh.orE_er, Sh.clean_ok, Sh.clean_er, Sh.clean_no, Sh.clean_of, Option.map_some, Option.map_none, ↓Option.bind_some, ↓Option.bind_none, List.getElem?_cons_zero, List.getElem?_cons_succ, List.set_cons_zero, List.set_cons_succ, List.length_cons, List.length_nil, List.map_cons, List.map_nil, List.cons_append, List.nil_append, List.append_nil, List.replicate_succ, List.replicate_zero, List.all_cons, List.all_nil, Nat.zero_add, Nat.reduceAdd, Nat.reduceLeDiff, Nat.reduceLT, Nat.reduceEqDiff, if_true, if_false, ite_true, ite_false, reduceIte, Bool.and_true, Bool.true_and, and_true, true_and, and_self, decide_true, decide_false, Bool.not_true, Bool.not_false, Bool.false_eq_true, reduceCtorEq, cond_true, cond_false, List.lookup_nil, List.lookup_cons, Sh.ofStr_beq, Sh.ofStr_eq, String.reduceBEq, String.reduceEq, beq_self_eq_true, List.mem_cons, List.not_mem_nil, or_false, false_or, or_true, true_or, or_self, Sh.dMul_L, Sh.dMul_R, Sh.dAdd_I, Sh.dSub_I, Sh.dMod_I, Sh.dFdiv_I, Sh.dPow_I, Sh.dLt_I, Sh.dLe_I, Sh.dGt_I, Sh.dGe_I, Sh.dInt_I, Sh.dInt_B, Sh.dAbs_I, Sh.dLen_L, Sh.ix_L, Sh.at0, Sh.at1, Sh.at2, Sh.ixN0, Sh.ixN1, Sh.ixN2, Sh.ap_oOwn, Sh.ap_oOr, Sh.sWhile, Sh.putD, Nat.zero_le, List.take_zero, List.drop_zero, List.contains_cons, List.contains_nil, Bool.or_false, Bool.false_or, Bool.or_true, Bool.true_or, Bool.and_false, Bool.false_and, List.length_map, Int.toNat_natCast, Int.natCast_nonneg, Sh.forD_nil, Sh.mapA_nil, ↓Sh.turn_nx, ↓Sh.turn_ct, ↓Sh.turn_bk, ↓Sh.turn_rt, ↓Sh.turn_er, ↓Sh.turn_no, List.length_replicate, List.length_append, List.length_range, Option.isNone_some, Option.isNone_none, Option.isNone, Bool.not_eq_true, eq_self, id_eq, Int.cast_ofNat_Int, Int.reduceBEq, Int.reduceLT, Int.reduceLE, Int.reduceToNat, Int.reduceAdd, Int.reduceSub, Int.reduceNeg, Int.reduceMul, Sh.D.bs, Sh.ap_eGi, Sh.ap_eIsiC, Sh.ap_sPar, Sh.ap_kwF, Sh.ap_eCf, Sh.ap_oInO, Sh.ap_eNewD, Sh.ap_eNewDC, Sh.ap_kNil, Sh.ap_kPairs, Sh.ap_kCopy, Sh.ap_kComp, Sh.ap_eDix, Sh.ap_eGet2, Sh.ap_dGetD, Sh.ap_eDin, Sh.ap_iDk, Sh.ap_iDit, Sh.ap_eLenD, Sh.ap_lKeys, Sh.ap_sOwnD, Sh.ap_sFrzD, Sh.ap_sDsO, Sh.ap_setDk, Sh.ap_sDsC, Sh.ap_putDk, Sh.ap_kDisp, Sh.ap_oEqD, Sh.ap_kwdI, Sh.dNilEq, Sh.ap_lRev, Sh.ap_kStarD, Sh.kStar2_some, Sh.stPut_one, Sh.ap_kwdKI, Sh.ap_iOwD, Sh.ap_eCv, Sh.ap_eCi, Sh.ap_sPar2VL, Sh.ap_putVL, Sh.unlk_nx, Sh.unlk_bk, Sh.unlk_ct, Sh.unlk_rt, Sh.dStr_S, Sh.dStr_N, Sh.fmt_N, Sh.eJs_nil, Sh.eJs_cons, Sh.kJs_s, Sh.szl, Sh.szt, Sh.b_bl, Sh.dEq_q, Sh.dNe_q, Sh.isDat_non, Sh.isDat_bl, Sh.isDat_int, Sh.isDat_str, Sh.isDat_t9, Sh.isDat_l9, Sh.isDat_t8, Sh.isDat_l8, Sh.isDat_t7, Sh.isDat_l7, Sh.isDat_t6, Sh.isDat_l6, Sh.qe_ii, Sh.qe_ss, Sh.qe_bb, Sh.qe_bi, Sh.qe_ib, Sh.qe_nn, Sh.qe_ns, Sh.qe_sn, Sh.qe_ni, Sh.qe_in, Sh.qe_is, Sh.qe_si, Sh.qe_bn, Sh.qe_nb, Sh.qe_bs, Sh.qe_sb, Sh.qe_tt, Sh.qe_ll, Sh.qe_lt, Sh.qe_tl, Sh.qe_tn, Sh.qe_nt, Sh.qe_ts, Sh.qe_st, Sh.qes_nil, Sh.qes_cons, Sh.qes_nc, Sh.qes_cn, Sh.at_z, Sh.at_1, Sh.at_2, Sh.at_3, Sh.at_4, Sh.ix_T, Sh.dLen_S, Sh.dLen_T, Sh.sl_L, Sh.sl_T, Sh.sl_S, Sh.cut_to, Sh.cut_from, Sh.dList_L, Sh.dList_T, Sh.dTuple_L, Sh.dTuple_T, Sh.okRt, Sh.okLent, Sh.bs_bls, Sh.dAll_b, Sh.isi_non, Sh.isi_bl, Sh.isi_int, Sh.isi_str, Sh.isi_tup, Sh.isi_lst, Sh.isi_scr, Sh.isi_dk, Sh.isi_dt, Sh.isi_obj, Sh.items_lst, Sh.items_tup, Sh.items_str, Sh.fmt_str, Sh.tree_lst, Sh.tree_ins, Sh.tree_dk, Sh.tree_fk, Sh.tree_dt, Sh.seq_lst, Sh.seq_tup, Sh.fld_obj, Sh.isC_obj, Sh.isO_obj, Sh.tyIn_obj, Sh.dAdd_ll, Sh.dAdd_tt, Sh.dAdd_ss, Sh.dMul_r1, Sh.strs_map, Sh.isiC_non, Sh.isiC_bl, Sh.isiC_int, Sh.isiC_str, Sh.isiC_tup, Sh.isiC_lst, Sh.isiC_obj, Sh.dEq_sk, Sh.dEq_so, Sh.dkv_fk, Sh.fkv_fk, Sh.dkv_dk, Sh.isDk_fk, Sh.isDk_dk, Sh.key_str, Sh.key_int, Sh.keyD_s, Sh.keyD_i, Sh.isi_fk, Sh.tyIn_fk, Sh.mapK_nil, Sh.prm_nil, Sh.prm_0, Sh.prm_1, Sh.prm_2, Sh.cBoolD_eq, Sh.cBool_eq, Sh.pairsD_nil, Sh.pairsD_cons, Sh.zip_nn, Sh.zip_cc, Sh.ap_k_sSet_1, Sh.ap_k_sAsg_1, Sh.ap_k_sDrop_1, Sh.ap_k_sRet_1, Sh.ap_k_sIf_1, Sh.ap_k_sFor_1, Sh.ap_k_sApp_1, Sh.ap_k_sRs_1, Sh.ap_k_sFdO_1, Sh.ap_k_sIxC_1, Sh.ap_k_sIxC_2, Sh.ap_k_sIxC_3, Sh.ap_k_eBin_1, Sh.ap_k_eBin_2, Sh.ap_k_tVal_1, Sh.ap_k_tNt_1, Sh.ap_k_tAd_1, Sh.ap_k_tOo_1, Sh.ap_k_eNt_1, Sh.ap_k_eAd_1, Sh.ap_k_eIf_1, Sh.ap_k_eChain_1, Sh.ap_k_eChain_2, Sh.ap_k_eChain_3, Sh.ap_k_eChain_4, Sh.ap_k_aCons_1, Sh.ap_k_aCons_2, Sh.ap_k_eTup_1, Sh.ap_k_eLst_1, Sh.ap_k_eCall_1, Sh.ap_k_eIx_1, Sh.ap_k_eIx_2, Sh.ap_k_eDf_1, Sh.ap_k_eFd_1, Sh.ap_k_eMe_1, Sh.ap_k_eMe_2, Sh.ap_k_eCm_1, Sh.ap_k_eCm_2, Sh.ap_k_ePr_1, Sh.ap_k_eMk_1, Sh.ap_k_eMk_2, Sh.ap_k_eMk_3, Sh.ap_k_eLstC_1, Sh.ap_k_eIsi_1, Sh.ap_k_eFmt_1, Sh.ap_k_eSl_1, Sh.ap_k_eSl_2, Sh.ap_k_eSl_3, Sh.ap_k_pSo_1, Sh.ap_k_eM1_1, Sh.ap_k_eM1_2, Sh.ap_k_eBinE_1, Sh.ap_k_eBinE_2, Sh.ap_k_eCallE_1, Sh.ap_k_eNew_1, Sh.ap_k_lDisp_1, Sh.ap_k_lComp_1, Sh.ap_k_iSq_1, Sh.ap_k_iRng1_1, Sh.ap_k_oOwn_1, Sh.ap_k_eGi_1, Sh.ap_k_eGi_2, Sh.ap_k_eIsiC_1, Sh.ap_k_sPar_1, Sh.ap_k_eCf_1, Sh.ap_k_eCf_2, Sh.ap_k_oInO_1, Sh.ap_k_eNewD_1, Sh.ap_k_eNewDC_1, Sh.ap_k_kComp_1, Sh.ap_k_eGet2_1, Sh.ap_k_eGet2_2, Sh.ap_k_eGet2_3, Sh.ap_k_iDk_1, Sh.ap_k_iDit_1, Sh.ap_k_sOwnD_1, Sh.ap_k_sDsO_1, Sh.ap_k_sDsO_2, Sh.ap_k_sDsC_1, Sh.ap_k_sDsC_2, Sh.ap_k_sDsC_3, Sh.ap_k_kDisp_1, Sh.ap_k_iOwD_1, Sh.ap_k_eCv_1, Sh.ap_k_eCi_1, $ts,*])
namespace Nk
open PySem PySem.Spec PyProof.Rows L2
abbrev FnP (K : PySem.W.Frag) (x : Str) (st : Stmt) (f : Addr) : Prop := ∃ fd, FunD K x x (defArgs st) (defBody st) (defScope st) [] [] f fd
instance : Sh.TabSet := ⟨fun K => [((He.cT K ("law", none)).2, ("law.<locals>.<lambda>" : Str))]⟩
structure TBs (K : PySem.W.Frag) (base : Heap) (mg : Str → Option Value) : Prop where
  tb_law : LamX.TabB base mg (He.codeOf K ("law", none)) (He.cT K ("law", none)).2
theorem tu_law {K : PySem.W.Frag} (h : (true) = true) : ∀ p ∈ Sh.TabSet.TS K, p.1 = (He.cT K ("law", none)).2 → p.2 = ("law.<locals>.<lambda>" : Str) := by
  intro p hp e
  have hp : p ∈ [((He.cT K ("law", none)).2, ("law.<locals>.<lambda>" : Str))] := hp
  simp only [List.mem_cons, List.not_mem_nil, or_false] at hp
  subst hp
  rfl
instance : Sh.BasePred := ⟨fun _ => True, fun _ _ _ _ => trivial⟩
structure Tx (K : PySem.W.Frag) (mg : Str → Option Value) : Prop where
  d_BadName_init : SupD K "__init__" "BadName.__init__" s_BadName_init (He.ma K (He.ga K "BadName") "__init__") (He.ga K "BadName") "/claim/cut.py"
  n_super : mg "super" = none
  ci_BadName : ∃ cd, PySem.W.clsIn K (He.ga K "BadName") = some cd
  exc_BadName : SupX K (He.ga K "BadName")
  nx_BadName_value : PySem.W.findIn K (.ref (He.ga K "BadName")) "value" = some none
  d_BadNumber_init : SupD K "__init__" "BadNumber.__init__" s_BadNumber_init (He.ma K (He.ga K "BadNumber") "__init__") (He.ga K "BadNumber") "/claim/cut.py"
  ci_BadNumber : ∃ cd, PySem.W.clsIn K (He.ga K "BadNumber") = some cd
  exc_BadNumber : SupX K (He.ga K "BadNumber")
  nx_BadNumber_value : PySem.W.findIn K (.ref (He.ga K "BadNumber")) "value" = some none
  d_BadTable_init : SupD K "__init__" "BadTable.__init__" s_BadTable_init (He.ma K (He.ga K "BadTable") "__init__") (He.ga K "BadTable") "/claim/cut.py"
  ci_BadTable : ∃ cd, PySem.W.clsIn K (He.ga K "BadTable") = some cd
  exc_BadTable : SupX K (He.ga K "BadTable")
  nx_BadTable_value : PySem.W.findIn K (.ref (He.ga K "BadTable")) "value" = some none
  d_is_integer : ∃ f, FnP K "is_integer" s_is_integer f ∧ mg "is_integer" = some (.ref f)
  n_isinstance : mg "isinstance" = none
  n_int : mg "int" = none
  n_bool : mg "bool" = none
  d_is_within : ∃ f, FnP K "is_within" s_is_within f ∧ mg "is_within" = some (.ref f)
  d_is_number : ∃ f, FnP K "is_number" s_is_number f ∧ mg "is_number" = some (.ref f)
  c_MOST_NUMBER : ∃ u, mg "MOST_NUMBER" = some u ∧ RelV (.int 999999999999999999999999999999999999999999999999999999999999) u
  d_is_name : ∃ f, FnP K "is_name" s_is_name f ∧ mg "is_name" = some (.ref f)
  n_str : mg "str" = none
  n_len : mg "len" = none
  c_MOST_LETTERS : ∃ u, mg "MOST_LETTERS" = some u ∧ RelV (.int 8) u
  n_all : mg "all" = none
  c_LETTERS : ∃ u, mg "LETTERS" = some u ∧ RelV (.str "abcdefghijklmnopqrstuvwxyz") u
  d_need_name : ∃ f, FnP K "need_name" s_need_name f ∧ mg "need_name" = some (.ref f)
  xi_BadName : PySem.W.findIn K (.ref (He.ga K "BadName")) "__init__" = some (some (.ref (He.ma K (He.ga K "BadName") "__init__")))
  xt_BadName : PySem.W.typeIn K (.ref (He.ma K (He.ga K "BadName") "__init__")) = some (.type "function")
  g_BadName : mg "BadName" = some (.ref (He.ga K "BadName"))
  d_need_number : ∃ f, FnP K "need_number" s_need_number f ∧ mg "need_number" = some (.ref f)
  xi_BadNumber : PySem.W.findIn K (.ref (He.ga K "BadNumber")) "__init__" = some (some (.ref (He.ma K (He.ga K "BadNumber") "__init__")))
  xt_BadNumber : PySem.W.typeIn K (.ref (He.ma K (He.ga K "BadNumber") "__init__")) = some (.type "function")
  g_BadNumber : mg "BadNumber" = some (.ref (He.ga K "BadNumber"))
  d_numbers_of : ∃ f, FnP K "numbers_of" s_numbers_of f ∧ mg "numbers_of" = some (.ref f)
  n_dict : mg "dict" = none
  xi_BadTable : PySem.W.findIn K (.ref (He.ga K "BadTable")) "__init__" = some (some (.ref (He.ma K (He.ga K "BadTable") "__init__")))
  xt_BadTable : PySem.W.typeIn K (.ref (He.ma K (He.ga K "BadTable") "__init__")) = some (.type "function")
  g_BadTable : mg "BadTable" = some (.ref (He.ga K "BadTable"))
  n_sorted : mg "sorted" = none
  d_House_init : ∃ fd, FunD K "__init__" "House.__init__" (defArgs s_House_init) (defBody s_House_init) (defScope s_House_init) [] [] (He.ma K (He.ga K "House") "__init__") fd
  cl_House : Cls K (He.ga K "House")
  na_House_own_numbers : NoAttr K (He.ga K "House") "own_numbers"
  d_House_of : ∃ fd, FunD K "of" "House.of" (defArgs s_House_of) (defBody s_House_of) (defScope s_House_of) [] [] (cmOf K (He.ga K "House") "of") fd
  mk_House : Mk K (He.ga K "House") (He.ma K (He.ga K "House") "__init__")
  d_House_none : ∃ fd, FunD K "none" "House.none" (defArgs s_House_none) (defBody s_House_none) (defScope s_House_none) [] [] (smOf K (He.ga K "House") "none") fd
  g_House : mg "House" = some (.ref (He.ga K "House"))
  d_House_put : ∃ fd, FunD K "put" "House.put" (defArgs s_House_put) (defBody s_House_put) (defScope s_House_put) [] [] (He.ma K (He.ga K "House") "put") fd
  d_House_bays : ∃ fd, FunD K "bays" "House.bays" (defArgs s_House_bays) (defBody s_House_bays) (defScope s_House_bays) [] [] (getOf K (He.ga K "House") "bays") fd
  n_tuple : mg "tuple" = none
  d_House_total : ∃ fd, FunD K "total" "House.total" (defArgs s_House_total) (defBody s_House_total) (defScope s_House_total) [] [] (getOf K (He.ga K "House") "total") fd
  n_sum : mg "sum" = none
  d_House_getitem : ∃ fd, FunD K "__getitem__" "House.__getitem__" (defArgs s_House_getitem) (defBody s_House_getitem) (defScope s_House_getitem) [] [] (He.ma K (He.ga K "House") "__getitem__") fd
  d_House_contains : ∃ fd, FunD K "__contains__" "House.__contains__" (defArgs s_House_contains) (defBody s_House_contains) (defScope s_House_contains) [] [] (He.ma K (He.ga K "House") "__contains__") fd
  in_House : InsC K (He.ga K "House")
  kt_House_str_f : PySem.W.kitOne K (.ref (He.ga K "House")) (.type "str") = some false
  d_House_len : ∃ fd, FunD K "__len__" "House.__len__" (defArgs s_House_len) (defBody s_House_len) (defScope s_House_len) [] [] (He.ma K (He.ga K "House") "__len__") fd
  d_House_bool : ∃ fd, FunD K "__bool__" "House.__bool__" (defArgs s_House_bool) (defBody s_House_bool) (defScope s_House_bool) [] [] (He.ma K (He.ga K "House") "__bool__") fd
  d_House_eq : ∃ fd, FunD K "__eq__" "House.__eq__" (defArgs s_House_eq) (defBody s_House_eq) (defScope s_House_eq) [] [] (He.ma K (He.ga K "House") "__eq__") fd
  kts_House : ∀ t ∈ tys, PySem.W.kitOne K (.type t) (.ref (He.ga K "House")) = some false
  kt_House_House_t : PySem.W.kitOne K (.ref (He.ga K "House")) (.ref (He.ga K "House")) = some true
  d_House_str : ∃ fd, FunD K "__str__" "House.__str__" (defArgs s_House_str) (defBody s_House_str) (defScope s_House_str) [] [] (He.ma K (He.ga K "House") "__str__") fd
  d_House_iter : ∃ fd, FunD K "__iter__" "House.__iter__" (defArgs s_House_iter) (defBody s_House_iter) (defScope s_House_iter) [] [] (He.ma K (He.ga K "House") "__iter__") fd
  n_iter : mg "iter" = none
  d__law_pen : ∃ f, FnP K "_law_pen" s__law_pen f ∧ mg "_law_pen" = some (.ref f)
  n_list : mg "list" = none
  d__law_draw : ∃ f, FnP K "_law_draw" s__law_draw f ∧ mg "_law_draw" = some (.ref f)
  n_abs : mg "abs" = none
  d__law_pick : ∃ f, FnP K "_law_pick" s__law_pick f ∧ mg "_law_pick" = some (.ref f)
  d__law_word : ∃ f, FnP K "_law_word" s__law_word f ∧ mg "_law_word" = some (.ref f)
  n_range : mg "range" = none
  d__law_number : ∃ f, FnP K "_law_number" s__law_number f ∧ mg "_law_number" = some (.ref f)
  d__law_table : ∃ f, FnP K "_law_table" s__law_table f ∧ mg "_law_table" = some (.ref f)
  d__law_is_count : ∃ f, FnP K "_law_is_count" s__law_is_count f ∧ mg "_law_is_count" = some (.ref f)
  d__law_tells : ∃ f, FnP K "_law_tells" s__law_tells f ∧ mg "_law_tells" = some (.ref f)
  own_House_getitem : OwnM K (He.ga K "House") "__getitem__" (He.ma K (He.ga K "House") "__getitem__")
  pr_House_total : PropOf K (He.ga K "House") "total" (He.ma K (He.ga K "House") "total") (getOf K (He.ga K "House") "total")
  own_House_len : OwnM K (He.ga K "House") "__len__" (He.ma K (He.ga K "House") "__len__")
  pr_House_bays : PropOf K (He.ga K "House") "bays" (He.ma K (He.ga K "House") "bays") (getOf K (He.ga K "House") "bays")
  own_House_iter : OwnM K (He.ga K "House") "__iter__" (He.ma K (He.ga K "House") "__iter__")
  own_House_bool : OwnM K (He.ga K "House") "__bool__" (He.ma K (He.ga K "House") "__bool__")
  d__law_turned : ∃ f, FnP K "_law_turned" s__law_turned f ∧ mg "_law_turned" = some (.ref f)
  d__law_put : ∃ f, FnP K "_law_put" s__law_put f ∧ mg "_law_put" = some (.ref f)
  cr_House : ClX.CRead K (He.ga K "House") (.type "type")
  cf_House_none : CFn K (He.ga K "House") "none" (smOf K (He.ga K "House") "none")
  mt_House_put : Meth K (He.ga K "House") "put" (He.ma K (He.ga K "House") "put")
  d__law_in_right : ∃ f, FnP K "_law_in_right" s__law_in_right f ∧ mg "_law_in_right" = some (.ref f)
  n_repr : mg "repr" = none
  own_House_contains : OwnM K (He.ga K "House") "__contains__" (He.ma K (He.ga K "House") "__contains__")
  tm_law : ((He.cT K ("law", none)).2, ("law.<locals>.<lambda>" : Str)) ∈ Sh.TabSet.TS K
  tu_law : ∀ p ∈ Sh.TabSet.TS K, p.1 = (He.cT K ("law", none)).2 → p.2 = ("law.<locals>.<lambda>" : Str)
  cm_House_of : ClX.CMet K (He.ga K "House") (.type "type") "of" (He.ma K (He.ga K "House") "of") (cmOf K (He.ga K "House") "of")
  eq_House : EqC K (He.ga K "House") (He.ma K (He.ga K "House") "__eq__")
  nf_House_House : PySem.W.notFirst K (He.ga K "House") (.ref (He.ga K "House")) = true
  nfs_House : ∀ t ∈ tys, PySem.W.notFirst K (He.ga K "House") (.type t) = true
  own_House_str : OwnM K (He.ga K "House") "__str__" (He.ma K (He.ga K "House") "__str__")
  cv_House_DIGITS : ∃ u, ClX.CVal K (He.ga K "House") (.type "type") "DIGITS" (.int 60) u
  co_House_DIGITS : ∃ u, Con K (He.ga K "House") "DIGITS" (.int 60) u
end Nk
namespace Nk
open PySem PySem.Spec PyProof.Rows L2
local macro_rules | `(tactic| walk_at "r1") => `(tactic| with_reducible first
  | refine r_var rfl ?_ | refine r_c ?_ | refine r_seq ?_ | refine r_asgN ?_ | refine r_op ?_ | refine r_cb ?_ | refine r_cons ?_ | refine r_nil ?_
  | refine r_ret ?_ | refine r_ifS ?_ | refine r_I0 ?_ | refine r_test ?_ | refine r_B ?_ | refine r_k ?_ | refine r_not ?_ | refine r_and ?_ | refine r_or ?_
  | refine r_andV ?_ | refine r_orV ?_ | refine r_notV ?_ | refine r_if ?_ | refine r_chain ?_ | refine r_df ?_ | refine r_lst ?_ | refine r_tup ?_ | refine r_asg ?_ | refine r_gsub ?_ | refine r_drop ?_ | refine r_retN ?_ | refine r_next ?_ | refine r_bm ?_ | refine r_un ?_
  | refine r_gN ?_ | refine r_yes ?_ | refine r_lc ?_ | refine r_for ?_ | refine r_iStr ?_ | refine r_iList ?_ | refine r_iTup ?_ | refine r_iRng1 ?_ | refine r_xstr ?_ | refine r_xref ?_ | refine r_xint ?_ | refine r_xints ?_
  | refine r_m1 ?_ | refine r_isS ?_ | refine r_sl ?_ | refine r_nop ?_ | refine r_part ?_ | refine r_int1 ?_ | refine r_intb ?_ | refine r_iteT ?_ | refine r_iteF ?_ | refine r_iteNF ?_ | refine r_iteNT ?_)
local macro_rules | `(tactic| walk_at "r") => `(tactic| repeat (first | walk_at "r1" | walk_at "r2" | (dsimp only; first | walk_at "r1" | walk_at "r2")))
local macro_rules | `(tactic| walk_at "side") => `(tactic| first | assumption | (show (0 : Int) < _; omega) | exact c_mulL ⟨by omega, by omega⟩ | exact c_mulR ⟨by omega, by omega⟩ | exact c_pow ⟨by omega, by omega⟩ ⟨by omega, by omega⟩ | exact c_divW (by omega) (by omega))
local macro_rules | `(tactic| walk_at "r2") => `(tactic| first
  | ((with_reducible refine' r_I ?c1 ?_); (case c1 => walk_at "side"))
  | ((with_reducible refine' r_eq ?c1 ?_); (case c1 => rfl))
  | ((with_reducible refine' r_ne ?c1 ?_); (case c1 => rfl))
  | ((with_reducible refine' r_ixL ?c1 ?c2 ?_); (case c1 => first | exact SqL.of (by assumption) | assumption); (case c2 => rfl))
  | ((with_reducible refine' r_lenL ?c1 ?_); (case c1 => first | exact SqL.of (by assumption) | assumption))
  | ((with_reducible refine' r_slL ?c1 ?_); (case c1 => first | assumption | exact SqL.of (by assumption))))
local macro_rules | `(tactic| tbr_iter ($p:ident, $hp:ident, $H:ident, $s:ident, $e:ident, $o:ident)) => `(tactic| (intro $p:ident $hp:ident; generalize e0 : upd _ $p _ = $H:ident; have ⟨$s, $e, $o⟩ := Nk.new_facts $hp e0; clear e0))
section
variable {w : World} {K : PySem.W.Frag} {mg : Str → Option Value} {base : Heap}
theorem fo_BadName (T : Tx K mg) : Fo PP w K mg base (He.ma K (He.ga K "BadName") "__init__") 1 ["self", "value"] (spExc1 (He.ga K "BadName") "value") := by
  refine T.d_BadName_init.ok sc_BadName_init (fun vs H Q E h => ?_) (fun _ _ _ _ _ _ _ us hl => match us, hl with | [_, _], _ => rfl) (sf := "self") rfl rfl (by decide +kernel) (by decide +kernel) T.n_super (by decide +kernel) (by decide +kernel) (by decide +kernel) rfl T.ci_BadName (fun cc cdv A outer s H vs Q E S hr h => ?_)
  · obtain ⟨a, v, rfl, _⟩ := h
    rfl
  · obtain ⟨a, v, rfl, ha, k⟩ := h
    refine ⟨_, pscs_cons (psc_superX S T.exc_BadName (pa_cons (pv 1) pa_nil)) (pscs_of (pss_one (ps_ost (pv 0) (pv 1)))), ?_⟩
    refine ⟨a, rfl, ha, ?_⟩
    walk_at "r"
    refine ⟨by simp, ha, ?_⟩
    walk_at "r"
    exact ⟨v, rfl, .ref a, rfl, a, He.ga K "BadName", rfl, T.exc_BadName.T, T.nx_BadName_value, .inl ⟨ha, fun dx h1 h2 => k dx h1 h2⟩⟩
end
end Nk
namespace Nk
open PySem PySem.Spec PyProof.Rows L2
local macro_rules | `(tactic| walk_at "r1") => `(tactic| with_reducible first
  | refine r_var rfl ?_ | refine r_c ?_ | refine r_seq ?_ | refine r_asgN ?_ | refine r_op ?_ | refine r_cb ?_ | refine r_cons ?_ | refine r_nil ?_
  | refine r_ret ?_ | refine r_ifS ?_ | refine r_I0 ?_ | refine r_test ?_ | refine r_B ?_ | refine r_k ?_ | refine r_not ?_ | refine r_and ?_ | refine r_or ?_
  | refine r_andV ?_ | refine r_orV ?_ | refine r_notV ?_ | refine r_if ?_ | refine r_chain ?_ | refine r_df ?_ | refine r_lst ?_ | refine r_tup ?_ | refine r_asg ?_ | refine r_gsub ?_ | refine r_drop ?_ | refine r_retN ?_ | refine r_next ?_ | refine r_bm ?_ | refine r_un ?_
  | refine r_gN ?_ | refine r_yes ?_ | refine r_lc ?_ | refine r_for ?_ | refine r_iStr ?_ | refine r_iList ?_ | refine r_iTup ?_ | refine r_iRng1 ?_ | refine r_xstr ?_ | refine r_xref ?_ | refine r_xint ?_ | refine r_xints ?_
  | refine r_m1 ?_ | refine r_isS ?_ | refine r_sl ?_ | refine r_nop ?_ | refine r_part ?_ | refine r_int1 ?_ | refine r_intb ?_ | refine r_iteT ?_ | refine r_iteF ?_ | refine r_iteNF ?_ | refine r_iteNT ?_)
local macro_rules | `(tactic| walk_at "r") => `(tactic| repeat (first | walk_at "r1" | walk_at "r2" | (dsimp only; first | walk_at "r1" | walk_at "r2")))
local macro_rules | `(tactic| walk_at "side") => `(tactic| first | assumption | (show (0 : Int) < _; omega) | exact c_mulL ⟨by omega, by omega⟩ | exact c_mulR ⟨by omega, by omega⟩ | exact c_pow ⟨by omega, by omega⟩ ⟨by omega, by omega⟩ | exact c_divW (by omega) (by omega))
local macro_rules | `(tactic| walk_at "r2") => `(tactic| first
  | ((with_reducible refine' r_I ?c1 ?_); (case c1 => walk_at "side"))
  | ((with_reducible refine' r_eq ?c1 ?_); (case c1 => rfl))
  | ((with_reducible refine' r_ne ?c1 ?_); (case c1 => rfl))
  | ((with_reducible refine' r_ixL ?c1 ?c2 ?_); (case c1 => first | exact SqL.of (by assumption) | assumption); (case c2 => rfl))
  | ((with_reducible refine' r_lenL ?c1 ?_); (case c1 => first | exact SqL.of (by assumption) | assumption))
  | ((with_reducible refine' r_slL ?c1 ?_); (case c1 => first | assumption | exact SqL.of (by assumption))))
local macro_rules | `(tactic| tbr_iter ($p:ident, $hp:ident, $H:ident, $s:ident, $e:ident, $o:ident)) => `(tactic| (intro $p:ident $hp:ident; generalize e0 : upd _ $p _ = $H:ident; have ⟨$s, $e, $o⟩ := Nk.new_facts $hp e0; clear e0))
section
variable {w : World} {K : PySem.W.Frag} {mg : Str → Option Value} {base : Heap}
theorem fo_BadNumber (T : Tx K mg) : Fo PP w K mg base (He.ma K (He.ga K "BadNumber") "__init__") 1 ["self", "value"] (spExc1 (He.ga K "BadNumber") "value") := by
  refine T.d_BadNumber_init.ok sc_BadNumber_init (fun vs H Q E h => ?_) (fun _ _ _ _ _ _ _ us hl => match us, hl with | [_, _], _ => rfl) (sf := "self") rfl rfl (by decide +kernel) (by decide +kernel) T.n_super (by decide +kernel) (by decide +kernel) (by decide +kernel) rfl T.ci_BadNumber (fun cc cdv A outer s H vs Q E S hr h => ?_)
  · obtain ⟨a, v, rfl, _⟩ := h
    rfl
  · obtain ⟨a, v, rfl, ha, k⟩ := h
    refine ⟨_, pscs_cons (psc_superX S T.exc_BadNumber (pa_cons (pv 1) pa_nil)) (pscs_of (pss_one (ps_ost (pv 0) (pv 1)))), ?_⟩
    refine ⟨a, rfl, ha, ?_⟩
    walk_at "r"
    refine ⟨by simp, ha, ?_⟩
    walk_at "r"
    exact ⟨v, rfl, .ref a, rfl, a, He.ga K "BadNumber", rfl, T.exc_BadNumber.T, T.nx_BadNumber_value, .inl ⟨ha, fun dx h1 h2 => k dx h1 h2⟩⟩
end
end Nk
namespace Nk
open PySem PySem.Spec PyProof.Rows L2 Sh
def pic_is_integer : Sy := (sRet (eAd (eIsi ["bool", "int"] [] (eVar 0)) (eNt (eIsi ["bool"] [] (eVar 0)))))
def sh_is_integer : List D → Store → R D := runD 1 0 pic_is_integer
section
variable {w : World} {K : PySem.W.Frag} {mg : Str → Option Value} {base : Heap}
theorem df_is_integer (T : Tx K mg) : Df PP w K mg base "is_integer" 1 ["value"] (spSh K sh_is_integer) := by
  obtain ⟨f, F, hm⟩ := T.d_is_integer
  exact df_sh (f := pic_is_integer) F hm sc_is_integer (fun _ _ _ _ _ _ us hl => match us, hl with | [_], _ => rfl) rfl rfl (fun _ => trivial) (fun cdv A outer s H E hr => (ss_one (s_ret (x_and (x_isi (bi := ["bool", "int"]) (own := []) rfl (by rfl) T.n_isinstance (x_var (i := 0) rfl (by first | exact .inl rfl | exact .inr (.inl rfl) | exact .inr (.inr rfl))) (pe_bltn (v := .ty "int") (u := .type "int") (by rfl) T.n_int (by decide +kernel) rfl) ⟨(io_b (by decide +kernel)), oo_nil⟩ (.ty _)) (x_one (x_not (x_isi (bi := ["bool"]) (own := []) rfl (by rfl) T.n_isinstance (x_var (i := 0) rfl (by first | exact .inl rfl | exact .inr (.inl rfl) | exact .inr (.inr rfl))) (pe_bltn (v := .ty "bool") (u := .type "bool") (by rfl) T.n_bool (by decide +kernel) rfl) ⟨(io_b (by decide +kernel)), oo_nil⟩ (.ty _))))))))
end
def pic_is_within : Sy := (sRet (eAd (eDf sh_is_integer (aCons (eVar 0) aNil)) (eChain dLe dLe (eVar 1) (eVar 0) (eVar 2))))
def sh_is_within : List D → Store → R D := runD 3 0 pic_is_within
section
variable {w : World} {K : PySem.W.Frag} {mg : Str → Option Value} {base : Heap}
theorem df_is_within (T : Tx K mg) : Df PP w K mg base "is_within" 2 ["value", "least", "most"] (spSh K sh_is_within) := by
  have G_is_integer : Df PP w K mg base "is_integer" 1 _ _ := df_is_integer T
  obtain ⟨f, F, hm⟩ := T.d_is_within
  exact df_sh (f := pic_is_within) F hm sc_is_within (fun _ _ _ _ _ _ us hl => match us, hl with | [_, _, _], _ => rfl) rfl rfl (fun _ => trivial) (fun cdv A outer s H E hr => (ss_one (s_ret (x_and (x_df G_is_integer shp_sh hr (by decide) (by rfl) (takes_of rfl rfl rfl rfl) (a_cons (x_var (i := 0) rfl (by first | exact .inl rfl | exact .inr (.inl rfl) | exact .inr (.inr rfl))) a_nil)) (x_one (x_chain (ops_le rfl) (ops_le rfl) (x_var (i := 1) rfl (by first | exact .inl rfl | exact .inr (.inl rfl) | exact .inr (.inr rfl))) (x_var (i := 0) rfl (by first | exact .inl rfl | exact .inr (.inl rfl) | exact .inr (.inr rfl))) (x_var (i := 2) rfl (by first | exact .inl rfl | exact .inr (.inl rfl) | exact .inr (.inr rfl)))))))))
end
def pic_is_number : Sy := (sRet (eDf sh_is_within (aCons (eVar 0) (aCons (eC (.int 0)) (aCons (eC (.int 999999999999999999999999999999999999999999999999999999999999)) aNil)))))
def sh_is_number : List D → Store → R D := runD 1 0 pic_is_number
section
variable {w : World} {K : PySem.W.Frag} {mg : Str → Option Value} {base : Heap}
theorem df_is_number (T : Tx K mg) : Df PP w K mg base "is_number" 3 ["value"] (spSh K sh_is_number) := by
  have G_is_within : Df PP w K mg base "is_within" 2 _ _ := df_is_within T
  obtain ⟨f, F, hm⟩ := T.d_is_number
  exact df_sh (f := pic_is_number) F hm sc_is_number (fun _ _ _ _ _ _ us hl => match us, hl with | [_], _ => rfl) rfl rfl (fun _ => trivial) (fun cdv A outer s H E hr => (ss_one (s_ret (x_df G_is_within shp_sh hr (by decide) (by rfl) (takes_of rfl rfl rfl rfl) (a_cons (x_var (i := 0) rfl (by first | exact .inl rfl | exact .inr (.inl rfl) | exact .inr (.inr rfl))) (a_cons x_int (a_cons (x_gc (by rfl) T.c_MOST_NUMBER (fun _ => rep_int)) a_nil)))))))
end
def pic_is_name : Sy := (sSeq (sIf (tOo (tNt (tVal (eIsi ["str"] [] (eVar 0)))) (tNt (tVal (eChain dLe dLe (eC (.int 1)) (eCall dLen (aCons (eVar 0) aNil)) (eC (.int 8))))))
    (sRet (eC (.bl false)))
    sNil)
    (sRet (eCall dAll (aCons (eNew (lComp [1] (iSq (eVar 0)) (gN 1) tYesD (eBin dIn (eVar 1) (eC (.str "abcdefghijklmnopqrstuvwxyz"))))) aNil))))
def sh_is_name : List D → Store → R D := runD 1 1 pic_is_name
section
variable {w : World} {K : PySem.W.Frag} {mg : Str → Option Value} {base : Heap}
theorem df_is_name (T : Tx K mg) : Df PP w K mg base "is_name" 1 ["value"] (spSh K sh_is_name) := by
  obtain ⟨f, F, hm⟩ := T.d_is_name
  exact df_sh (f := pic_is_name) F hm sc_is_name (fun _ _ _ _ _ _ us hl => match us, hl with | [_], _ => rfl) rfl rfl (fun _ => trivial) (fun cdv A outer s H E hr => (ss_cons (s_if (w_pt (w_or (t_not (t_val (x_isi (bi := ["str"]) (own := []) rfl (by rfl) T.n_isinstance (x_var (i := 0) rfl (by first | exact .inl rfl | exact .inr (.inl rfl) | exact .inr (.inr rfl))) (pe_bltn (v := .ty "str") (u := .type "str") (by rfl) T.n_str (by decide +kernel) rfl) ⟨(io_b (by decide +kernel)), oo_nil⟩ (.ty _)))) (w_or1 (t_not (t_chain (ops_le rfl) (ops_le rfl) x_int (x_callB (calls_len rfl) (by rfl) T.n_len (by decide +kernel) (a_cons (x_var (i := 0) rfl (by first | exact .inl rfl | exact .inr (.inl rfl) | exact .inr (.inr rfl))) a_nil)) (x_gc (by rfl) T.c_MOST_LETTERS (fun _ => rep_int)))))))
    (ss_one (s_ret x_bl))
    ss_nil)
    (ss_one (s_ret (x_callB (calls_all rfl rfl) (by rfl) T.n_all (by decide +kernel) (a_cons (x_new (f_comp (own := [("letter", 1)]) rfl sc_is_name.nd (i_seq rfl (x_var (i := 0) rfl (by first | exact .inl rfl | exact .inr (.inl rfl) | exact .inr (.inr rfl)))) (blkOk_by (N := ["value", "letter"]) (sc := defScope s_is_name) (by decide +kernel)) (fun _ _ _ _ _ => (g_name (i := 1) sc_is_name.nd rfl (by first | exact .inl rfl | exact .inr rfl))) (fun _ _ _ _ _ => ts_nil) (fun _ _ _ _ _ => (x_cmp (ops_in rfl (room65 hr)) (x_var (i := 1) rfl (by first | exact .inl rfl | exact .inr (.inl rfl) | exact .inr (.inr rfl))) (x_gc (by rfl) T.c_LETTERS (fun _ => rep_str (by decide +kernel))) rfl)))) a_nil))))))
end
def pic_need_name : Sy := (sIf (tNt (tVal (eDf sh_is_name (aCons (eVar 0) aNil))))
    (sRs "BadName" ["value"] (aCons (eVar 0) aNil))
    sNil)
def sh_need_name : List D → Store → R D := runD 1 0 pic_need_name
section
variable {w : World} {K : PySem.W.Frag} {mg : Str → Option Value} {base : Heap}
theorem df_need_name (T : Tx K mg) : Df PP w K mg base "need_name" 3 ["value"] (spSh K sh_need_name) := by
  have G_is_name : Df PP w K mg base "is_name" 1 _ _ := df_is_name T
  have G_BadName_init : Fo PP w K mg base (He.ma K (He.ga K "BadName") "__init__") 1 _ _ := fo_BadName T
  obtain ⟨f, F, hm⟩ := T.d_need_name
  exact df_sh (f := pic_need_name) F hm sc_need_name (fun _ _ _ _ _ _ us hl => match us, hl with | [_], _ => rfl) rfl rfl (fun _ => trivial) (fun cdv A outer s H E hr => (ss_one (s_if (t_not (t_val (x_df G_is_name shp_sh hr (by decide) (by rfl) (takes_of rfl rfl rfl rfl) (a_cons (x_var (i := 0) rfl (by first | exact .inl rfl | exact .inr (.inl rfl) | exact .inr (.inr rfl))) a_nil))))
    (ss_one (s_rs1 (c := "BadName") (g1 := "value") rfl rfl (takes_of rfl rfl rfl rfl) T.exc_BadName.T T.xi_BadName T.xt_BadName G_BadName_init hr (by decide) (by rfl) T.g_BadName (a_cons (x_var (i := 0) rfl (by first | exact .inl rfl | exact .inr (.inl rfl) | exact .inr (.inr rfl))) a_nil)))
    ss_nil)))
end
def pic_need_number : Sy := (sIf (tNt (tVal (eDf sh_is_number (aCons (eVar 0) aNil))))
    (sRs "BadNumber" ["value"] (aCons (eVar 0) aNil))
    sNil)
def sh_need_number : List D → Store → R D := runD 1 0 pic_need_number
section
variable {w : World} {K : PySem.W.Frag} {mg : Str → Option Value} {base : Heap}
theorem df_need_number (T : Tx K mg) : Df PP w K mg base "need_number" 4 ["value"] (spSh K sh_need_number) := by
  have G_is_number : Df PP w K mg base "is_number" 3 _ _ := df_is_number T
  have G_BadNumber_init : Fo PP w K mg base (He.ma K (He.ga K "BadNumber") "__init__") 1 _ _ := fo_BadNumber T
  obtain ⟨f, F, hm⟩ := T.d_need_number
  exact df_sh (f := pic_need_number) F hm sc_need_number (fun _ _ _ _ _ _ us hl => match us, hl with | [_], _ => rfl) rfl rfl (fun _ => trivial) (fun cdv A outer s H E hr => (ss_one (s_if (t_not (t_val (x_df G_is_number shp_sh hr (by decide) (by rfl) (takes_of rfl rfl rfl rfl) (a_cons (x_var (i := 0) rfl (by first | exact .inl rfl | exact .inr (.inl rfl) | exact .inr (.inr rfl))) a_nil))))
    (ss_one (s_rs1 (c := "BadNumber") (g1 := "value") rfl rfl (takes_of rfl rfl rfl rfl) T.exc_BadNumber.T T.xi_BadNumber T.xt_BadNumber G_BadNumber_init hr (by decide) (by rfl) T.g_BadNumber (a_cons (x_var (i := 0) rfl (by first | exact .inl rfl | exact .inr (.inl rfl) | exact .inr (.inr rfl))) a_nil)))
    ss_nil)))
end
end Nk
namespace Nk
open PySem PySem.Spec PyProof.Rows L2
local macro_rules | `(tactic| walk_at "r1") => `(tactic| with_reducible first
  | refine r_var rfl ?_ | refine r_c ?_ | refine r_seq ?_ | refine r_asgN ?_ | refine r_op ?_ | refine r_cb ?_ | refine r_cons ?_ | refine r_nil ?_
  | refine r_ret ?_ | refine r_ifS ?_ | refine r_I0 ?_ | refine r_test ?_ | refine r_B ?_ | refine r_k ?_ | refine r_not ?_ | refine r_and ?_ | refine r_or ?_
  | refine r_andV ?_ | refine r_orV ?_ | refine r_notV ?_ | refine r_if ?_ | refine r_chain ?_ | refine r_df ?_ | refine r_lst ?_ | refine r_tup ?_ | refine r_asg ?_ | refine r_gsub ?_ | refine r_drop ?_ | refine r_retN ?_ | refine r_next ?_ | refine r_bm ?_ | refine r_un ?_
  | refine r_gN ?_ | refine r_yes ?_ | refine r_lc ?_ | refine r_for ?_ | refine r_iStr ?_ | refine r_iList ?_ | refine r_iTup ?_ | refine r_iRng1 ?_ | refine r_xstr ?_ | refine r_xref ?_ | refine r_xint ?_ | refine r_xints ?_
  | refine r_m1 ?_ | refine r_isS ?_ | refine r_sl ?_ | refine r_nop ?_ | refine r_part ?_ | refine r_int1 ?_ | refine r_intb ?_ | refine r_iteT ?_ | refine r_iteF ?_ | refine r_iteNF ?_ | refine r_iteNT ?_)
local macro_rules | `(tactic| walk_at "r") => `(tactic| repeat (first | walk_at "r1" | walk_at "r2" | (dsimp only; first | walk_at "r1" | walk_at "r2")))
local macro_rules | `(tactic| walk_at "side") => `(tactic| first | assumption | (show (0 : Int) < _; omega) | exact c_mulL ⟨by omega, by omega⟩ | exact c_mulR ⟨by omega, by omega⟩ | exact c_pow ⟨by omega, by omega⟩ ⟨by omega, by omega⟩ | exact c_divW (by omega) (by omega))
local macro_rules | `(tactic| walk_at "r2") => `(tactic| first
  | ((with_reducible refine' r_I ?c1 ?_); (case c1 => walk_at "side"))
  | ((with_reducible refine' r_eq ?c1 ?_); (case c1 => rfl))
  | ((with_reducible refine' r_ne ?c1 ?_); (case c1 => rfl))
  | ((with_reducible refine' r_ixL ?c1 ?c2 ?_); (case c1 => first | exact SqL.of (by assumption) | assumption); (case c2 => rfl))
  | ((with_reducible refine' r_lenL ?c1 ?_); (case c1 => first | exact SqL.of (by assumption) | assumption))
  | ((with_reducible refine' r_slL ?c1 ?_); (case c1 => first | assumption | exact SqL.of (by assumption))))
local macro_rules | `(tactic| tbr_iter ($p:ident, $hp:ident, $H:ident, $s:ident, $e:ident, $o:ident)) => `(tactic| (intro $p:ident $hp:ident; generalize e0 : upd _ $p _ = $H:ident; have ⟨$s, $e, $o⟩ := Nk.new_facts $hp e0; clear e0))
section
variable {w : World} {K : PySem.W.Frag} {mg : Str → Option Value} {base : Heap}
theorem fo_BadTable (T : Tx K mg) : Fo PP w K mg base (He.ma K (He.ga K "BadTable") "__init__") 1 ["self", "value"] (spExc1 (He.ga K "BadTable") "value") := by
  refine T.d_BadTable_init.ok sc_BadTable_init (fun vs H Q E h => ?_) (fun _ _ _ _ _ _ _ us hl => match us, hl with | [_, _], _ => rfl) (sf := "self") rfl rfl (by decide +kernel) (by decide +kernel) T.n_super (by decide +kernel) (by decide +kernel) (by decide +kernel) rfl T.ci_BadTable (fun cc cdv A outer s H vs Q E S hr h => ?_)
  · obtain ⟨a, v, rfl, _⟩ := h
    rfl
  · obtain ⟨a, v, rfl, ha, k⟩ := h
    refine ⟨_, pscs_cons (psc_superX S T.exc_BadTable (pa_cons (pv 1) pa_nil)) (pscs_of (pss_one (ps_ost (pv 0) (pv 1)))), ?_⟩
    refine ⟨a, rfl, ha, ?_⟩
    walk_at "r"
    refine ⟨by simp, ha, ?_⟩
    walk_at "r"
    exact ⟨v, rfl, .ref a, rfl, a, He.ga K "BadTable", rfl, T.exc_BadTable.T, T.nx_BadTable_value, .inl ⟨ha, fun dx h1 h2 => k dx h1 h2⟩⟩
end
end Nk
namespace Nk
open PySem PySem.Spec PyProof.Rows L2 Sh
def pic_numbers_of : Sy := (sSeq (sIf (tNt (tVal (eIsiC ["dict"] [] (eVar 0))))
    (sRs "BadTable" ["value"] (aCons (eVar 0) aNil))
    sNil)
    (sSeq (sFor (iDk (eVar 0)) (gN 1)
    (sIf (tNt (tVal (eDf sh_is_name (aCons (eVar 1) aNil))))
    (sRs "BadName" ["value"] (aCons (eVar 1) aNil))
    sNil))
    (sSeq (sSet 2 (eCall dSorted (aCons (eNew (lComp [1] (iDk (eVar 0)) (gN 1) tYesD (eCall dStr (aCons (eVar 1) aNil)))) aNil)))
    (sSeq (sFor (iSq (eVar 2)) (gN 3)
    (sIf (tNt (tVal (eDf sh_is_number (aCons (eDix (eVar 0) (eVar 3)) aNil))))
    (sRs "BadNumber" ["value"] (aCons (eDix (eVar 0) (eVar 3)) aNil))
    sNil))
    (sRet (eNewD (kComp [3] (iSq (eVar 2)) (gN 3) (tVal (eBin dNe (eDix (eVar 0) (eVar 3)) (eC (.int 0)))) (eVar 3) (eDix (eVar 0) (eVar 3)))))))))
def sh_numbers_of : List D → Store → R D := runD 1 3 pic_numbers_of
section
variable {w : World} {K : PySem.W.Frag} {mg : Str → Option Value} {base : Heap}
theorem df_numbers_of (T : Tx K mg) : Df PP w K mg base "numbers_of" 4 ["table"] (spSh K sh_numbers_of) := by
  have G_is_number : Df PP w K mg base "is_number" 3 _ _ := df_is_number T
  have G_BadNumber_init : Fo PP w K mg base (He.ma K (He.ga K "BadNumber") "__init__") 1 _ _ := fo_BadNumber T
  have G_is_name : Df PP w K mg base "is_name" 1 _ _ := df_is_name T
  have G_BadName_init : Fo PP w K mg base (He.ma K (He.ga K "BadName") "__init__") 1 _ _ := fo_BadName T
  have G_BadTable_init : Fo PP w K mg base (He.ma K (He.ga K "BadTable") "__init__") 1 _ _ := fo_BadTable T
  obtain ⟨f, F, hm⟩ := T.d_numbers_of
  exact df_sh (f := pic_numbers_of) F hm sc_numbers_of (fun _ _ _ _ _ _ us hl => match us, hl with | [_], _ => rfl) rfl rfl (fun _ => trivial) (fun cdv A outer s H E hr => (ss_cons (s_if (t_not (t_val (x_isiC (bi := ["dict"]) (own := []) rfl (by rfl) T.n_isinstance (x_var (i := 0) rfl (by first | exact .inl rfl | exact .inr (.inl rfl) | exact .inr (.inr rfl))) (pe_bltn (v := .ty "dict") (u := .type "dict") (by rfl) T.n_dict (by decide +kernel) rfl) ⟨(io_b (by decide +kernel)), oo_nil⟩ (.ty _))))
    (ss_one (s_rs1 (c := "BadTable") (g1 := "value") rfl rfl (takes_of rfl rfl rfl rfl) T.exc_BadTable.T T.xi_BadTable T.xt_BadTable G_BadTable_init hr (by decide) (by rfl) T.g_BadTable (a_cons (x_var (i := 0) rfl (by first | exact .inl rfl | exact .inr (.inl rfl) | exact .inr (.inr rfl))) a_nil)))
    ss_nil)
    (ss_cons (s_for (us := [1]) (passes_of rfl) rfl (i_dk rfl (x_var (i := 0) rfl (by first | exact .inl rfl | exact .inr (.inl rfl) | exact .inr (.inr rfl)))) (g_name (i := 1) sc_numbers_of.nd rfl (by first | exact .inl rfl | exact .inr rfl))
    (ss_one (s_if (t_not (t_val (x_df G_is_name shp_sh hr (by decide) (by rfl) (takes_of rfl rfl rfl rfl) (a_cons (x_var (i := 1) rfl (by first | exact .inl rfl | exact .inr (.inl rfl) | exact .inr (.inr rfl))) a_nil))))
    (ss_one (s_rs1 (c := "BadName") (g1 := "value") rfl rfl (takes_of rfl rfl rfl rfl) T.exc_BadName.T T.xi_BadName T.xt_BadName G_BadName_init hr (by decide) (by rfl) T.g_BadName (a_cons (x_var (i := 1) rfl (by first | exact .inl rfl | exact .inr (.inl rfl) | exact .inr (.inr rfl))) a_nil)))
    ss_nil)))
    (ss_cons (s_set (i := 2) sc_numbers_of.nd rfl (by first | exact .inl rfl | exact .inr rfl) (x_callB (calls_sorted rfl) (by rfl) T.n_sorted (by decide +kernel) (a_cons (x_new (f_comp (own := [("key", 1)]) rfl sc_numbers_of.nd (i_dk rfl (x_var (i := 0) rfl (by first | exact .inl rfl | exact .inr (.inl rfl) | exact .inr (.inr rfl)))) (blkOk_by (N := ["table", "key", "names", "name"]) (sc := defScope s_numbers_of) (by decide +kernel)) (fun _ _ _ _ _ => (g_name (i := 1) sc_numbers_of.nd rfl (by first | exact .inl rfl | exact .inr rfl))) (fun _ _ _ _ _ => ts_nil) (fun _ _ _ _ _ => (x_callT calls_str (by rfl) T.n_str (by decide +kernel) (a_cons (x_var (i := 1) rfl (by first | exact .inl rfl | exact .inr (.inl rfl) | exact .inr (.inr rfl))) a_nil))))) a_nil)))
    (ss_cons (s_for (us := [3]) (passes_of rfl) rfl (i_seq rfl (x_var (i := 2) rfl (by first | exact .inl rfl | exact .inr (.inl rfl) | exact .inr (.inr rfl)))) (g_name (i := 3) sc_numbers_of.nd rfl (by first | exact .inl rfl | exact .inr rfl))
    (ss_one (s_if (t_not (t_val (x_df G_is_number shp_sh hr (by decide) (by rfl) (takes_of rfl rfl rfl rfl) (a_cons (x_dix rfl (room65 hr) (x_var (i := 0) rfl (by first | exact .inl rfl | exact .inr (.inl rfl) | exact .inr (.inr rfl))) (x_var (i := 3) rfl (by first | exact .inl rfl | exact .inr (.inl rfl) | exact .inr (.inr rfl))) (fun _ _ => rfl)) a_nil))))
    (ss_one (s_rs1 (c := "BadNumber") (g1 := "value") rfl rfl (takes_of rfl rfl rfl rfl) T.exc_BadNumber.T T.xi_BadNumber T.xt_BadNumber G_BadNumber_init hr (by decide) (by rfl) T.g_BadNumber (a_cons (x_dix rfl (room65 hr) (x_var (i := 0) rfl (by first | exact .inl rfl | exact .inr (.inl rfl) | exact .inr (.inr rfl))) (x_var (i := 3) rfl (by first | exact .inl rfl | exact .inr (.inl rfl) | exact .inr (.inr rfl))) (fun _ _ => rfl)) a_nil)))
    ss_nil)))
    (ss_one (s_ret (x_newD (fd_comp (own := [("name", 3)]) rfl sc_numbers_of.nd (i_seq rfl (x_var (i := 2) rfl (by first | exact .inl rfl | exact .inr (.inl rfl) | exact .inr (.inr rfl)))) (blkOk_by (N := ["table", "key", "names", "name"]) (sc := defScope s_numbers_of) (by decide +kernel)) (fun _ _ _ _ _ => (g_name (i := 3) sc_numbers_of.nd rfl (by first | exact .inl rfl | exact .inr rfl))) (fun _ _ _ _ _ => (ts_one (t_cmp (ops_neP rfl (room64 hr)) (x_dix rfl (room65 hr) (x_var (i := 0) rfl (by first | exact .inl rfl | exact .inr (.inl rfl) | exact .inr (.inr rfl))) (x_var (i := 3) rfl (by first | exact .inl rfl | exact .inr (.inl rfl) | exact .inr (.inr rfl))) (fun _ _ => rfl)) x_int (nomark _)))) (fun _ _ _ _ _ => (x_var (i := 3) rfl (by first | exact .inl rfl | exact .inr (.inl rfl) | exact .inr (.inr rfl)))) (fun _ _ _ _ _ => (x_dix rfl (room65 hr) (x_var (i := 0) rfl (by first | exact .inl rfl | exact .inr (.inl rfl) | exact .inr (.inr rfl))) (x_var (i := 3) rfl (by first | exact .inl rfl | exact .inr (.inl rfl) | exact .inr (.inr rfl))) (fun _ _ => rfl))))))))))))
end
def pic_House_init : Sy := (sSeq (sSet 3 (eCall dSorted (aCons (eNew (lComp [4] (iDk (eVar 2)) (gN 4) tYesD (eCall dStr (aCons (eVar 4) aNil)))) aNil)))
    (sFdO "House" "own_numbers" (eDf sh_numbers_of (aCons (eIf (tVal (eBin dGt (eCall dLen (aCons (eVar 1) aNil)) (eC (.int 0)))) (eIx (eVar 1) (eC (.int 0))) (eNewD (kComp [4] (iSq (eVar 3)) (gN 4) tYesD (eVar 4) (eDix (eVar 2) (eVar 4))))) aNil))))
def sh_House_init : Cell → List D → Store → R Cell := runI 3 2 pic_House_init
section
variable {w : World} {K : PySem.W.Frag} {mg : Str → Option Value} {base : Heap}
theorem fs_House_init (T : Tx K mg) : Fs PP w K mg base (He.ma K (He.ga K "House") "__init__") 5 (starSp 1 (kwdSp (spIn K sh_House_init))) := by
  have G_numbers_of : Df PP w K mg base "numbers_of" 4 _ _ := df_numbers_of T
  refine fs_starkw (ps := ["self"]) (pv := "tables") (pd := "places") T.d_House_init sc_House_init (fun _ _ _ _ _ _ => bind_starkw1 (B := fun us => bindArgs _ ⟨us, []⟩) (fun _ => rfl) (fun _ _ _ => rfl)) (fun cdv A outer s H E hr vs H2 Q h => ?_)
  refine bodyI_of (f := pic_House_init) (fun _ => trivial) rfl ?_ h
  exact (ss_cons (s_set (i := 3) sc_House_init.nd rfl (by first | exact .inl rfl | exact .inr rfl) (x_callB (calls_sorted rfl) (by rfl) T.n_sorted (by decide +kernel) (a_cons (x_new (f_comp (own := [("name", 4)]) rfl sc_House_init.nd (i_dk rfl (x_var (i := 2) rfl (by first | exact .inl rfl | exact .inr (.inl rfl) | exact .inr (.inr rfl)))) (blkOk_by (N := ["self", "tables", "places", "names", "name"]) (sc := defScope s_House_init) (by decide +kernel)) (fun _ _ _ _ _ => (g_name (i := 4) sc_House_init.nd rfl (by first | exact .inl rfl | exact .inr rfl))) (fun _ _ _ _ _ => ts_nil) (fun _ _ _ _ _ => (x_callT calls_str (by rfl) T.n_str (by decide +kernel) (a_cons (x_var (i := 4) rfl (by first | exact .inl rfl | exact .inr (.inl rfl) | exact .inr (.inr rfl))) a_nil))))) a_nil)))
    (ss_one (s_fdO (c := "House") rfl rfl (.inl rfl) T.cl_House T.na_House_own_numbers (x_df G_numbers_of shp_sh hr (by decide) (by rfl) (takes_of rfl rfl rfl rfl) (a_cons (x_if (t_cmp (ops_gt rfl) (x_callB (calls_len rfl) (by rfl) T.n_len (by decide +kernel) (a_cons (x_var (i := 1) rfl (by first | exact .inl rfl | exact .inr (.inl rfl) | exact .inr (.inr rfl))) a_nil)) x_int (nomark _)) (x_ix rfl (x_var (i := 1) rfl (by first | exact .inl rfl | exact .inr (.inl rfl) | exact .inr (.inr rfl))) x_int (fun _ _ => rfl)) (x_newD (fd_comp (own := [("name", 4)]) rfl sc_House_init.nd (i_seq rfl (x_var (i := 3) rfl (by first | exact .inl rfl | exact .inr (.inl rfl) | exact .inr (.inr rfl)))) (blkOk_by (N := ["self", "tables", "places", "names", "name"]) (sc := defScope s_House_init) (by decide +kernel)) (fun _ _ _ _ _ => (g_name (i := 4) sc_House_init.nd rfl (by first | exact .inl rfl | exact .inr rfl))) (fun _ _ _ _ _ => ts_nil) (fun _ _ _ _ _ => (x_var (i := 4) rfl (by first | exact .inl rfl | exact .inr (.inl rfl) | exact .inr (.inr rfl)))) (fun _ _ _ _ _ => (x_dix rfl (room65 hr) (x_var (i := 2) rfl (by first | exact .inl rfl | exact .inr (.inl rfl) | exact .inr (.inr rfl))) (x_var (i := 4) rfl (by first | exact .inl rfl | exact .inr (.inl rfl) | exact .inr (.inr rfl))) (fun _ _ => rfl)))))) a_nil)))))
end
def pic_House_of : Sy := (sRet (eMk "House" (starI 0 (kwdI sh_House_init)) (eVar 0) (aCons (eVar 1) aNil)))
def sh_House_of : List D → Store → R D := runD 2 0 pic_House_of
section
variable {w : World} {K : PySem.W.Frag} {mg : Str → Option Value} {base : Heap}
theorem fo_House_of (T : Tx K mg) : Fo PP w K mg base (cmOf K (He.ga K "House") "of") 7 ["cls", "table"] (spSh K sh_House_of) := by
  have G_House_init : Fs PP w K mg base (He.ma K (He.ga K "House") "__init__") 5 _ := fs_House_init T
  exact fo_sh (f := pic_House_of) T.d_House_of sc_House_of (fun _ _ _ _ _ _ us hl => match us, hl with | [_, _], _ => rfl) rfl rfl (fun _ => trivial) (fun cdv A outer s H E hr => (ss_one (s_ret (x_mk (c := "House") rfl (x_var (i := 0) rfl (by first | exact .inl rfl | exact .inr (.inl rfl) | exact .inr (.inr rfl))) T.mk_House G_House_init (shi_star 0 (shi_kwd shi_in)) hr (by decide) (takes_of rfl rfl rfl rfl) (a_cons (x_var (i := 1) rfl (by first | exact .inl rfl | exact .inr (.inl rfl) | exact .inr (.inr rfl))) a_nil)))))
end
def pic_House_none : Sy := (sRet (eMk "House" (starI 0 (kwdI sh_House_init)) (eC (.cls "House")) aNil))
def sh_House_none : List D → Store → R D := runD 0 0 pic_House_none
section
variable {w : World} {K : PySem.W.Frag} {mg : Str → Option Value} {base : Heap}
theorem fo_House_none (T : Tx K mg) : Fo PP w K mg base (smOf K (He.ga K "House") "none") 7 [] (spSh K sh_House_none) := by
  have G_House_init : Fs PP w K mg base (He.ma K (He.ga K "House") "__init__") 5 _ := fs_House_init T
  exact fo_sh (f := pic_House_none) T.d_House_none sc_House_none (fun _ _ _ _ _ _ us hl => match us, hl with | [], _ => rfl) rfl rfl (fun _ => trivial) (fun cdv A outer s H E hr => (ss_one (s_ret (x_mk0 (c := "House") rfl (x_cls rfl (by rfl) T.g_House) T.mk_House G_House_init (shi_star 0 (shi_kwd shi_in)) hr (by decide) (takes_of rfl rfl rfl rfl)))))
end
def pic_House_put : Sy := (sSeq (sDrop (eDf sh_need_name (aCons (eVar 1) aNil)))
    (sSeq (sDrop (eDf sh_need_number (aCons (eVar 2) aNil)))
    (sRet (eMk "House" (starI 0 (kwdI sh_House_init)) (eC (.cls "House")) (aCons (eNewD (kStarD (eFd ["House"] "own_numbers" (eVar 0)) [((eVar 1), (eVar 2))])) aNil)))))
def sh_House_put : List D → Store → R D := runD 3 0 pic_House_put
section
variable {w : World} {K : PySem.W.Frag} {mg : Str → Option Value} {base : Heap}
theorem fo_House_put (T : Tx K mg) : Fo PP w K mg base (He.ma K (He.ga K "House") "put") 7 ["self", "bay", "number"] (spSh K sh_House_put) := by
  have G_House_init : Fs PP w K mg base (He.ma K (He.ga K "House") "__init__") 5 _ := fs_House_init T
  have G_need_number : Df PP w K mg base "need_number" 4 _ _ := df_need_number T
  have G_need_name : Df PP w K mg base "need_name" 3 _ _ := df_need_name T
  exact fo_sh (f := pic_House_put) T.d_House_put sc_House_put (fun _ _ _ _ _ _ us hl => match us, hl with | [_, _, _], _ => rfl) rfl rfl (fun _ => trivial) (fun cdv A outer s H E hr => (ss_cons (s_expr (x_df G_need_name shp_sh hr (by decide) (by rfl) (takes_of rfl rfl rfl rfl) (a_cons (x_var (i := 1) rfl (by first | exact .inl rfl | exact .inr (.inl rfl) | exact .inr (.inr rfl))) a_nil)))
    (ss_cons (s_expr (x_df G_need_number shp_sh hr (by decide) (by rfl) (takes_of rfl rfl rfl rfl) (a_cons (x_var (i := 2) rfl (by first | exact .inl rfl | exact .inr (.inl rfl) | exact .inr (.inr rfl))) a_nil)))
    (ss_one (s_ret (x_mk (c := "House") rfl (x_cls rfl (by rfl) T.g_House) T.mk_House G_House_init (shi_star 0 (shi_kwd shi_in)) hr (by decide) (takes_of rfl rfl rfl rfl) (a_cons (x_newD (fd_dstar (x_fld (cs := ["House"]) rfl (fk_cons T.cl_House T.na_House_own_numbers fk_nil) (x_var (i := 0) rfl (by first | exact .inl rfl | exact .inr (.inl rfl) | exact .inr (.inr rfl)))) (pp_cons (x_var (i := 1) rfl (by first | exact .inl rfl | exact .inr (.inl rfl) | exact .inr (.inr rfl))) (x_var (i := 2) rfl (by first | exact .inl rfl | exact .inr (.inl rfl) | exact .inr (.inr rfl))) pp_nil))) a_nil)))))))
end
def pic_House_bays : Sy := (sRet (eCall dTuple (aCons (eNew (lComp [1] (iDk (eFd ["House"] "own_numbers" (eVar 0))) (gN 1) tYesD (eVar 1))) aNil)))
def sh_House_bays : List D → Store → R D := runD 1 1 pic_House_bays
section
variable {w : World} {K : PySem.W.Frag} {mg : Str → Option Value} {base : Heap}
theorem fo_House_bays (T : Tx K mg) : Fo PP w K mg base (getOf K (He.ga K "House") "bays") 1 ["self"] (spSh K sh_House_bays) := by
  exact fo_sh (f := pic_House_bays) T.d_House_bays sc_House_bays (fun _ _ _ _ _ _ us hl => match us, hl with | [_], _ => rfl) rfl rfl (fun _ => trivial) (fun cdv A outer s H E hr => (ss_one (s_ret (x_callT (calls_tuple rfl) (by rfl) T.n_tuple (by decide +kernel) (a_cons (x_new (f_comp (own := [("bay", 1)]) rfl sc_House_bays.nd (i_dk rfl (x_fld (cs := ["House"]) rfl (fk_cons T.cl_House T.na_House_own_numbers fk_nil) (x_var (i := 0) rfl (by first | exact .inl rfl | exact .inr (.inl rfl) | exact .inr (.inr rfl))))) (blkOk_by (N := ["self", "bay"]) (sc := defScope s_House_bays) (by decide +kernel)) (fun _ _ _ _ _ => (g_name (i := 1) sc_House_bays.nd rfl (by first | exact .inl rfl | exact .inr rfl))) (fun _ _ _ _ _ => ts_nil) (fun _ _ _ _ _ => (x_var (i := 1) rfl (by first | exact .inl rfl | exact .inr (.inl rfl) | exact .inr (.inr rfl)))))) a_nil)))))
end
def pic_House_total : Sy := (sRet (eCall dSum (aCons (eNew (lComp [1] (iDk (eFd ["House"] "own_numbers" (eVar 0))) (gN 1) tYesD (eDix (eFd ["House"] "own_numbers" (eVar 0)) (eVar 1)))) aNil)))
def sh_House_total : List D → Store → R D := runD 1 1 pic_House_total
section
variable {w : World} {K : PySem.W.Frag} {mg : Str → Option Value} {base : Heap}
theorem fo_House_total (T : Tx K mg) : Fo PP w K mg base (getOf K (He.ga K "House") "total") 1 ["self"] (spSh K sh_House_total) := by
  exact fo_sh (f := pic_House_total) T.d_House_total sc_House_total (fun _ _ _ _ _ _ us hl => match us, hl with | [_], _ => rfl) rfl rfl (fun _ => trivial) (fun cdv A outer s H E hr => (ss_one (s_ret (x_callB (calls_sum rfl rfl) (by rfl) T.n_sum (by decide +kernel) (a_cons (x_new (f_comp (own := [("bay", 1)]) rfl sc_House_total.nd (i_dk rfl (x_fld (cs := ["House"]) rfl (fk_cons T.cl_House T.na_House_own_numbers fk_nil) (x_var (i := 0) rfl (by first | exact .inl rfl | exact .inr (.inl rfl) | exact .inr (.inr rfl))))) (blkOk_by (N := ["self", "bay"]) (sc := defScope s_House_total) (by decide +kernel)) (fun _ _ _ _ _ => (g_name (i := 1) sc_House_total.nd rfl (by first | exact .inl rfl | exact .inr rfl))) (fun _ _ _ _ _ => ts_nil) (fun _ _ _ _ _ => (x_dix rfl (room65 hr) (x_fld (cs := ["House"]) rfl (fk_cons T.cl_House T.na_House_own_numbers fk_nil) (x_var (i := 0) rfl (by first | exact .inl rfl | exact .inr (.inl rfl) | exact .inr (.inr rfl)))) (x_var (i := 1) rfl (by first | exact .inl rfl | exact .inr (.inl rfl) | exact .inr (.inr rfl))) (fun _ _ => rfl))))) a_nil)))))
end
def pic_House_getitem : Sy := (sSeq (sDrop (eDf sh_need_name (aCons (eVar 1) aNil)))
    (sRet (eGet2 (eFd ["House"] "own_numbers" (eVar 0)) (eVar 1) (eC (.int 0)))))
def sh_House_getitem : List D → Store → R D := runD 2 0 pic_House_getitem
section
variable {w : World} {K : PySem.W.Frag} {mg : Str → Option Value} {base : Heap}
theorem fo_House_getitem (T : Tx K mg) : Fo PP w K mg base (He.ma K (He.ga K "House") "__getitem__") 4 ["self", "bay"] (spSh K sh_House_getitem) := by
  have G_need_name : Df PP w K mg base "need_name" 3 _ _ := df_need_name T
  exact fo_sh (f := pic_House_getitem) T.d_House_getitem sc_House_getitem (fun _ _ _ _ _ _ us hl => match us, hl with | [_, _], _ => rfl) rfl rfl (fun _ => trivial) (fun cdv A outer s H E hr => (ss_cons (s_expr (x_df G_need_name shp_sh hr (by decide) (by rfl) (takes_of rfl rfl rfl rfl) (a_cons (x_var (i := 1) rfl (by first | exact .inl rfl | exact .inr (.inl rfl) | exact .inr (.inr rfl))) a_nil)))
    (ss_one (s_ret (x_get2 rfl (room65 hr) (x_fld (cs := ["House"]) rfl (fk_cons T.cl_House T.na_House_own_numbers fk_nil) (x_var (i := 0) rfl (by first | exact .inl rfl | exact .inr (.inl rfl) | exact .inr (.inr rfl)))) (x_var (i := 1) rfl (by first | exact .inl rfl | exact .inr (.inl rfl) | exact .inr (.inr rfl))) x_int ⟨rfl, rfl, rfl, rfl⟩)))))
end
def pic_House_contains : Sy := (sRet (eAd (eIsi ["str"] [("House", false)] (eVar 1)) (eDin false (eVar 1) (eFd ["House"] "own_numbers" (eVar 0)))))
def sh_House_contains : List D → Store → R D := runD 2 0 pic_House_contains
section
variable {w : World} {K : PySem.W.Frag} {mg : Str → Option Value} {base : Heap}
theorem fo_House_contains (T : Tx K mg) : Fo PP w K mg base (He.ma K (He.ga K "House") "__contains__") 1 ["self", "bay"] (spSh K sh_House_contains) := by
  exact fo_sh (f := pic_House_contains) T.d_House_contains sc_House_contains (fun _ _ _ _ _ _ us hl => match us, hl with | [_, _], _ => rfl) rfl rfl (fun _ => trivial) (fun cdv A outer s H E hr => (ss_one (s_ret (x_and (x_isi (bi := ["str"]) (own := [("House", false)]) rfl (by rfl) T.n_isinstance (x_var (i := 1) rfl (by first | exact .inl rfl | exact .inr (.inl rfl) | exact .inr (.inr rfl))) (pe_bltn (v := .ty "str") (u := .type "str") (by rfl) T.n_str (by decide +kernel) rfl) ⟨(io_b (by decide +kernel)), (oo_cons T.cl_House T.in_House T.kt_House_str_f oo_nil)⟩ (.ty _)) (x_one (x_din (room65 hr) (x_var (i := 1) rfl (by first | exact .inl rfl | exact .inr (.inl rfl) | exact .inr (.inr rfl))) (x_fld (cs := ["House"]) rfl (fk_cons T.cl_House T.na_House_own_numbers fk_nil) (x_var (i := 0) rfl (by first | exact .inl rfl | exact .inr (.inl rfl) | exact .inr (.inr rfl))))))))))
end
def pic_House_len : Sy := (sRet (eLenD (eFd ["House"] "own_numbers" (eVar 0))))
def sh_House_len : List D → Store → R D := runD 1 0 pic_House_len
section
variable {w : World} {K : PySem.W.Frag} {mg : Str → Option Value} {base : Heap}
theorem fo_House_len (T : Tx K mg) : Fo PP w K mg base (He.ma K (He.ga K "House") "__len__") 1 ["self"] (spSh K sh_House_len) := by
  exact fo_sh (f := pic_House_len) T.d_House_len sc_House_len (fun _ _ _ _ _ _ us hl => match us, hl with | [_], _ => rfl) rfl rfl (fun _ => trivial) (fun cdv A outer s H E hr => (ss_one (s_ret (x_lenD (by rfl) T.n_len (x_fld (cs := ["House"]) rfl (fk_cons T.cl_House T.na_House_own_numbers fk_nil) (x_var (i := 0) rfl (by first | exact .inl rfl | exact .inr (.inl rfl) | exact .inr (.inr rfl))))))))
end
def pic_House_bool : Sy := (sRet (eCallE cBoolD (aCons (eFd ["House"] "own_numbers" (eVar 0)) aNil)))
def sh_House_bool : List D → Store → R D := runD 1 0 pic_House_bool
section
variable {w : World} {K : PySem.W.Frag} {mg : Str → Option Value} {base : Heap}
theorem fo_House_bool (T : Tx K mg) : Fo PP w K mg base (He.ma K (He.ga K "House") "__bool__") 1 ["self"] (spSh K sh_House_bool) := by
  exact fo_sh (f := pic_House_bool) T.d_House_bool sc_House_bool (fun _ _ _ _ _ _ us hl => match us, hl with | [_], _ => rfl) rfl rfl (fun _ => trivial) (fun cdv A outer s H E hr => (ss_one (s_ret (x_callTE (ce_boolD rfl) (by rfl) T.n_bool (by decide +kernel) (a_cons (x_fld (cs := ["House"]) rfl (fk_cons T.cl_House T.na_House_own_numbers fk_nil) (x_var (i := 0) rfl (by first | exact .inl rfl | exact .inr (.inl rfl) | exact .inr (.inr rfl)))) a_nil)))))
end
def pic_House_eq : Sy := (sRet (eAd (eIsiC [] [("House", true)] (eVar 1)) (eBinE (oEqD false) (eFd ["House"] "own_numbers" (eVar 0)) (eFd ["House"] "own_numbers" (eVar 1)))))
def sh_House_eq : List D → Store → R D := runD 2 0 pic_House_eq
section
variable {w : World} {K : PySem.W.Frag} {mg : Str → Option Value} {base : Heap}
theorem fo_House_eq (T : Tx K mg) : Fo PP w K mg base (He.ma K (He.ga K "House") "__eq__") 1 ["self", "other"] (spSh K sh_House_eq) := by
  exact fo_sh (f := pic_House_eq) T.d_House_eq sc_House_eq (fun _ _ _ _ _ _ us hl => match us, hl with | [_, _], _ => rfl) rfl rfl (fun _ => trivial) (fun cdv A outer s H E hr => (ss_one (s_ret (x_and (x_isiC (bi := []) (own := [("House", true)]) rfl (by rfl) T.n_isinstance (x_var (i := 1) rfl (by first | exact .inl rfl | exact .inr (.inl rfl) | exact .inr (.inr rfl))) (pe_glob (v := .ref _) (by rfl) T.g_House rfl) ⟨(io_own T.kts_House), (oo_cons T.cl_House T.in_House T.kt_House_House_t oo_nil)⟩ (.own _)) (x_one (x_cmpE (oe_eqD rfl (room65 hr)) (x_fld (cs := ["House"]) rfl (fk_cons T.cl_House T.na_House_own_numbers fk_nil) (x_var (i := 0) rfl (by first | exact .inl rfl | exact .inr (.inl rfl) | exact .inr (.inr rfl)))) (x_fld (cs := ["House"]) rfl (fk_cons T.cl_House T.na_House_own_numbers fk_nil) (x_var (i := 1) rfl (by first | exact .inl rfl | exact .inr (.inl rfl) | exact .inr (.inr rfl)))) (nomark _)))))))
end
def pic_House_str : Sy := (sSeq (sIf (tVal (eBin dEq (eLenD (eFd ["House"] "own_numbers" (eVar 0))) (eC (.int 0))))
    (sRet (eC (.str "none")))
    sNil)
    (sRet (eM1 dJoin (eC (.str " ")) (eNew (lComp [1, 2] (iDit (eFd ["House"] "own_numbers" (eVar 0))) (gT (gsCons (gN 1) (gsCons (gN 2) gsNil))) tYesD (eJs [(eFmt (eVar 1)), (eC (.str " ")), (eFmt (eVar 2))] Str.empty))))))
def sh_House_str : List D → Store → R D := runD 1 2 pic_House_str
section
variable {w : World} {K : PySem.W.Frag} {mg : Str → Option Value} {base : Heap}
theorem fo_House_str (T : Tx K mg) : Fo PP w K mg base (He.ma K (He.ga K "House") "__str__") 1 ["self"] (spSh K sh_House_str) := by
  exact fo_sh (f := pic_House_str) T.d_House_str sc_House_str (fun _ _ _ _ _ _ us hl => match us, hl with | [_], _ => rfl) rfl rfl (fun _ => trivial) (fun cdv A outer s H E hr => (ss_cons (s_if (t_cmp (ops_eqP rfl (room64 hr)) (x_lenD (by rfl) T.n_len (x_fld (cs := ["House"]) rfl (fk_cons T.cl_House T.na_House_own_numbers fk_nil) (x_var (i := 0) rfl (by first | exact .inl rfl | exact .inr (.inl rfl) | exact .inr (.inr rfl))))) x_int (nomark _))
    (ss_one (s_ret x_str))
    ss_nil)
    (ss_one (s_ret (x_m1 PySem.F.slot_str_join PySem.F.type_str_join (mts_join rfl) x_str (x_new (f_comp (own := [("bay", 1), ("number", 2)]) rfl sc_House_str.nd (i_dit rfl (x_fld (cs := ["House"]) rfl (fk_cons T.cl_House T.na_House_own_numbers fk_nil) (x_var (i := 0) rfl (by first | exact .inl rfl | exact .inr (.inl rfl) | exact .inr (.inr rfl))))) (blkOk_by (N := ["self", "bay", "number"]) (sc := defScope s_House_str) (by decide +kernel)) (fun _ _ _ _ _ => (g_tup rfl rfl (gs_cons (g_name (i := 1) sc_House_str.nd rfl (by first | exact .inl rfl | exact .inr rfl)) (gs_cons (g_name (i := 2) sc_House_str.nd rfl (by first | exact .inl rfl | exact .inr rfl)) gs_nil)) (gl_cons (gl_cons gl_nil)))) (fun _ _ _ _ _ => ts_nil) (fun _ _ _ _ _ => (x_js (.cons (x_fmt (x_var (i := 1) rfl (by first | exact .inl rfl | exact .inr (.inl rfl) | exact .inr (.inr rfl)))) (.cons x_str (.cons (x_fmt (x_var (i := 2) rfl (by first | exact .inl rfl | exact .inr (.inl rfl) | exact .inr (.inr rfl)))) .nil))))))))))))
end
section
variable {w : World} {K : PySem.W.Frag} {mg : Str → Option Value} {base : Heap}
theorem fi_House_iter (T : Tx K mg) : FoD PP w K mg base (He.ma K (He.ga K "House") "__iter__") 2 (He.ga K "House") "own_numbers" :=
  fod_mk (k := 1) T.d_House_iter sc_House_iter rfl (fun _ _ _ _ _ _ us hl => match us, hl with | [_], _ => rfl) T.cl_House T.na_House_own_numbers (fun cdv A outer s H E hr => pss_one (ps_ret (pe_callB call_iterD (by rfl) T.n_iter (by decide +kernel) (pa_cons (pe_fld (pv 0) rfl) pa_nil))))
end
section
variable {w : World} {K : PySem.W.Frag} {mg : Str → Option Value} {base : Heap}
theorem fk_House_of (T : Tx K mg) : FsK PP w K mg base (cmOf K (He.ga K "House") "of") 7 ["table"] (fun vs H Q E => ∃ x zs, vs = x :: zs ∧ spSh K sh_House_of (x :: zs) H Q E) := by
  have G_House_init : Fs PP w K mg base (He.ma K (He.ga K "House") "__init__") 5 _ := fs_House_init T
  exact fsK_mk (fok_mk (ks := ["table"]) (ps := ["cls", "table"]) (n := 1) (sp := spSh K sh_House_of) (g := fun vs zs => vs ++ zs) T.d_House_of (fun r1 r2 => r1.append r2) (fun _ _ _ _ _ _ us ws h1 h2 => match us, h1, ws, h2 with | [_], _, [_], _ => rfl) (fun fd F => F.ok sc_House_of (fun vs H Q E h => spSh_len h) (fun cdv A outer s H vs Q E hr h => body_of (f := pic_House_of) (fun _ => trivial) rfl ((ss_one (s_ret (x_mk (c := "House") rfl (x_var (i := 0) rfl (by first | exact .inl rfl | exact .inr (.inl rfl) | exact .inr (.inr rfl))) T.mk_House G_House_init (shi_star 0 (shi_kwd shi_in)) hr (by decide) (takes_of rfl rfl rfl rfl) (a_cons (x_var (i := 1) rfl (by first | exact .inl rfl | exact .inr (.inl rfl) | exact .inr (.inr rfl))) a_nil))))) h)))
end
section
variable {w : World} {K : PySem.W.Frag} {mg : Str → Option Value} {base : Heap}
theorem fkd_House_init_Dx (T : Tx K mg) : FsKD PP w K mg base (He.ma K (He.ga K "House") "__init__") 5 ["x"] (kwdSpK ["x"] (spIn K sh_House_init)) := by
  have G_numbers_of : Df PP w K mg base "numbers_of" 4 _ _ := df_numbers_of T
  refine fs_starkwK (p1 := "self") (pv := "tables") (pd := "places") (ks := ["x"]) T.d_House_init sc_House_init (by decide +kernel) (by decide) (fun kV doc pm an cdv ct u0 us hl => match us, hl with | [_], _ => rfl) (fun cdv A outer s H E hr vs H2 Q h => ?_)
  refine bodyI_of (f := pic_House_init) (fun _ => trivial) rfl ?_ h
  exact (ss_cons (s_set (i := 3) sc_House_init.nd rfl (by first | exact .inl rfl | exact .inr rfl) (x_callB (calls_sorted rfl) (by rfl) T.n_sorted (by decide +kernel) (a_cons (x_new (f_comp (own := [("name", 4)]) rfl sc_House_init.nd (i_dk rfl (x_var (i := 2) rfl (by first | exact .inl rfl | exact .inr (.inl rfl) | exact .inr (.inr rfl)))) (blkOk_by (N := ["self", "tables", "places", "names", "name"]) (sc := defScope s_House_init) (by decide +kernel)) (fun _ _ _ _ _ => (g_name (i := 4) sc_House_init.nd rfl (by first | exact .inl rfl | exact .inr rfl))) (fun _ _ _ _ _ => ts_nil) (fun _ _ _ _ _ => (x_callT calls_str (by rfl) T.n_str (by decide +kernel) (a_cons (x_var (i := 4) rfl (by first | exact .inl rfl | exact .inr (.inl rfl) | exact .inr (.inr rfl))) a_nil))))) a_nil)))
    (ss_one (s_fdO (c := "House") rfl rfl (.inl rfl) T.cl_House T.na_House_own_numbers (x_df G_numbers_of shp_sh hr (by decide) (by rfl) (takes_of rfl rfl rfl rfl) (a_cons (x_if (t_cmp (ops_gt rfl) (x_callB (calls_len rfl) (by rfl) T.n_len (by decide +kernel) (a_cons (x_var (i := 1) rfl (by first | exact .inl rfl | exact .inr (.inl rfl) | exact .inr (.inr rfl))) a_nil)) x_int (nomark _)) (x_ix rfl (x_var (i := 1) rfl (by first | exact .inl rfl | exact .inr (.inl rfl) | exact .inr (.inr rfl))) x_int (fun _ _ => rfl)) (x_newD (fd_comp (own := [("name", 4)]) rfl sc_House_init.nd (i_seq rfl (x_var (i := 3) rfl (by first | exact .inl rfl | exact .inr (.inl rfl) | exact .inr (.inr rfl)))) (blkOk_by (N := ["self", "tables", "places", "names", "name"]) (sc := defScope s_House_init) (by decide +kernel)) (fun _ _ _ _ _ => (g_name (i := 4) sc_House_init.nd rfl (by first | exact .inl rfl | exact .inr rfl))) (fun _ _ _ _ _ => ts_nil) (fun _ _ _ _ _ => (x_var (i := 4) rfl (by first | exact .inl rfl | exact .inr (.inl rfl) | exact .inr (.inr rfl)))) (fun _ _ _ _ _ => (x_dix rfl (room65 hr) (x_var (i := 2) rfl (by first | exact .inl rfl | exact .inr (.inl rfl) | exact .inr (.inr rfl))) (x_var (i := 4) rfl (by first | exact .inl rfl | exact .inr (.inl rfl) | exact .inr (.inr rfl))) (fun _ _ => rfl)))))) a_nil)))))
end
section
variable {w : World} {K : PySem.W.Frag} {mg : Str → Option Value} {base : Heap}
theorem fkd_House_init_Dx_north_c (T : Tx K mg) : FsKD PP w K mg base (He.ma K (He.ga K "House") "__init__") 5 ["x", "north", "c"] (kwdSpK ["x", "north", "c"] (spIn K sh_House_init)) := by
  have G_numbers_of : Df PP w K mg base "numbers_of" 4 _ _ := df_numbers_of T
  refine fs_starkwK (p1 := "self") (pv := "tables") (pd := "places") (ks := ["x", "north", "c"]) T.d_House_init sc_House_init (by decide +kernel) (by decide) (fun kV doc pm an cdv ct u0 us hl => match us, hl with | [_, _, _], _ => rfl) (fun cdv A outer s H E hr vs H2 Q h => ?_)
  refine bodyI_of (f := pic_House_init) (fun _ => trivial) rfl ?_ h
  exact (ss_cons (s_set (i := 3) sc_House_init.nd rfl (by first | exact .inl rfl | exact .inr rfl) (x_callB (calls_sorted rfl) (by rfl) T.n_sorted (by decide +kernel) (a_cons (x_new (f_comp (own := [("name", 4)]) rfl sc_House_init.nd (i_dk rfl (x_var (i := 2) rfl (by first | exact .inl rfl | exact .inr (.inl rfl) | exact .inr (.inr rfl)))) (blkOk_by (N := ["self", "tables", "places", "names", "name"]) (sc := defScope s_House_init) (by decide +kernel)) (fun _ _ _ _ _ => (g_name (i := 4) sc_House_init.nd rfl (by first | exact .inl rfl | exact .inr rfl))) (fun _ _ _ _ _ => ts_nil) (fun _ _ _ _ _ => (x_callT calls_str (by rfl) T.n_str (by decide +kernel) (a_cons (x_var (i := 4) rfl (by first | exact .inl rfl | exact .inr (.inl rfl) | exact .inr (.inr rfl))) a_nil))))) a_nil)))
    (ss_one (s_fdO (c := "House") rfl rfl (.inl rfl) T.cl_House T.na_House_own_numbers (x_df G_numbers_of shp_sh hr (by decide) (by rfl) (takes_of rfl rfl rfl rfl) (a_cons (x_if (t_cmp (ops_gt rfl) (x_callB (calls_len rfl) (by rfl) T.n_len (by decide +kernel) (a_cons (x_var (i := 1) rfl (by first | exact .inl rfl | exact .inr (.inl rfl) | exact .inr (.inr rfl))) a_nil)) x_int (nomark _)) (x_ix rfl (x_var (i := 1) rfl (by first | exact .inl rfl | exact .inr (.inl rfl) | exact .inr (.inr rfl))) x_int (fun _ _ => rfl)) (x_newD (fd_comp (own := [("name", 4)]) rfl sc_House_init.nd (i_seq rfl (x_var (i := 3) rfl (by first | exact .inl rfl | exact .inr (.inl rfl) | exact .inr (.inr rfl)))) (blkOk_by (N := ["self", "tables", "places", "names", "name"]) (sc := defScope s_House_init) (by decide +kernel)) (fun _ _ _ _ _ => (g_name (i := 4) sc_House_init.nd rfl (by first | exact .inl rfl | exact .inr rfl))) (fun _ _ _ _ _ => ts_nil) (fun _ _ _ _ _ => (x_var (i := 4) rfl (by first | exact .inl rfl | exact .inr (.inl rfl) | exact .inr (.inr rfl)))) (fun _ _ _ _ _ => (x_dix rfl (room65 hr) (x_var (i := 2) rfl (by first | exact .inl rfl | exact .inr (.inl rfl) | exact .inr (.inr rfl))) (x_var (i := 4) rfl (by first | exact .inl rfl | exact .inr (.inl rfl) | exact .inr (.inr rfl))) (fun _ _ => rfl)))))) a_nil)))))
end
section
variable {w : World} {K : PySem.W.Frag} {mg : Str → Option Value} {base : Heap}
theorem fk_House_put_Knumber_bay (T : Tx K mg) : FsK PP w K mg base (He.ma K (He.ga K "House") "put") 7 ["number", "bay"] (fun vs H Q E => ∃ x zs, vs = x :: zs ∧ spSh K sh_House_put (x :: prm [1, 0] zs) H Q E) := by
  have G_House_init : Fs PP w K mg base (He.ma K (He.ga K "House") "__init__") 5 _ := fs_House_init T
  have G_need_number : Df PP w K mg base "need_number" 4 _ _ := df_need_number T
  have G_need_name : Df PP w K mg base "need_name" 3 _ _ := df_need_name T
  exact fsK_mk (fok_mk (ks := ["number", "bay"]) (ps := ["self", "bay", "number"]) (n := 1) (sp := spSh K sh_House_put) (g := fun vs zs => vs ++ prm [1, 0] zs) T.d_House_put (fun r1 r2 => r1.append (vals_prm r2 [1, 0])) (fun _ _ _ _ _ _ us ws h1 h2 => match us, h1, ws, h2 with | [_], _, [_, _], _ => rfl) (fun fd F => F.ok sc_House_put (fun vs H Q E h => spSh_len h) (fun cdv A outer s H vs Q E hr h => body_of (f := pic_House_put) (fun _ => trivial) rfl ((ss_cons (s_expr (x_df G_need_name shp_sh hr (by decide) (by rfl) (takes_of rfl rfl rfl rfl) (a_cons (x_var (i := 1) rfl (by first | exact .inl rfl | exact .inr (.inl rfl) | exact .inr (.inr rfl))) a_nil)))
    (ss_cons (s_expr (x_df G_need_number shp_sh hr (by decide) (by rfl) (takes_of rfl rfl rfl rfl) (a_cons (x_var (i := 2) rfl (by first | exact .inl rfl | exact .inr (.inl rfl) | exact .inr (.inr rfl))) a_nil)))
    (ss_one (s_ret (x_mk (c := "House") rfl (x_cls rfl (by rfl) T.g_House) T.mk_House G_House_init (shi_star 0 (shi_kwd shi_in)) hr (by decide) (takes_of rfl rfl rfl rfl) (a_cons (x_newD (fd_dstar (x_fld (cs := ["House"]) rfl (fk_cons T.cl_House T.na_House_own_numbers fk_nil) (x_var (i := 0) rfl (by first | exact .inl rfl | exact .inr (.inl rfl) | exact .inr (.inr rfl)))) (pp_cons (x_var (i := 1) rfl (by first | exact .inl rfl | exact .inr (.inl rfl) | exact .inr (.inr rfl))) (x_var (i := 2) rfl (by first | exact .inl rfl | exact .inr (.inl rfl) | exact .inr (.inr rfl))) pp_nil))) a_nil))))))) h)))
end
end Nk
namespace Nk
open PySem PySem.Spec PyProof.Rows L2 Sh
def pic__law_pen : Sy := (sRet (eLstC (aCons (eCall dList (aCons (eSl (eVar 0) pNo (pSo (eC (.int 63)))) aNil)) (aCons (eC (.int 0)) (aCons (eC (.int 0)) aNil)))))
def sh__law_pen : List D → Store → R D := runD 1 0 pic__law_pen
section
variable {w : World} {K : PySem.W.Frag} {mg : Str → Option Value} {base : Heap}
theorem df__law_pen (T : Tx K mg) : Df PP w K mg base "_law_pen" 1 ["_law_script"] (spSh K sh__law_pen) := by
  obtain ⟨f, F, hm⟩ := T.d__law_pen
  exact df_sh (f := pic__law_pen) F hm sc__law_pen (fun _ _ _ _ _ _ us hl => match us, hl with | [_], _ => rfl) rfl rfl (fun _ => trivial) (fun cdv A outer s H E hr => (ss_one (s_ret (x_lstC (a_cons (x_callT (calls_list rfl) (by rfl) T.n_list (by decide +kernel) (a_cons (x_sl rfl (x_var (i := 0) rfl (by first | exact .inl rfl | exact .inr (.inl rfl) | exact .inr (.inr rfl))) p_no (p_so x_int)) a_nil)) (a_cons x_int (a_cons x_int a_nil)))))))
end
def pic__law_draw_mix : Sy := (sSeq (sSet 6 (eBin dMod (eCall dInt (aCons (eBin dPow (eBin dAdd (eBin dAdd (eBin dMod (eCall dInt (aCons (eVar 4) aNil)) (eC (.int 2147483563))) (eBin dMul (eC (.int 1423)) (eVar 3))) (eC (.int 1109))) (eC (.int 5))) aNil)) (eC (.int 2147483629))))
    (sSeq (sSet 6 (eBin dMod (eCall dInt (aCons (eBin dPow (eBin dAdd (eBin dAdd (eBin dMul (eVar 6) (eBin dAdd (eBin dMul (eC (.int 2)) (eVar 3)) (eC (.int 67)))) (eBin dMul (eBin dMul (eC (.int 7561)) (eVar 3)) (eVar 3))) (eC (.int 31907))) (eC (.int 3))) aNil)) (eC (.int 2147483587))))
    (sRet (eBin dMod (eCall dInt (aCons (eBin dFdiv (eVar 6) (eC (.int 32))) aNil)) (eVar 1)))))
def pic__law_draw_tail : Sy := (sSeq (sIf (tAd (tVal (eBin dLt (eVar 3) (eCall dLen (aCons (eIx (eVar 0) (eC (.int 0))) aNil)))) (tVal (eBin dGe (eCall dAbs (aCons (eVar 4) aNil)) (eBin dPow (eC (.int 10)) (eC (.int 18))))))
    (sSeq (sSet 5 (eBin dAdd (eBin dMul (eC (.int 2)) (eBin dSub (eCall dAbs (aCons (eVar 4) aNil)) (eBin dPow (eC (.int 10)) (eC (.int 18))))) (eCall dInt (aCons (eBin dLt (eVar 4) (eC (.int 0))) aNil))))
    (sSeq (sIxC (eVar 0) (eC (.int 2)) (eBin dFdiv (eCall dInt (aCons (eVar 5) aNil)) (eVar 1)))
    (sRet (eBin dMod (eCall dInt (aCons (eVar 5) aNil)) (eVar 1)))))
    sNil)
    pic__law_draw_mix)
def pic__law_draw : Sy := (sSeq (sIf (tVal (eBin dGt (eIx (eVar 0) (eC (.int 2))) (eC (.int 0))))
    (sSeq (sSet 2 (eBin dMod (eCall dInt (aCons (eIx (eVar 0) (eC (.int 2))) aNil)) (eVar 1)))
    (sSeq (sIxC (eVar 0) (eC (.int 2)) (eBin dFdiv (eCall dInt (aCons (eIx (eVar 0) (eC (.int 2))) aNil)) (eVar 1)))
    (sRet (eVar 2))))
    sNil)
    (sSeq (sSet 3 (eIx (eVar 0) (eC (.int 1))))
    (sSeq (sIxC (eVar 0) (eC (.int 1)) (eBin dAdd (eVar 3) (eC (.int 1))))
    (sSeq (sSet 4 (eBin dAdd (eBin dMul (eC (.int 31907)) (eVar 3)) (eC (.int 1109))))
    (sSeq (sIf (tVal (eBin dNe (eIx (eVar 0) (eC (.int 0))) (eLst aNil)))
    (sSet 4 (eIx (eIx (eVar 0) (eC (.int 0))) (eBin dMod (eCall dInt (aCons (eVar 3) aNil)) (eCall dLen (aCons (eIx (eVar 0) (eC (.int 0))) aNil)))))
    sNil)
    pic__law_draw_tail)))))
def sh__law_draw : List D → Store → R D := runD 2 5 pic__law_draw
section
variable {w : World} {K : PySem.W.Frag} {mg : Str → Option Value} {base : Heap}
theorem df__law_draw (T : Tx K mg) : Df PP w K mg base "_law_draw" 1 ["_law_pen_here", "_law_many"] (spSh K sh__law_draw) := by
  obtain ⟨f, F, hm⟩ := T.d__law_draw
  exact df_sh (f := pic__law_draw) F hm sc__law_draw (fun _ _ _ _ _ _ us hl => match us, hl with | [_, _], _ => rfl) rfl rfl (fun _ => trivial) (fun cdv A outer s H E hr => (ss_cons (s_if (t_cmp (ops_gt rfl) (x_ix rfl (x_var (i := 0) rfl (by first | exact .inl rfl | exact .inr (.inl rfl) | exact .inr (.inr rfl))) x_int (fun _ _ => rfl)) x_int (nomark _))
    (ss_cons (s_set (i := 2) sc__law_draw.nd rfl (by first | exact .inl rfl | exact .inr rfl) (x_op (ops_mod rfl) (x_callT calls_int (by rfl) T.n_int (by decide +kernel) (a_cons (x_ix rfl (x_var (i := 0) rfl (by first | exact .inl rfl | exact .inr (.inl rfl) | exact .inr (.inr rfl))) x_int (fun _ _ => rfl)) a_nil)) (x_var (i := 1) rfl (by first | exact .inl rfl | exact .inr (.inl rfl) | exact .inr (.inr rfl)))))
    (ss_cons (s_ixC (x_var (i := 0) rfl (by first | exact .inl rfl | exact .inr (.inl rfl) | exact .inr (.inr rfl))) x_int (x_op (ops_fdiv rfl) (x_callT calls_int (by rfl) T.n_int (by decide +kernel) (a_cons (x_ix rfl (x_var (i := 0) rfl (by first | exact .inl rfl | exact .inr (.inl rfl) | exact .inr (.inr rfl))) x_int (fun _ _ => rfl)) a_nil)) (x_var (i := 1) rfl (by first | exact .inl rfl | exact .inr (.inl rfl) | exact .inr (.inr rfl)))))
    (ss_one (s_ret (x_var (i := 2) rfl (by first | exact .inl rfl | exact .inr (.inl rfl) | exact .inr (.inr rfl)))))))
    ss_nil)
    (ss_cons (s_set (i := 3) sc__law_draw.nd rfl (by first | exact .inl rfl | exact .inr rfl) (x_ix rfl (x_var (i := 0) rfl (by first | exact .inl rfl | exact .inr (.inl rfl) | exact .inr (.inr rfl))) x_int (fun _ _ => rfl)))
    (ss_cons (s_ixC (x_var (i := 0) rfl (by first | exact .inl rfl | exact .inr (.inl rfl) | exact .inr (.inr rfl))) x_int (x_op (ops_add rfl) (x_var (i := 3) rfl (by first | exact .inl rfl | exact .inr (.inl rfl) | exact .inr (.inr rfl))) x_int))
    (ss_cons (s_set (i := 4) sc__law_draw.nd rfl (by first | exact .inl rfl | exact .inr rfl) (x_op (ops_add rfl) (x_op (ops_mul rfl) x_int (x_var (i := 3) rfl (by first | exact .inl rfl | exact .inr (.inl rfl) | exact .inr (.inr rfl)))) x_int))
    (ss_cons (s_if (t_cmp (ops_neP rfl (room64 hr)) (x_ix rfl (x_var (i := 0) rfl (by first | exact .inl rfl | exact .inr (.inl rfl) | exact .inr (.inr rfl))) x_int (fun _ _ => rfl)) (x_lst a_nil) (nomark _))
    (ss_one (s_set (i := 4) sc__law_draw.nd rfl (by first | exact .inl rfl | exact .inr rfl) (x_ix rfl (x_ix rfl (x_var (i := 0) rfl (by first | exact .inl rfl | exact .inr (.inl rfl) | exact .inr (.inr rfl))) x_int (fun _ _ => rfl)) (x_op (ops_mod rfl) (x_callT calls_int (by rfl) T.n_int (by decide +kernel) (a_cons (x_var (i := 3) rfl (by first | exact .inl rfl | exact .inr (.inl rfl) | exact .inr (.inr rfl))) a_nil)) (x_callB (calls_len rfl) (by rfl) T.n_len (by decide +kernel) (a_cons (x_ix rfl (x_var (i := 0) rfl (by first | exact .inl rfl | exact .inr (.inl rfl) | exact .inr (.inr rfl))) x_int (fun _ _ => rfl)) a_nil))) (fun _ _ => rfl))))
    ss_nil)
    (ss_cons (s_if (w_pt (w_and (t_cmp (ops_lt rfl) (x_var (i := 3) rfl (by first | exact .inl rfl | exact .inr (.inl rfl) | exact .inr (.inr rfl))) (x_callB (calls_len rfl) (by rfl) T.n_len (by decide +kernel) (a_cons (x_ix rfl (x_var (i := 0) rfl (by first | exact .inl rfl | exact .inr (.inl rfl) | exact .inr (.inr rfl))) x_int (fun _ _ => rfl)) a_nil)) (nomark _)) (w_and1 (t_cmp (ops_ge rfl) (x_callB calls_abs (by rfl) T.n_abs (by decide +kernel) (a_cons (x_var (i := 4) rfl (by first | exact .inl rfl | exact .inr (.inl rfl) | exact .inr (.inr rfl))) a_nil)) (x_op (ops_pow rfl) x_int x_int) (nomark _)))))
    (ss_cons (s_set (i := 5) sc__law_draw.nd rfl (by first | exact .inl rfl | exact .inr rfl) (x_op (ops_add rfl) (x_op (ops_mul rfl) x_int (x_op (ops_sub rfl) (x_callB calls_abs (by rfl) T.n_abs (by decide +kernel) (a_cons (x_var (i := 4) rfl (by first | exact .inl rfl | exact .inr (.inl rfl) | exact .inr (.inr rfl))) a_nil)) (x_op (ops_pow rfl) x_int x_int))) (x_callT calls_int (by rfl) T.n_int (by decide +kernel) (a_cons (x_cmp (ops_lt rfl) (x_var (i := 4) rfl (by first | exact .inl rfl | exact .inr (.inl rfl) | exact .inr (.inr rfl))) x_int (nomark _)) a_nil))))
    (ss_cons (s_ixC (x_var (i := 0) rfl (by first | exact .inl rfl | exact .inr (.inl rfl) | exact .inr (.inr rfl))) x_int (x_op (ops_fdiv rfl) (x_callT calls_int (by rfl) T.n_int (by decide +kernel) (a_cons (x_var (i := 5) rfl (by first | exact .inl rfl | exact .inr (.inl rfl) | exact .inr (.inr rfl))) a_nil)) (x_var (i := 1) rfl (by first | exact .inl rfl | exact .inr (.inl rfl) | exact .inr (.inr rfl)))))
    (ss_one (s_ret (x_op (ops_mod rfl) (x_callT calls_int (by rfl) T.n_int (by decide +kernel) (a_cons (x_var (i := 5) rfl (by first | exact .inl rfl | exact .inr (.inl rfl) | exact .inr (.inr rfl))) a_nil)) (x_var (i := 1) rfl (by first | exact .inl rfl | exact .inr (.inl rfl) | exact .inr (.inr rfl))))))))
    ss_nil)
    (ss_cons (s_set (i := 6) sc__law_draw.nd rfl (by first | exact .inl rfl | exact .inr rfl) (x_op (ops_mod rfl) (x_callT calls_int (by rfl) T.n_int (by decide +kernel) (a_cons (x_op (ops_pow rfl) (x_op (ops_add rfl) (x_op (ops_add rfl) (x_op (ops_mod rfl) (x_callT calls_int (by rfl) T.n_int (by decide +kernel) (a_cons (x_var (i := 4) rfl (by first | exact .inl rfl | exact .inr (.inl rfl) | exact .inr (.inr rfl))) a_nil)) x_int) (x_op (ops_mul rfl) x_int (x_var (i := 3) rfl (by first | exact .inl rfl | exact .inr (.inl rfl) | exact .inr (.inr rfl))))) x_int) x_int) a_nil)) x_int))
    (ss_cons (s_set (i := 6) sc__law_draw.nd rfl (by first | exact .inl rfl | exact .inr rfl) (x_op (ops_mod rfl) (x_callT calls_int (by rfl) T.n_int (by decide +kernel) (a_cons (x_op (ops_pow rfl) (x_op (ops_add rfl) (x_op (ops_add rfl) (x_op (ops_mul rfl) (x_var (i := 6) rfl (by first | exact .inl rfl | exact .inr (.inl rfl) | exact .inr (.inr rfl))) (x_op (ops_add rfl) (x_op (ops_mul rfl) x_int (x_var (i := 3) rfl (by first | exact .inl rfl | exact .inr (.inl rfl) | exact .inr (.inr rfl)))) x_int)) (x_op (ops_mul rfl) (x_op (ops_mul rfl) x_int (x_var (i := 3) rfl (by first | exact .inl rfl | exact .inr (.inl rfl) | exact .inr (.inr rfl)))) (x_var (i := 3) rfl (by first | exact .inl rfl | exact .inr (.inl rfl) | exact .inr (.inr rfl))))) x_int) x_int) a_nil)) x_int))
    (ss_one (s_ret (x_op (ops_mod rfl) (x_callT calls_int (by rfl) T.n_int (by decide +kernel) (a_cons (x_op (ops_fdiv rfl) (x_var (i := 6) rfl (by first | exact .inl rfl | exact .inr (.inl rfl) | exact .inr (.inr rfl))) x_int) a_nil)) (x_var (i := 1) rfl (by first | exact .inl rfl | exact .inr (.inl rfl) | exact .inr (.inr rfl)))))))))))))))
end
def pic__law_pick : Sy := (sRet (eIx (eVar 1) (eDf sh__law_draw (aCons (eVar 0) (aCons (eCall dLen (aCons (eVar 1) aNil)) aNil)))))
def sh__law_pick : List D → Store → R D := runD 2 0 pic__law_pick
section
variable {w : World} {K : PySem.W.Frag} {mg : Str → Option Value} {base : Heap}
theorem df__law_pick (T : Tx K mg) : Df PP w K mg base "_law_pick" 2 ["_law_pen_here", "_law_some"] (spSh K sh__law_pick) := by
  have G__law_draw : Df PP w K mg base "_law_draw" 1 _ _ := df__law_draw T
  obtain ⟨f, F, hm⟩ := T.d__law_pick
  exact df_sh (f := pic__law_pick) F hm sc__law_pick (fun _ _ _ _ _ _ us hl => match us, hl with | [_, _], _ => rfl) rfl rfl (fun _ => trivial) (fun cdv A outer s H E hr => (ss_one (s_ret (x_ix rfl (x_var (i := 1) rfl (by first | exact .inl rfl | exact .inr (.inl rfl) | exact .inr (.inr rfl))) (x_df G__law_draw shp_sh hr (by decide) (by rfl) (takes_of rfl rfl rfl rfl) (a_cons (x_var (i := 0) rfl (by first | exact .inl rfl | exact .inr (.inl rfl) | exact .inr (.inr rfl))) (a_cons (x_callB (calls_len rfl) (by rfl) T.n_len (by decide +kernel) (a_cons (x_var (i := 1) rfl (by first | exact .inl rfl | exact .inr (.inl rfl) | exact .inr (.inr rfl))) a_nil)) a_nil))) (fun _ _ => rfl)))))
end
def pic__law_word : Sy := (sSeq (sSet 1 (eDf sh__law_pick (aCons (eVar 0) (aCons (eLst (aCons (eC (.str "abcdefghijklmnopqrstuvwxyz")) (aCons (eC (.str "aby")) aNil))) aNil))))
    (sSeq (sSet 2 (eC (.str "")))
    (sSeq (sFor (iRng1 (aCons (eBin dAdd (eC (.int 1)) (eDf sh__law_draw (aCons (eVar 0) (aCons (eC (.int 8)) aNil)))) aNil)) (gN 3)
    (sSet 2 (eBin dAdd (eVar 2) (eDf sh__law_pick (aCons (eVar 0) (aCons (eVar 1) aNil))))))
    (sRet (eVar 2)))))
def sh__law_word : List D → Store → R D := runD 1 3 pic__law_word
section
variable {w : World} {K : PySem.W.Frag} {mg : Str → Option Value} {base : Heap}
theorem df__law_word (T : Tx K mg) : Df PP w K mg base "_law_word" 3 ["_law_pen_here"] (spSh K sh__law_word) := by
  have G__law_draw : Df PP w K mg base "_law_draw" 1 _ _ := df__law_draw T
  have G__law_pick : Df PP w K mg base "_law_pick" 2 _ _ := df__law_pick T
  obtain ⟨f, F, hm⟩ := T.d__law_word
  exact df_sh (f := pic__law_word) F hm sc__law_word (fun _ _ _ _ _ _ us hl => match us, hl with | [_], _ => rfl) rfl rfl (fun _ => trivial) (fun cdv A outer s H E hr => (ss_cons (s_set (i := 1) sc__law_word.nd rfl (by first | exact .inl rfl | exact .inr rfl) (x_df G__law_pick shp_sh hr (by decide) (by rfl) (takes_of rfl rfl rfl rfl) (a_cons (x_var (i := 0) rfl (by first | exact .inl rfl | exact .inr (.inl rfl) | exact .inr (.inr rfl))) (a_cons (x_lst (a_cons x_str (a_cons x_str a_nil))) a_nil))))
    (ss_cons (s_set (i := 2) sc__law_word.nd rfl (by first | exact .inl rfl | exact .inr rfl) x_str)
    (ss_cons (s_for (us := [3]) (passes_of rfl) rfl (i_rng1 (by rfl) T.n_range (a_cons (x_op (ops_add rfl) x_int (x_df G__law_draw shp_sh hr (by decide) (by rfl) (takes_of rfl rfl rfl rfl) (a_cons (x_var (i := 0) rfl (by first | exact .inl rfl | exact .inr (.inl rfl) | exact .inr (.inr rfl))) (a_cons x_int a_nil)))) a_nil)) (g_name (i := 3) sc__law_word.nd rfl (by first | exact .inl rfl | exact .inr rfl))
    (ss_one (s_set (i := 2) sc__law_word.nd rfl (by first | exact .inl rfl | exact .inr rfl) (x_op (ops_add rfl) (x_var (i := 2) rfl (by first | exact .inl rfl | exact .inr (.inl rfl) | exact .inr (.inr rfl))) (x_df G__law_pick shp_sh hr (by decide) (by rfl) (takes_of rfl rfl rfl rfl) (a_cons (x_var (i := 0) rfl (by first | exact .inl rfl | exact .inr (.inl rfl) | exact .inr (.inr rfl))) (a_cons (x_var (i := 1) rfl (by first | exact .inl rfl | exact .inr (.inl rfl) | exact .inr (.inr rfl))) a_nil)))))))
    (ss_one (s_ret (x_var (i := 2) rfl (by first | exact .inl rfl | exact .inr (.inl rfl) | exact .inr (.inr rfl)))))))))
end
def pic__law_number : Sy := (sSeq (sSet 1 (eDf sh__law_draw (aCons (eVar 0) (aCons (eC (.int 5)) aNil))))
    (sSeq (sIf (tVal (eBin dLt (eVar 1) (eC (.int 2))))
    (sRet (eBin dMul (eVar 1) (eBin dAdd (eC (.int 1)) (eDf sh__law_draw (aCons (eVar 0) (aCons (eC (.int 9)) aNil))))))
    sNil)
    (sRet (eIx (eLst (aCons (eC (.int 0)) (aCons (eBin dSub (eBin dSub (eBin dPow (eC (.int 10)) (eC (.int 60))) (eC (.int 1))) (eDf sh__law_draw (aCons (eVar 0) (aCons (eBin dPow (eC (.int 10)) (eC (.int 9))) aNil)))) (aCons (eDf sh__law_draw (aCons (eVar 0) (aCons (eBin dPow (eC (.int 10)) (eC (.int 60))) aNil))) aNil)))) (eBin dSub (eVar 1) (eC (.int 2)))))))
def sh__law_number : List D → Store → R D := runD 1 1 pic__law_number
section
variable {w : World} {K : PySem.W.Frag} {mg : Str → Option Value} {base : Heap}
theorem df__law_number (T : Tx K mg) : Df PP w K mg base "_law_number" 2 ["_law_pen_here"] (spSh K sh__law_number) := by
  have G__law_draw : Df PP w K mg base "_law_draw" 1 _ _ := df__law_draw T
  obtain ⟨f, F, hm⟩ := T.d__law_number
  exact df_sh (f := pic__law_number) F hm sc__law_number (fun _ _ _ _ _ _ us hl => match us, hl with | [_], _ => rfl) rfl rfl (fun _ => trivial) (fun cdv A outer s H E hr => (ss_cons (s_set (i := 1) sc__law_number.nd rfl (by first | exact .inl rfl | exact .inr rfl) (x_df G__law_draw shp_sh hr (by decide) (by rfl) (takes_of rfl rfl rfl rfl) (a_cons (x_var (i := 0) rfl (by first | exact .inl rfl | exact .inr (.inl rfl) | exact .inr (.inr rfl))) (a_cons x_int a_nil))))
    (ss_cons (s_if (t_cmp (ops_lt rfl) (x_var (i := 1) rfl (by first | exact .inl rfl | exact .inr (.inl rfl) | exact .inr (.inr rfl))) x_int (nomark _))
    (ss_one (s_ret (x_op (ops_mul rfl) (x_var (i := 1) rfl (by first | exact .inl rfl | exact .inr (.inl rfl) | exact .inr (.inr rfl))) (x_op (ops_add rfl) x_int (x_df G__law_draw shp_sh hr (by decide) (by rfl) (takes_of rfl rfl rfl rfl) (a_cons (x_var (i := 0) rfl (by first | exact .inl rfl | exact .inr (.inl rfl) | exact .inr (.inr rfl))) (a_cons x_int a_nil)))))))
    ss_nil)
    (ss_one (s_ret (x_ix rfl (x_lst (a_cons x_int (a_cons (x_op (ops_sub rfl) (x_op (ops_sub rfl) (x_op (ops_pow rfl) x_int x_int) x_int) (x_df G__law_draw shp_sh hr (by decide) (by rfl) (takes_of rfl rfl rfl rfl) (a_cons (x_var (i := 0) rfl (by first | exact .inl rfl | exact .inr (.inl rfl) | exact .inr (.inr rfl))) (a_cons (x_op (ops_pow rfl) x_int x_int) a_nil)))) (a_cons (x_df G__law_draw shp_sh hr (by decide) (by rfl) (takes_of rfl rfl rfl rfl) (a_cons (x_var (i := 0) rfl (by first | exact .inl rfl | exact .inr (.inl rfl) | exact .inr (.inr rfl))) (a_cons (x_op (ops_pow rfl) x_int x_int) a_nil))) a_nil)))) (x_op (ops_sub rfl) (x_var (i := 1) rfl (by first | exact .inl rfl | exact .inr (.inl rfl) | exact .inr (.inr rfl))) x_int) (fun _ _ => rfl)))))))
end
def pic__law_table : Sy := (sSeq (sSet 1 (eNewDC kNil))
    (sSeq (sFor (iRng1 (aCons (eDf sh__law_draw (aCons (eVar 0) (aCons (eC (.int 6)) aNil))) aNil)) (gN 2)
    (sSeq (sSet 3 (eDf sh__law_number (aCons (eVar 0) aNil)))
    (sDsC (eVar 1) (eDf sh__law_word (aCons (eVar 0) aNil)) (eVar 3))))
    (sRet (eVar 1))))
def sh__law_table : List D → Store → R D := runD 1 3 pic__law_table
section
variable {w : World} {K : PySem.W.Frag} {mg : Str → Option Value} {base : Heap}
theorem df__law_table (T : Tx K mg) : Df PP w K mg base "_law_table" 4 ["_law_pen_here"] (spSh K sh__law_table) := by
  have G__law_draw : Df PP w K mg base "_law_draw" 1 _ _ := df__law_draw T
  have G__law_word : Df PP w K mg base "_law_word" 3 _ _ := df__law_word T
  have G__law_number : Df PP w K mg base "_law_number" 2 _ _ := df__law_number T
  obtain ⟨f, F, hm⟩ := T.d__law_table
  exact df_sh (f := pic__law_table) F hm sc__law_table (fun _ _ _ _ _ _ us hl => match us, hl with | [_], _ => rfl) rfl rfl (fun _ => trivial) (fun cdv A outer s H E hr => (ss_cons (s_set (i := 1) sc__law_table.nd rfl (by first | exact .inl rfl | exact .inr rfl) (x_newDC fd_nil))
    (ss_cons (s_for (us := [2]) (passes_of rfl) rfl (i_rng1 (by rfl) T.n_range (a_cons (x_df G__law_draw shp_sh hr (by decide) (by rfl) (takes_of rfl rfl rfl rfl) (a_cons (x_var (i := 0) rfl (by first | exact .inl rfl | exact .inr (.inl rfl) | exact .inr (.inr rfl))) (a_cons x_int a_nil))) a_nil)) (g_name (i := 2) sc__law_table.nd rfl (by first | exact .inl rfl | exact .inr rfl))
    (ss_cons (s_set (i := 3) sc__law_table.nd rfl (by first | exact .inl rfl | exact .inr rfl) (x_df G__law_number shp_sh hr (by decide) (by rfl) (takes_of rfl rfl rfl rfl) (a_cons (x_var (i := 0) rfl (by first | exact .inl rfl | exact .inr (.inl rfl) | exact .inr (.inr rfl))) a_nil)))
    (ss_one (s_dsC rfl (room65 hr) (x_var (i := 1) rfl (by first | exact .inl rfl | exact .inr (.inl rfl) | exact .inr (.inr rfl))) (x_df G__law_word shp_sh hr (by decide) (by rfl) (takes_of rfl rfl rfl rfl) (a_cons (x_var (i := 0) rfl (by first | exact .inl rfl | exact .inr (.inl rfl) | exact .inr (.inr rfl))) a_nil)) (x_var (i := 3) rfl (by first | exact .inl rfl | exact .inr (.inl rfl) | exact .inr (.inr rfl)))))))
    (ss_one (s_ret (x_var (i := 1) rfl (by first | exact .inl rfl | exact .inr (.inl rfl) | exact .inr (.inr rfl))))))))
end
def pic__law_is_count : Sy := (sRet (eAd (eIsi ["bool", "int"] [] (eVar 0)) (eNt (eIsi ["bool"] [] (eVar 0)))))
def sh__law_is_count : List D → Store → R D := runD 1 0 pic__law_is_count
section
variable {w : World} {K : PySem.W.Frag} {mg : Str → Option Value} {base : Heap}
theorem df__law_is_count (T : Tx K mg) : Df PP w K mg base "_law_is_count" 1 ["_law_value"] (spSh K sh__law_is_count) := by
  obtain ⟨f, F, hm⟩ := T.d__law_is_count
  exact df_sh (f := pic__law_is_count) F hm sc__law_is_count (fun _ _ _ _ _ _ us hl => match us, hl with | [_], _ => rfl) rfl rfl (fun _ => trivial) (fun cdv A outer s H E hr => (ss_one (s_ret (x_and (x_isi (bi := ["bool", "int"]) (own := []) rfl (by rfl) T.n_isinstance (x_var (i := 0) rfl (by first | exact .inl rfl | exact .inr (.inl rfl) | exact .inr (.inr rfl))) (pe_bltn (v := .ty "int") (u := .type "int") (by rfl) T.n_int (by decide +kernel) rfl) ⟨(io_b (by decide +kernel)), oo_nil⟩ (.ty _)) (x_one (x_not (x_isi (bi := ["bool"]) (own := []) rfl (by rfl) T.n_isinstance (x_var (i := 0) rfl (by first | exact .inl rfl | exact .inr (.inl rfl) | exact .inr (.inr rfl))) (pe_bltn (v := .ty "bool") (u := .type "bool") (by rfl) T.n_bool (by decide +kernel) rfl) ⟨(io_b (by decide +kernel)), oo_nil⟩ (.ty _))))))))
end
def pic__law_tells : Sy := (sSeq (sSet 2 (eCall dSorted (aCons (eNew (lComp [8] (iDk (eVar 1)) (gN 8) (tVal (eBin dGt (eDix (eVar 1) (eVar 8)) (eC (.int 0)))) (eCall dStr (aCons (eVar 8) aNil)))) aNil)))
    (sSeq (sSet 3 (eBin dAdd (eNew (lComp [8] (iDk (eVar 1)) (gN 8) tYesD (eGi "House" sh_House_getitem (eVar 0) (eVar 8)))) (eLst (aCons (ePr "House" sh_House_total (eVar 0)) (aCons (eCallE (cLen "House" sh_House_len) (aCons (eVar 0) aNil)) aNil)))))
    (sSeq (sIf (tOo (tVal (eBin dNe (eNew (lComp [4] (iSq (eVar 3)) (gN 4) (tNt (tVal (eDf sh__law_is_count (aCons (eVar 4) aNil)))) (eVar 4))) (eLst aNil))) (tNt (tVal (eIsi ["tuple"] [] (ePr "House" sh_House_bays (eVar 0))))))
    (sRet (eC (.bl false)))
    sNil)
    (sSeq (sIf (tVal (eBin dNe (eVar 3) (eBin dAdd (eNew (lComp [8] (iDk (eVar 1)) (gN 8) tYesD (eDix (eVar 1) (eVar 8)))) (eLst (aCons (eCall dSum (aCons (eNew (lComp [8] (iDk (eVar 1)) (gN 8) tYesD (eDix (eVar 1) (eVar 8)))) aNil)) (aCons (eCall dLen (aCons (eVar 2) aNil)) aNil))))))
    (sRet (eC (.bl false)))
    sNil)
    (sSeq (sPar2VL 5 6 (eNew (lComp [8] (iOwD "House" "own_numbers" (eVar 0)) (gN 8) tYesD (eVar 8))) (lDisp aNil))
    (sSeq (sFor (iOwD "House" "own_numbers" (eVar 0)) (gN 4)
    (sFor (iOwD "House" "own_numbers" (eVar 0)) (gN 7)
    (sApp 6 (eTup (aCons (eVar 4) (aCons (eVar 7) aNil))))))
    (sSeq (sFrz 6 (sIf (tVal (eBin dNe (eVar 6) (eNew (lComp [9] (iRng1 (aCons (eBin dMul (eCall dLen (aCons (eVar 2) aNil)) (eCall dLen (aCons (eVar 2) aNil))) aNil)) (gN 9) tYesD (eTup (aCons (eIx (eVar 2) (eBin dFdiv (eVar 9) (eCall dLen (aCons (eVar 2) aNil)))) (aCons (eIx (eVar 2) (eBin dMod (eCall dInt (aCons (eVar 9) aNil)) (eCall dLen (aCons (eVar 2) aNil)))) aNil)))))))
    (sRet (eC (.bl false)))
    sNil))
    (sRet (eAd (eBin dEq (ePr "House" sh_House_bays (eVar 0)) (eCall dTuple (aCons (eVar 2) aNil))) (eAd (eBin dEq (eVar 5) (eVar 2)) (eBin dEq (eCallE (cBool "House" sh_House_bool) (aCons (eVar 0) aNil)) (eBin dNe (eVar 2) (eLst aNil)))))))))))))
def sh__law_tells : List D → Store → R D := runD 2 8 pic__law_tells
section
variable {w : World} {K : PySem.W.Frag} {mg : Str → Option Value} {base : Heap}
theorem df__law_tells (T : Tx K mg) : Df PP w K mg base "_law_tells" 6 ["_law_house", "_law_told"] (spSh K sh__law_tells) := by
  have G_House_bool : Fo PP w K mg base (He.ma K (He.ga K "House") "__bool__") 1 _ _ := fo_House_bool T
  have G_House_bays : Fo PP w K mg base (getOf K (He.ga K "House") "bays") 1 _ _ := fo_House_bays T
  have G_House_iter : FoD PP w K mg base (He.ma K (He.ga K "House") "__iter__") 2 _ _ := fi_House_iter T
  have G__law_is_count : Df PP w K mg base "_law_is_count" 1 _ _ := df__law_is_count T
  have G_House_getitem : Fo PP w K mg base (He.ma K (He.ga K "House") "__getitem__") 4 _ _ := fo_House_getitem T
  have G_House_len : Fo PP w K mg base (He.ma K (He.ga K "House") "__len__") 1 _ _ := fo_House_len T
  have G_House_total : Fo PP w K mg base (getOf K (He.ga K "House") "total") 1 _ _ := fo_House_total T
  obtain ⟨f, F, hm⟩ := T.d__law_tells
  exact df_sh (f := pic__law_tells) F hm sc__law_tells (fun _ _ _ _ _ _ us hl => match us, hl with | [_, _], _ => rfl) rfl rfl (fun _ => trivial) (fun cdv A outer s H E hr => (ss_cons (s_set (i := 2) sc__law_tells.nd rfl (by first | exact .inl rfl | exact .inr rfl) (x_callB (calls_sorted rfl) (by rfl) T.n_sorted (by decide +kernel) (a_cons (x_new (f_comp (own := [("_law_title", 8)]) rfl sc__law_tells.nd (i_dk rfl (x_var (i := 1) rfl (by first | exact .inl rfl | exact .inr (.inl rfl) | exact .inr (.inr rfl)))) (blkOk_by (N := ["_law_house", "_law_told", "_law_bays", "_law_some", "_law_one", "_law_walked", "_law_pairs", "_law_other", "_law_title", "_law_k"]) (sc := defScope s__law_tells) (by decide +kernel)) (fun _ _ _ _ _ => (g_name (i := 8) sc__law_tells.nd rfl (by first | exact .inl rfl | exact .inr rfl))) (fun _ _ _ _ _ => (ts_one (t_cmp (ops_gt rfl) (x_dix rfl (room65 hr) (x_var (i := 1) rfl (by first | exact .inl rfl | exact .inr (.inl rfl) | exact .inr (.inr rfl))) (x_var (i := 8) rfl (by first | exact .inl rfl | exact .inr (.inl rfl) | exact .inr (.inr rfl))) (fun _ _ => rfl)) x_int (nomark _)))) (fun _ _ _ _ _ => (x_callT calls_str (by rfl) T.n_str (by decide +kernel) (a_cons (x_var (i := 8) rfl (by first | exact .inl rfl | exact .inr (.inl rfl) | exact .inr (.inr rfl))) a_nil))))) a_nil)))
    (ss_cons (s_set (i := 3) sc__law_tells.nd rfl (by first | exact .inl rfl | exact .inr rfl) (x_op (ops_add rfl) (x_new (f_comp (own := [("_law_title", 8)]) rfl sc__law_tells.nd (i_dk rfl (x_var (i := 1) rfl (by first | exact .inl rfl | exact .inr (.inl rfl) | exact .inr (.inr rfl)))) (blkOk_by (N := ["_law_house", "_law_told", "_law_bays", "_law_some", "_law_one", "_law_walked", "_law_pairs", "_law_other", "_law_title", "_law_k"]) (sc := defScope s__law_tells) (by decide +kernel)) (fun _ _ _ _ _ => (g_name (i := 8) sc__law_tells.nd rfl (by first | exact .inl rfl | exact .inr rfl))) (fun _ _ _ _ _ => ts_nil) (fun _ _ _ _ _ => (x_gi (c := "House") rfl T.own_House_getitem (fnIn_of T.d_House_getitem) (fs_of G_House_getitem) shp_sh hr (by decide) L2.takes0 (x_var (i := 0) rfl (by first | exact .inl rfl | exact .inr (.inl rfl) | exact .inr (.inr rfl))) (x_var (i := 8) rfl (by first | exact .inl rfl | exact .inr (.inl rfl) | exact .inr (.inr rfl))))))) (x_lst (a_cons (x_pr (c := "House") rfl (x_var (i := 0) rfl (by first | exact .inl rfl | exact .inr (.inl rfl) | exact .inr (.inr rfl))) T.cl_House T.pr_House_total G_House_total shp_sh hr (by decide)) (a_cons (x_callBE (ce_len (c := "House") rfl T.own_House_len G_House_len shp_sh hr (by decide)) (by rfl) T.n_len (by decide +kernel) (a_cons (x_var (i := 0) rfl (by first | exact .inl rfl | exact .inr (.inl rfl) | exact .inr (.inr rfl))) a_nil)) a_nil)))))
    (ss_cons (s_if (w_pt (w_or (t_cmp (ops_neP rfl (room64 hr)) (x_new (f_comp (own := [("_law_one", 4)]) rfl sc__law_tells.nd (i_seq rfl (x_var (i := 3) rfl (by first | exact .inl rfl | exact .inr (.inl rfl) | exact .inr (.inr rfl)))) (blkOk_by (N := ["_law_house", "_law_told", "_law_bays", "_law_some", "_law_one", "_law_walked", "_law_pairs", "_law_other", "_law_title", "_law_k"]) (sc := defScope s__law_tells) (by decide +kernel)) (fun _ _ _ _ _ => (g_name (i := 4) sc__law_tells.nd rfl (by first | exact .inl rfl | exact .inr rfl))) (fun _ _ _ _ _ => (ts_one (t_not (t_val (x_df G__law_is_count shp_sh hr (by decide) (by rfl) L2.takes0 (a_cons (x_var (i := 4) rfl (by first | exact .inl rfl | exact .inr (.inl rfl) | exact .inr (.inr rfl))) a_nil)))))) (fun _ _ _ _ _ => (x_var (i := 4) rfl (by first | exact .inl rfl | exact .inr (.inl rfl) | exact .inr (.inr rfl)))))) (x_lst a_nil) (nomark _)) (w_or1 (t_not (t_val (x_isi (bi := ["tuple"]) (own := []) rfl (by rfl) T.n_isinstance (x_pr (c := "House") rfl (x_var (i := 0) rfl (by first | exact .inl rfl | exact .inr (.inl rfl) | exact .inr (.inr rfl))) T.cl_House T.pr_House_bays G_House_bays shp_sh hr (by decide)) (pe_bltn (v := .ty "tuple") (u := .type "tuple") (by rfl) T.n_tuple (by decide +kernel) rfl) ⟨(io_b (by decide +kernel)), oo_nil⟩ (.ty _)))))))
    (ss_one (s_ret x_bl))
    ss_nil)
    (ss_cons (s_if (t_cmp (ops_neP rfl (room64 hr)) (x_var (i := 3) rfl (by first | exact .inl rfl | exact .inr (.inl rfl) | exact .inr (.inr rfl))) (x_op (ops_add rfl) (x_new (f_comp (own := [("_law_title", 8)]) rfl sc__law_tells.nd (i_dk rfl (x_var (i := 1) rfl (by first | exact .inl rfl | exact .inr (.inl rfl) | exact .inr (.inr rfl)))) (blkOk_by (N := ["_law_house", "_law_told", "_law_bays", "_law_some", "_law_one", "_law_walked", "_law_pairs", "_law_other", "_law_title", "_law_k"]) (sc := defScope s__law_tells) (by decide +kernel)) (fun _ _ _ _ _ => (g_name (i := 8) sc__law_tells.nd rfl (by first | exact .inl rfl | exact .inr rfl))) (fun _ _ _ _ _ => ts_nil) (fun _ _ _ _ _ => (x_dix rfl (room65 hr) (x_var (i := 1) rfl (by first | exact .inl rfl | exact .inr (.inl rfl) | exact .inr (.inr rfl))) (x_var (i := 8) rfl (by first | exact .inl rfl | exact .inr (.inl rfl) | exact .inr (.inr rfl))) (fun _ _ => rfl))))) (x_lst (a_cons (x_callB (calls_sum rfl rfl) (by rfl) T.n_sum (by decide +kernel) (a_cons (x_new (f_comp (own := [("_law_title", 8)]) rfl sc__law_tells.nd (i_dk rfl (x_var (i := 1) rfl (by first | exact .inl rfl | exact .inr (.inl rfl) | exact .inr (.inr rfl)))) (blkOk_by (N := ["_law_house", "_law_told", "_law_bays", "_law_some", "_law_one", "_law_walked", "_law_pairs", "_law_other", "_law_title", "_law_k"]) (sc := defScope s__law_tells) (by decide +kernel)) (fun _ _ _ _ _ => (g_name (i := 8) sc__law_tells.nd rfl (by first | exact .inl rfl | exact .inr rfl))) (fun _ _ _ _ _ => ts_nil) (fun _ _ _ _ _ => (x_dix rfl (room65 hr) (x_var (i := 1) rfl (by first | exact .inl rfl | exact .inr (.inl rfl) | exact .inr (.inr rfl))) (x_var (i := 8) rfl (by first | exact .inl rfl | exact .inr (.inl rfl) | exact .inr (.inr rfl))) (fun _ _ => rfl))))) a_nil)) (a_cons (x_callB (calls_len rfl) (by rfl) T.n_len (by decide +kernel) (a_cons (x_var (i := 2) rfl (by first | exact .inl rfl | exact .inr (.inl rfl) | exact .inr (.inr rfl))) a_nil)) a_nil)))) (nomark _))
    (ss_one (s_ret x_bl))
    ss_nil)
    (ss_cons (s_par2VL (i := 5) (j := 6) rfl sc__law_tells.nd rfl rfl (by decide) rfl rfl (x_new (f_comp (own := [("_law_title", 8)]) rfl sc__law_tells.nd (i_ownD (c := "House") rfl T.own_House_iter G_House_iter hr (by decide) (x_var (i := 0) rfl (by first | exact .inl rfl | exact .inr (.inl rfl) | exact .inr (.inr rfl)))) (blkOk_by (N := ["_law_house", "_law_told", "_law_bays", "_law_some", "_law_one", "_law_walked", "_law_pairs", "_law_other", "_law_title", "_law_k"]) (sc := defScope s__law_tells) (by decide +kernel)) (fun _ _ _ _ _ => (g_name (i := 8) sc__law_tells.nd rfl (by first | exact .inl rfl | exact .inr rfl))) (fun _ _ _ _ _ => ts_nil) (fun _ _ _ _ _ => (x_var (i := 8) rfl (by first | exact .inl rfl | exact .inr (.inl rfl) | exact .inr (.inr rfl)))))) (f_disp a_nil) (by rfl))
    (ss_cons (s_for (us := [4]) (passes_of rfl) rfl (i_ownD (c := "House") rfl T.own_House_iter G_House_iter hr (by decide) (x_var (i := 0) rfl (by first | exact .inl rfl | exact .inr (.inl rfl) | exact .inr (.inr rfl)))) (g_name (i := 4) sc__law_tells.nd rfl (by first | exact .inl rfl | exact .inr rfl))
    (ss_one (s_for (us := [7]) (passes_of rfl) rfl (i_ownD (c := "House") rfl T.own_House_iter G_House_iter hr (by decide) (x_var (i := 0) rfl (by first | exact .inl rfl | exact .inr (.inl rfl) | exact .inr (.inr rfl)))) (g_name (i := 7) sc__law_tells.nd rfl (by first | exact .inl rfl | exact .inr rfl))
    (ss_one (s_app (i := 6) rfl (by first | exact .inl rfl | exact .inr (.inl rfl) | exact .inr (.inr rfl)) (x_tup (a_cons (x_var (i := 4) rfl (by first | exact .inl rfl | exact .inr (.inl rfl) | exact .inr (.inr rfl))) (a_cons (x_var (i := 7) rfl (by first | exact .inl rfl | exact .inr (.inl rfl) | exact .inr (.inr rfl))) a_nil))))))))
    (ss_cons (s_frz (i := 6) (s_if (t_cmp (ops_neP rfl (room64 hr)) (x_var (i := 6) rfl (by first | exact .inl rfl | exact .inr (.inl rfl) | exact .inr (.inr rfl))) (x_new (f_comp (own := [("_law_k", 9)]) rfl sc__law_tells.nd (i_rng1 (by rfl) T.n_range (a_cons (x_op (ops_mul rfl) (x_callB (calls_len rfl) (by rfl) T.n_len (by decide +kernel) (a_cons (x_var (i := 2) rfl (by first | exact .inl rfl | exact .inr (.inl rfl) | exact .inr (.inr rfl))) a_nil)) (x_callB (calls_len rfl) (by rfl) T.n_len (by decide +kernel) (a_cons (x_var (i := 2) rfl (by first | exact .inl rfl | exact .inr (.inl rfl) | exact .inr (.inr rfl))) a_nil))) a_nil)) (blkOk_by (N := ["_law_house", "_law_told", "_law_bays", "_law_some", "_law_one", "_law_walked", "_law_pairs", "_law_other", "_law_title", "_law_k"]) (sc := defScope s__law_tells) (by decide +kernel)) (fun _ _ _ _ _ => (g_name (i := 9) sc__law_tells.nd rfl (by first | exact .inl rfl | exact .inr rfl))) (fun _ _ _ _ _ => ts_nil) (fun _ _ _ _ _ => (x_tup (a_cons (x_ix rfl (x_var (i := 2) rfl (by first | exact .inl rfl | exact .inr (.inl rfl) | exact .inr (.inr rfl))) (x_op (ops_fdiv rfl) (x_var (i := 9) rfl (by first | exact .inl rfl | exact .inr (.inl rfl) | exact .inr (.inr rfl))) (x_callB (calls_len rfl) (by rfl) T.n_len (by decide +kernel) (a_cons (x_var (i := 2) rfl (by first | exact .inl rfl | exact .inr (.inl rfl) | exact .inr (.inr rfl))) a_nil))) (fun _ _ => rfl)) (a_cons (x_ix rfl (x_var (i := 2) rfl (by first | exact .inl rfl | exact .inr (.inl rfl) | exact .inr (.inr rfl))) (x_op (ops_mod rfl) (x_callT calls_int (by rfl) T.n_int (by decide +kernel) (a_cons (x_var (i := 9) rfl (by first | exact .inl rfl | exact .inr (.inl rfl) | exact .inr (.inr rfl))) a_nil)) (x_callB (calls_len rfl) (by rfl) T.n_len (by decide +kernel) (a_cons (x_var (i := 2) rfl (by first | exact .inl rfl | exact .inr (.inl rfl) | exact .inr (.inr rfl))) a_nil))) (fun _ _ => rfl)) a_nil)))))) (nomark _))
    (ss_one (s_ret x_bl))
    ss_nil))
    (ss_one (s_ret (x_and (x_cmp (ops_eqP rfl (room64 hr)) (x_pr (c := "House") rfl (x_var (i := 0) rfl (by first | exact .inl rfl | exact .inr (.inl rfl) | exact .inr (.inr rfl))) T.cl_House T.pr_House_bays G_House_bays shp_sh hr (by decide)) (x_callT (calls_tuple rfl) (by rfl) T.n_tuple (by decide +kernel) (a_cons (x_var (i := 2) rfl (by first | exact .inl rfl | exact .inr (.inl rfl) | exact .inr (.inr rfl))) a_nil)) (nomark _)) (x_and (x_cmp (ops_eqP rfl (room64 hr)) (x_var (i := 5) rfl (by first | exact .inl rfl | exact .inr (.inl rfl) | exact .inr (.inr rfl))) (x_var (i := 2) rfl (by first | exact .inl rfl | exact .inr (.inl rfl) | exact .inr (.inr rfl))) (nomark _)) (x_one (x_cmp (ops_eqP rfl (room64 hr)) (x_callTE (ce_bool (c := "House") rfl T.own_House_bool G_House_bool shp_sh hr (by decide)) (by rfl) T.n_bool (by decide +kernel) (a_cons (x_var (i := 0) rfl (by first | exact .inl rfl | exact .inr (.inl rfl) | exact .inr (.inr rfl))) a_nil)) (x_cmp (ops_neP rfl (room64 hr)) (x_var (i := 2) rfl (by first | exact .inl rfl | exact .inr (.inl rfl) | exact .inr (.inr rfl))) (x_lst a_nil) (nomark _)) (nomark _)))))))))))))))
end
def pic__law_turned : Sy := (sRet (eNewD (kPairs (eNew (lComp [1] (iSq (eNew (lRev (eNew (lKeys (eVar 0)))))) (gN 1) tYesD (eTup (aCons (eVar 1) (aCons (eDix (eVar 0) (eVar 1)) aNil))))))))
def sh__law_turned : List D → Store → R D := runD 1 1 pic__law_turned
section
variable {w : World} {K : PySem.W.Frag} {mg : Str → Option Value} {base : Heap}
theorem df__law_turned (T : Tx K mg) : Df PP w K mg base "_law_turned" 1 ["_law_told"] (spSh K sh__law_turned) := by
  obtain ⟨f, F, hm⟩ := T.d__law_turned
  exact df_sh (f := pic__law_turned) F hm sc__law_turned (fun _ _ _ _ _ _ us hl => match us, hl with | [_], _ => rfl) rfl rfl (fun _ => trivial) (fun cdv A outer s H E hr => (ss_one (s_ret (x_newD (fd_pairs rfl (by rfl) T.n_dict (x_new (f_comp (own := [("_law_title", 1)]) rfl sc__law_turned.nd (i_seq rfl (x_new (f_rev rfl (x_new (f_keys rfl (by rfl) T.n_list (x_var (i := 0) rfl (by first | exact .inl rfl | exact .inr (.inl rfl) | exact .inr (.inr rfl)))))))) (blkOk_by (N := ["_law_told", "_law_title"]) (sc := defScope s__law_turned) (by decide +kernel)) (fun _ _ _ _ _ => (g_name (i := 1) sc__law_turned.nd rfl (by first | exact .inl rfl | exact .inr rfl))) (fun _ _ _ _ _ => ts_nil) (fun _ _ _ _ _ => (x_tup (a_cons (x_var (i := 1) rfl (by first | exact .inl rfl | exact .inr (.inl rfl) | exact .inr (.inr rfl))) (a_cons (x_dix rfl (room65 hr) (x_var (i := 0) rfl (by first | exact .inl rfl | exact .inr (.inl rfl) | exact .inr (.inr rfl))) (x_var (i := 1) rfl (by first | exact .inl rfl | exact .inr (.inl rfl) | exact .inr (.inr rfl))) (fun _ _ => rfl)) a_nil)))))))))))
end
def pic__law_put : Sy := (sSeq (sSet 1 (eCf "House" sh_House_none (eC (.cls "House")) aNil))
    (sSeq (sFor (iDk (eVar 0)) (gN 2)
    (sSeq (sSet 1 (eMe "House" "put" sh_House_put (eVar 1) (aCons (eVar 2) (aCons (eC (.int 5)) aNil))))
    (sSet 1 (eMe "House" "put" (kwF (prm [1, 0]) sh_House_put) (eVar 1) (aCons (eDix (eVar 0) (eVar 2)) (aCons (eVar 2) aNil))))))
    (sRet (eVar 1))))
def sh__law_put : List D → Store → R D := runD 1 2 pic__law_put
section
variable {w : World} {K : PySem.W.Frag} {mg : Str → Option Value} {base : Heap}
theorem df__law_put (T : Tx K mg) : Df PP w K mg base "_law_put" 8 ["_law_told"] (spSh K sh__law_put) := by
  have G_House_put_Knumber_bay : FsK PP w K mg base (He.ma K (He.ga K "House") "put") 7 _ _ := fk_House_put_Knumber_bay T
  have G_House_put : Fo PP w K mg base (He.ma K (He.ga K "House") "put") 7 _ _ := fo_House_put T
  have G_House_none : Fo PP w K mg base (smOf K (He.ga K "House") "none") 7 _ _ := fo_House_none T
  obtain ⟨f, F, hm⟩ := T.d__law_put
  exact df_sh (f := pic__law_put) F hm sc__law_put (fun _ _ _ _ _ _ us hl => match us, hl with | [_], _ => rfl) rfl rfl (fun _ => trivial) (fun cdv A outer s H E hr => (ss_cons (s_set (i := 1) sc__law_put.nd rfl (by first | exact .inl rfl | exact .inr rfl) (x_cf0 (c := "House") rfl (x_cls rfl (by rfl) T.g_House) T.cr_House T.cf_House_none (fs_of G_House_none) shp_sh hr (by decide) (takes_of rfl rfl rfl rfl)))
    (ss_cons (s_for (us := [2]) (passes_of rfl) rfl (i_dk rfl (x_var (i := 0) rfl (by first | exact .inl rfl | exact .inr (.inl rfl) | exact .inr (.inr rfl)))) (g_name (i := 2) sc__law_put.nd rfl (by first | exact .inl rfl | exact .inr rfl))
    (ss_cons (s_set (i := 1) sc__law_put.nd rfl (by first | exact .inl rfl | exact .inr rfl) (x_me (c := "House") rfl (x_var (i := 1) rfl (by first | exact .inl rfl | exact .inr (.inl rfl) | exact .inr (.inr rfl))) T.cl_House T.mt_House_put (fs_of G_House_put) shp_sh hr (by decide) (takes_of rfl rfl rfl rfl) (a_cons (x_var (i := 2) rfl (by first | exact .inl rfl | exact .inr (.inl rfl) | exact .inr (.inr rfl))) (a_cons x_int a_nil))))
    (ss_one (s_set (i := 1) sc__law_put.nd rfl (by first | exact .inl rfl | exact .inr rfl) (x_meK (c := "House") rfl (x_var (i := 1) rfl (by first | exact .inl rfl | exact .inr (.inl rfl) | exact .inr (.inr rfl))) T.cl_House T.mt_House_put G_House_put_Knumber_bay (shp_kw shp_sh (fun _ _ _ h => reps_prm h [1, 0])) hr (by decide) (takes_of rfl rfl rfl rfl) (ak_cons (x_dix rfl (room65 hr) (x_var (i := 0) rfl (by first | exact .inl rfl | exact .inr (.inl rfl) | exact .inr (.inr rfl))) (x_var (i := 2) rfl (by first | exact .inl rfl | exact .inr (.inl rfl) | exact .inr (.inr rfl))) (fun _ _ => rfl)) (ak_cons (x_var (i := 2) rfl (by first | exact .inl rfl | exact .inr (.inl rfl) | exact .inr (.inr rfl))) ak_nil)) (kn_cons (kn_cons kn_nil)))))))
    (ss_one (s_ret (x_var (i := 1) rfl (by first | exact .inl rfl | exact .inr (.inl rfl) | exact .inr (.inr rfl))))))))
end
def pic__law_in_right : Sy := (sSeq (sFor (iSq (eBin dAdd (eNew (lKeys (eVar 2))) (eLst (aCons (eVar 3) aNil)))) (gN 4)
    (sSeq (sSet 5 (eGet2 (eVar 2) (eVar 4) (eC (.int 0))))
    (sIf (tOo (tVal (eBin dNe (eCall dRepr (aCons (eBinE (oInO false "House" sh_House_contains) (eVar 4) (eVar 1)) aNil)) (eCall dRepr (aCons (eBin dGt (eVar 5) (eC (.int 0))) aNil)))) (tVal (eBin dNe (eGi "House" sh_House_getitem (eVar 1) (eVar 4)) (eVar 5))))
    (sRet (eC (.bl false)))
    sNil)))
    (sSeq (sSet 6 (eDf sh__law_pick (aCons (eVar 0) (aCons (eLst (aCons (eC .non) (aCons (eC (.int 0)) (aCons (eC (.bl true)) (aCons (eTup (aCons (eC (.str "a")) aNil)) (aCons (eLst (aCons (eC (.str "a")) aNil)) (aCons (eNewD (kDisp [((eC (.str "a")), (eC (.int 1)))])) (aCons (eC (.str "")) (aCons (eC (.str "A")) (aCons (eVar 1) aNil)))))))))) aNil))))
    (sRet (eBin dEq (eCall dRepr (aCons (eBinE (oInO false "House" sh_House_contains) (eVar 6) (eVar 1)) aNil)) (eCall dRepr (aCons (eC (.bl false)) aNil))))))
def sh__law_in_right : List D → Store → R D := runD 4 3 pic__law_in_right
section
variable {w : World} {K : PySem.W.Frag} {mg : Str → Option Value} {base : Heap}
theorem dg__law_in_right (T : Tx K mg) : Dg PP w K mg base "_law_in_right" 6 ["_law_pen_here", "_law_house", "_law_told", "_law_word_here"] (spSh K sh__law_in_right) := by
  have G_House_contains : Fo PP w K mg base (He.ma K (He.ga K "House") "__contains__") 1 _ _ := fo_House_contains T
  have G__law_pick : Df PP w K mg base "_law_pick" 2 _ _ := df__law_pick T
  have G_House_getitem : Fo PP w K mg base (He.ma K (He.ga K "House") "__getitem__") 4 _ _ := fo_House_getitem T
  obtain ⟨f, F, hm⟩ := T.d__law_in_right
  exact dg_sh (f := pic__law_in_right) F hm sc__law_in_right (fun _ _ _ _ _ _ us hl => match us, hl with | [_, _, _, _], _ => rfl) rfl rfl (fun _ => trivial) (fun cdv A outer s H E hgd hr => (ss_cons (s_for (us := [4]) (passes_of rfl) rfl (i_seq rfl (x_op (ops_add rfl) (x_new (f_keys rfl (by rfl) T.n_list (x_var (i := 2) rfl (by first | exact .inl rfl | exact .inr (.inl rfl) | exact .inr (.inr rfl))))) (x_lst (a_cons (x_var (i := 3) rfl (by first | exact .inl rfl | exact .inr (.inl rfl) | exact .inr (.inr rfl))) a_nil)))) (g_name (i := 4) sc__law_in_right.nd rfl (by first | exact .inl rfl | exact .inr rfl))
    (ss_cons (s_set (i := 5) sc__law_in_right.nd rfl (by first | exact .inl rfl | exact .inr rfl) (x_get2 rfl (room65 hr) (x_var (i := 2) rfl (by first | exact .inl rfl | exact .inr (.inl rfl) | exact .inr (.inr rfl))) (x_var (i := 4) rfl (by first | exact .inl rfl | exact .inr (.inl rfl) | exact .inr (.inr rfl))) x_int ⟨rfl, rfl, rfl, rfl⟩))
    (ss_one (s_if (w_pt (w_or (t_cmp (ops_neP rfl (room64 hr)) (x_callB (calls_repr rfl hgd (have z := room64 hr; z)) (by rfl) T.n_repr (by decide +kernel) (a_cons (x_cmpE (oe_in (c := "House") rfl T.own_House_contains (fs_of G_House_contains) shp_sh hr (by decide)) (x_var (i := 4) rfl (by first | exact .inl rfl | exact .inr (.inl rfl) | exact .inr (.inr rfl))) (x_var (i := 1) rfl (by first | exact .inl rfl | exact .inr (.inl rfl) | exact .inr (.inr rfl))) rfl) a_nil)) (x_callB (calls_repr rfl hgd (have z := room64 hr; z)) (by rfl) T.n_repr (by decide +kernel) (a_cons (x_cmp (ops_gt rfl) (x_var (i := 5) rfl (by first | exact .inl rfl | exact .inr (.inl rfl) | exact .inr (.inr rfl))) x_int (nomark _)) a_nil)) (nomark _)) (w_or1 (t_cmp (ops_neP rfl (room64 hr)) (x_gi (c := "House") rfl T.own_House_getitem (fnIn_of T.d_House_getitem) (fs_of G_House_getitem) shp_sh hr (by decide) (takes_of rfl rfl rfl rfl) (x_var (i := 1) rfl (by first | exact .inl rfl | exact .inr (.inl rfl) | exact .inr (.inr rfl))) (x_var (i := 4) rfl (by first | exact .inl rfl | exact .inr (.inl rfl) | exact .inr (.inr rfl)))) (x_var (i := 5) rfl (by first | exact .inl rfl | exact .inr (.inl rfl) | exact .inr (.inr rfl))) (nomark _)))))
    (ss_one (s_ret x_bl))
    ss_nil))))
    (ss_cons (s_set (i := 6) sc__law_in_right.nd rfl (by first | exact .inl rfl | exact .inr rfl) (x_df G__law_pick shp_sh hr (by decide) (by rfl) (takes_of rfl rfl rfl rfl) (a_cons (x_var (i := 0) rfl (by first | exact .inl rfl | exact .inr (.inl rfl) | exact .inr (.inr rfl))) (a_cons (x_lst (a_cons x_non (a_cons x_int (a_cons x_bl (a_cons (x_tup (a_cons x_str a_nil)) (a_cons (x_lst (a_cons x_str a_nil)) (a_cons (x_newD (fd_disp (pp_cons x_str x_int pp_nil))) (a_cons x_str (a_cons x_str (a_cons (x_var (i := 1) rfl (by first | exact .inl rfl | exact .inr (.inl rfl) | exact .inr (.inr rfl))) a_nil)))))))))) a_nil))))
    (ss_one (s_ret (x_cmp (ops_eqP rfl (room64 hr)) (x_callB (calls_repr rfl hgd (have z := room64 hr; z)) (by rfl) T.n_repr (by decide +kernel) (a_cons (x_cmpE (oe_in (c := "House") rfl T.own_House_contains (fs_of G_House_contains) shp_sh hr (by decide)) (x_var (i := 6) rfl (by first | exact .inl rfl | exact .inr (.inl rfl) | exact .inr (.inr rfl))) (x_var (i := 1) rfl (by first | exact .inl rfl | exact .inr (.inl rfl) | exact .inr (.inr rfl))) rfl) a_nil)) (x_callB (calls_repr rfl hgd (have z := room64 hr; z)) (by rfl) T.n_repr (by decide +kernel) (a_cons x_bl a_nil)) (nomark _)))))))
end
end Nk
namespace Nk
open PySem PySem.Spec PyProof.Rows L2 Sh
def pic_law_z : Sy := (sSeq (sIf (tOo (tVal (eBinE (oOwn true "House" [] ["House"] sh_House_eq) (eMk "House" (kwdKI ["x"] sh_House_init) (eC (.cls "House")) (aCons (eC (.int 0)) aNil)) (eMk "House" (starI 0 (kwdI sh_House_init)) (eC (.cls "House")) aNil))) (tVal (eBinE (oOwn true "House" [] ["House"] sh_House_eq) (eCf "House" sh_House_none (eC (.cls "House")) aNil) (eCm "House" sh_House_of (eC (.cls "House")) (aCons (eNewD kNil) aNil)))))
    (sRet (eC (.bl false)))
    sNil)
    (sSeq (sIf (tVal (eBin dNe (eGi "House" sh_House_getitem (eCm "House" sh_House_of (eC (.cls "House")) (aCons (eNewD (kDisp [((eC (.str "self")), (eC (.int 2)))])) aNil)) (eC (.str "self"))) (eC (.int 2))))
    (sRet (eC (.bl false)))
    sNil)
    (sSeq (sIf (tOo (tVal (eBin dNe (eCv "House" 60 (eC (.cls "House"))) (eC (.int 60)))) (tOo (tVal (eBin dNe (eCi "House" "DIGITS" 60 (eMk "House" (kwdKI ["x"] sh_House_init) (eC (.cls "House")) (aCons (eC (.int 1)) aNil))) (eC (.int 60)))) (tVal (eBinE (oOwn false "House" ["NoneType", "bool", "int", "str", "list", "tuple", "dict"] [] sh_House_eq) (eMk "House" (starI 0 (kwdI sh_House_init)) (eC (.cls "House")) aNil) (eC .non)))))
    (sRet (eC (.bl false)))
    sNil)
    (sRet (eDf sh__law_tells (aCons (eMk "House" (starI 0 (kwdI sh_House_init)) (eC (.cls "House")) aNil) (aCons (eNewD kNil) aNil)))))))
def pic_law_b5 : Sy := (sSeq (sPar 9 8 (aCons (eDf sh__law_number (aCons (eVar 1) aNil)) (aCons (eDf sh__law_number (aCons (eVar 1) aNil)) aNil)))
    (sSeq (sPar 6 12 (aCons (eMk "House" (kwdKI ["x", "north", "c"] sh_House_init) (eC (.cls "House")) (aCons (eVar 9) (aCons (eVar 8) (aCons (eC (.int 0)) aNil)))) (aCons (eNewD (kDisp [((eC (.str "c")), (eC (.int 0))), ((eC (.str "north")), (eVar 8)), ((eC (.str "x")), (eVar 9))])) aNil)))
    (sFrzD 12 (sIf (tNt (tVal (eDf sh__law_tells (aCons (eVar 6) (aCons (eVar 12) aNil)))))
    (sRet (eC (.bl false)))
    sNil))))
def pic_law_b4 : Sy := (sSeq (sDsC (eVar 3) (eVar 4) (eBin dAdd (eGet2 (eVar 3) (eVar 4) (eC (.int 0))) (eC (.int 1))))
    (sSeq (sIf (tOo (tNt (tVal (eDf sh__law_tells (aCons (eVar 6) (aCons (eVar 5) aNil))))) (tNt (tVal (eDf sh__law_in_right (aCons (eVar 1) (aCons (eVar 6) (aCons (eVar 5) (aCons (eVar 4) aNil))))))))
    (sRet (eC (.bl false)))
    sNil)
    pic_law_b5))
def pic_law_b3 : Sy := (sSeq (sSet 10 (eDf sh__law_number (aCons (eVar 1) aNil)))
    (sSeq (sSet 11 (eMe "House" "put" sh_House_put (eVar 6) (aCons (eVar 4) (aCons (eVar 10) aNil))))
    (sSeq (sOwnD 12 (kCopy (eVar 3)))
    (sSeq (sDsO 12 (eVar 4) (eVar 10))
    (sSeq (sFrzD 12 (sIf (tOo (tNt (tVal (eDf sh__law_tells (aCons (eVar 11) (aCons (eVar 12) aNil))))) (tVal (eBin dNe (eCall dRepr (aCons (eBinE (oOwn false "House" [] ["House"] sh_House_eq) (eVar 11) (eVar 6)) aNil)) (eCall dRepr (aCons (eBin dEq (eVar 10) (eGet2 (eVar 3) (eVar 4) (eC (.int 0)))) aNil)))))
    (sRet (eC (.bl false)))
    sNil))
    pic_law_b4)))))
def pic_law_b2 : Sy := (sSeq (sIf (tOo (tVal (eBinE (oEqD true) (eVar 3) (eVar 5))) (tOo (tVal (eBinE (oOwn true "House" [] ["House"] sh_House_eq) (eVar 6) (eVar 8))) (tVal (eBinE (oOwn true "House" [] ["House"] sh_House_eq) (eVar 7) (eVar 6)))))
    (sRet (eC (.bl false)))
    sNil)
    (sSeq (sIf (tOo (tVal (eBinE (oOwn false "House" ["NoneType", "bool", "int", "str", "list", "tuple", "dict"] [] sh_House_eq) (eVar 6) (eVar 3))) (tVal (eBinE (oOwn false "House" ["NoneType", "bool", "int", "str", "list", "tuple", "dict"] [] sh_House_eq) (eVar 6) (eCallE (cStr "House" sh_House_str) (aCons (eVar 6) aNil)))))
    (sRet (eC (.bl false)))
    sNil)
    pic_law_b3))
def pic_law_b1 : Sy := (sSeq (sLk 3 (sIf (tVal (eBin dNe (eNew (lComp [9] (iSq (eLst (aCons (eVar 6) (aCons (eVar 8) (aCons (eVar 7) aNil))))) (gN 9) (tNt (tVal (eDf sh__law_tells (aCons (eVar 9) (aCons (eVar 3) aNil))))) (eVar 9))) (eLst aNil)))
    (sRet (eC (.bl false)))
    sNil))
    pic_law_b2)
def pic_law_b0 : Sy := (sSeq (sLk 3 (sPar 6 7 (aCons (eCm "House" sh_House_of (eC (.cls "House")) (aCons (eVar 3) aNil)) (aCons (eDf sh__law_put (aCons (eVar 3) aNil)) aNil))))
    (sSeq (sSet 8 (eCm "House" (kwF (fun z => z) sh_House_of) (eC (.cls "House")) (aCons (eDf sh__law_turned (aCons (eVar 3) aNil)) aNil)))
    pic_law_b1))
def pic_law_loop : Sy := (sSeq (sFor (iRng1 (aCons (eC (.int 5)) aNil)) (gN 2)
    (sSeq (sAsg (gT (gsCons (gN 3) (gsCons (gN 4) gsNil))) (eTup (aCons (eDf sh__law_table (aCons (eVar 1) aNil)) (aCons (eDf sh__law_word (aCons (eVar 1) aNil)) aNil))))
    (sSeq (sSet 5 (eNewD (kCopy (eVar 3))))
    pic_law_b0)))
    pic_law_z)
def pic_law : Sy := (sSeq (sSet 1 (eDf sh__law_pen (aCons (eVar 0) aNil)))
    pic_law_loop)
def sh_law : List D → Store → R D := runD 1 12 pic_law
section
variable {w : World} {K : PySem.W.Frag} {mg : Str → Option Value} {base : Heap}
theorem fg_law (T : Tx K mg) (TBS : TBs K base mg) {fd : FuncData} (F : FunD K "law" "law" (defArgs s_law) (defBody s_law) (defScope s_law) [] [] (He.fAd K ("law", none)) fd) : FnG PP w K mg base (L2.CX PP w) 9 (He.fAd K ("law", none)) fd ["_law_script"] (spSh K sh_law) := by
  have G__law_tells : Df PP w K mg base "_law_tells" 6 _ _ := df__law_tells T
  have G_House_init : Fs PP w K mg base (He.ma K (He.ga K "House") "__init__") 5 _ := fs_House_init T
  have G_House_eq : Fo PP w K mg base (He.ma K (He.ga K "House") "__eq__") 1 _ _ := fo_House_eq T
  have G_House_init_Dx : FsKD PP w K mg base (He.ma K (He.ga K "House") "__init__") 5 ["x"] _ := fkd_House_init_Dx T
  have G_House_of : Fo PP w K mg base (cmOf K (He.ga K "House") "of") 7 _ _ := fo_House_of T
  have G_House_getitem : Fo PP w K mg base (He.ma K (He.ga K "House") "__getitem__") 4 _ _ := fo_House_getitem T
  have G_House_none : Fo PP w K mg base (smOf K (He.ga K "House") "none") 7 _ _ := fo_House_none T
  have G_House_init_Dx_north_c : FsKD PP w K mg base (He.ma K (He.ga K "House") "__init__") 5 ["x", "north", "c"] _ := fkd_House_init_Dx_north_c T
  have G__law_number : Df PP w K mg base "_law_number" 2 _ _ := df__law_number T
  have G__law_in_right : Dg PP w K mg base "_law_in_right" 6 _ _ := dg__law_in_right T
  have G_House_put : Fo PP w K mg base (He.ma K (He.ga K "House") "put") 7 _ _ := fo_House_put T
  have G_House_str : Fo PP w K mg base (He.ma K (He.ga K "House") "__str__") 1 _ _ := fo_House_str T
  have G_House_of_k : FsK PP w K mg base (cmOf K (He.ga K "House") "of") 7 _ _ := fk_House_of T
  have G__law_turned : Df PP w K mg base "_law_turned" 1 _ _ := df__law_turned T
  have G__law_put : Df PP w K mg base "_law_put" 8 _ _ := df__law_put T
  have G__law_word : Df PP w K mg base "_law_word" 3 _ _ := df__law_word T
  have G__law_table : Df PP w K mg base "_law_table" 4 _ _ := df__law_table T
  have G__law_pen : Df PP w K mg base "_law_pen" 1 _ _ := df__law_pen T
  refine fngC_of (p := ("law", none)) F sc_law (fun vs H Q E h => spSh_len h) (fun cdv hcd A outer s H vs Q E hgd hr h => ?_)
  have TB := TBS.tb_law
  have hcode : (cxOf (L2.CX PP w) PP w K mg base ["_law_script", "_law_pen_here", "_law_turn", "_law_told", "_law_word_here", "_law_kept", "_law_house", "_law_built", "_law_other", "_law_one", "_law_many", "_law_changed", "_law_due"] "law" (defScope s_law) (He.fAd K ("law", none)) cdv A outer s H E).env.code = .ref (He.codeOf K ("law", none)) := hcd
  have hmT := T.tm_law
  have hu := T.tu_law
  refine body_of (f := pic_law) (fun _ => trivial) rfl ?_ h
  exact (ss_cons (s_set (i := 1) sc_law.nd rfl (by first | exact .inl rfl | exact .inr rfl) (x_df G__law_pen shp_sh hr (by decide) (by rfl) (takes_of rfl rfl rfl rfl) (a_cons (x_var (i := 0) rfl (by first | exact .inl rfl | exact .inr (.inl rfl) | exact .inr (.inr rfl))) a_nil)))
    (ss_cons (s_for (us := [2]) (passes_of rfl) rfl (i_rng1 (by rfl) T.n_range (a_cons x_int a_nil)) (g_name (i := 2) sc_law.nd rfl (by first | exact .inl rfl | exact .inr rfl))
    (ss_cons (s_asg (us := [3, 4]) (x_tup (a_cons (x_df G__law_table shp_sh hr (by decide) (by rfl) (takes_of rfl rfl rfl rfl) (a_cons (x_var (i := 1) rfl (by first | exact .inl rfl | exact .inr (.inl rfl) | exact .inr (.inr rfl))) a_nil)) (a_cons (x_df G__law_word shp_sh hr (by decide) (by rfl) (takes_of rfl rfl rfl rfl) (a_cons (x_var (i := 1) rfl (by first | exact .inl rfl | exact .inr (.inl rfl) | exact .inr (.inr rfl))) a_nil)) a_nil))) (g_tup rfl rfl (gs_cons (g_name (i := 3) sc_law.nd rfl (by first | exact .inl rfl | exact .inr rfl)) (gs_cons (g_name (i := 4) sc_law.nd rfl (by first | exact .inl rfl | exact .inr rfl)) gs_nil)) (gl_cons (gl_cons gl_nil))))
    (ss_cons (s_set (i := 5) sc_law.nd rfl (by first | exact .inl rfl | exact .inr rfl) (x_newD (fd_copy (by rfl) T.n_dict (x_var (i := 3) rfl (by first | exact .inl rfl | exact .inr (.inl rfl) | exact .inr (.inr rfl))))))
    (ss_cons (s_lk (i := 3) (s_par (i := 6) (j := 7) rfl sc_law.nd rfl rfl (by decide) rfl rfl (a_cons (x_cm (c := "House") rfl (x_cls rfl (by rfl) T.g_House) T.cr_House T.cm_House_of (fs_of G_House_of) shp_sh hr (by decide) (takes_of rfl rfl rfl rfl) (a_cons (x_var (i := 3) rfl (by first | exact .inl rfl | exact .inr (.inl rfl) | exact .inr (.inr rfl))) a_nil)) (a_cons (x_df G__law_put shp_sh hr (by decide) (by rfl) (takes_of rfl rfl rfl rfl) (a_cons (x_var (i := 3) rfl (by first | exact .inl rfl | exact .inr (.inl rfl) | exact .inr (.inr rfl))) a_nil)) a_nil)) (by rfl)))
    (ss_cons (s_set (i := 8) sc_law.nd rfl (by first | exact .inl rfl | exact .inr rfl) (x_cmK (c := "House") rfl (x_cls rfl (by rfl) T.g_House) T.cr_House T.cm_House_of G_House_of_k (shp_kw shp_sh (fun _ _ _ h => h)) hr (by decide) (takes_of rfl rfl rfl rfl) (ak_cons (x_df G__law_turned shp_sh hr (by decide) (by rfl) (takes_of rfl rfl rfl rfl) (a_cons (x_var (i := 3) rfl (by first | exact .inl rfl | exact .inr (.inl rfl) | exact .inr (.inr rfl))) a_nil)) ak_nil) (kn_cons kn_nil)))
    (ss_cons (s_lk (i := 3) (s_if (t_cmp (ops_neP rfl (room64 hr)) (x_new (f_comp (own := [("_law_one", 9)]) rfl sc_law.nd (i_seq rfl (x_lst (a_cons (x_var (i := 6) rfl (by first | exact .inl rfl | exact .inr (.inl rfl) | exact .inr (.inr rfl))) (a_cons (x_var (i := 8) rfl (by first | exact .inl rfl | exact .inr (.inl rfl) | exact .inr (.inr rfl))) (a_cons (x_var (i := 7) rfl (by first | exact .inl rfl | exact .inr (.inl rfl) | exact .inr (.inr rfl))) a_nil))))) (blkOk_by (N := ["_law_script", "_law_pen_here", "_law_turn", "_law_told", "_law_word_here", "_law_kept", "_law_house", "_law_built", "_law_other", "_law_one", "_law_many", "_law_changed", "_law_due"]) (sc := defScope s_law) (by decide +kernel)) (fun _ _ _ _ _ => (g_name (i := 9) sc_law.nd rfl (by first | exact .inl rfl | exact .inr rfl))) (fun _ _ _ _ _ => (ts_one (t_not (t_val (x_df G__law_tells shp_sh hr (by decide) (by rfl) L2.takes0 (a_cons (x_var (i := 9) rfl (by first | exact .inl rfl | exact .inr (.inl rfl) | exact .inr (.inr rfl))) (a_cons (x_var (i := 3) rfl (by first | exact .inl rfl | exact .inr (.inl rfl) | exact .inr (.inr rfl))) a_nil))))))) (fun _ _ _ _ _ => (x_var (i := 9) rfl (by first | exact .inl rfl | exact .inr (.inl rfl) | exact .inr (.inr rfl)))))) (x_lst a_nil) (nomark _))
    (ss_one (s_ret x_bl))
    ss_nil))
    (ss_cons (s_if (w_pt (w_or (t_cmpE (oe_neD rfl (room65 hr)) (x_var (i := 3) rfl (by first | exact .inl rfl | exact .inr (.inl rfl) | exact .inr (.inr rfl))) (x_var (i := 5) rfl (by first | exact .inl rfl | exact .inr (.inl rfl) | exact .inr (.inr rfl))) (nomark _)) (w_or (t_cmpE (oe_ne (c := "House") (bi := []) (cs := ["House"]) rfl T.eq_House G_House_eq shp_sh ⟨(fun _ h => nomatch h), (to_cons (P := fun t => PySem.W.notFirst K (He.ga K "House") t = true) T.cl_House T.in_House T.nf_House_House (to_nil (K := K) (P := fun t => PySem.W.notFirst K (He.ga K "House") t = true)))⟩ hr (by decide)) (x_var (i := 6) rfl (by first | exact .inl rfl | exact .inr (.inl rfl) | exact .inr (.inr rfl))) (x_var (i := 8) rfl (by first | exact .inl rfl | exact .inr (.inl rfl) | exact .inr (.inr rfl))) (nomark _)) (w_or1 (t_cmpE (oe_ne (c := "House") (bi := []) (cs := ["House"]) rfl T.eq_House G_House_eq shp_sh ⟨(fun _ h => nomatch h), (to_cons (P := fun t => PySem.W.notFirst K (He.ga K "House") t = true) T.cl_House T.in_House T.nf_House_House (to_nil (K := K) (P := fun t => PySem.W.notFirst K (He.ga K "House") t = true)))⟩ hr (by decide)) (x_var (i := 7) rfl (by first | exact .inl rfl | exact .inr (.inl rfl) | exact .inr (.inr rfl))) (x_var (i := 6) rfl (by first | exact .inl rfl | exact .inr (.inl rfl) | exact .inr (.inr rfl))) (nomark _))))))
    (ss_one (s_ret x_bl))
    ss_nil)
    (ss_cons (s_if (w_pt (w_or (t_cmpE (oe_eq (c := "House") (bi := ["NoneType", "bool", "int", "str", "list", "tuple", "dict"]) (cs := []) rfl T.eq_House G_House_eq shp_sh ⟨T.nfs_House, (to_nil (K := K) (P := fun t => PySem.W.notFirst K (He.ga K "House") t = true))⟩ hr (by decide)) (x_var (i := 6) rfl (by first | exact .inl rfl | exact .inr (.inl rfl) | exact .inr (.inr rfl))) (x_var (i := 3) rfl (by first | exact .inl rfl | exact .inr (.inl rfl) | exact .inr (.inr rfl))) (nomark _)) (w_or1 (t_cmpE (oe_eq (c := "House") (bi := ["NoneType", "bool", "int", "str", "list", "tuple", "dict"]) (cs := []) rfl T.eq_House G_House_eq shp_sh ⟨T.nfs_House, (to_nil (K := K) (P := fun t => PySem.W.notFirst K (He.ga K "House") t = true))⟩ hr (by decide)) (x_var (i := 6) rfl (by first | exact .inl rfl | exact .inr (.inl rfl) | exact .inr (.inr rfl))) (x_callTE (ce_str (c := "House") rfl T.own_House_str.at_ T.own_House_str.fn G_House_str shp_sh hr (by decide)) (by rfl) T.n_str (by decide +kernel) (a_cons (x_var (i := 6) rfl (by first | exact .inl rfl | exact .inr (.inl rfl) | exact .inr (.inr rfl))) a_nil)) (nomark _)))))
    (ss_one (s_ret x_bl))
    ss_nil)
    (ss_cons (s_set (i := 10) sc_law.nd rfl (by first | exact .inl rfl | exact .inr rfl) (x_df G__law_number shp_sh hr (by decide) (by rfl) (takes_of rfl rfl rfl rfl) (a_cons (x_var (i := 1) rfl (by first | exact .inl rfl | exact .inr (.inl rfl) | exact .inr (.inr rfl))) a_nil)))
    (ss_cons (s_set (i := 11) sc_law.nd rfl (by first | exact .inl rfl | exact .inr rfl) (x_me (c := "House") rfl (x_var (i := 6) rfl (by first | exact .inl rfl | exact .inr (.inl rfl) | exact .inr (.inr rfl))) T.cl_House T.mt_House_put (fs_of G_House_put) shp_sh hr (by decide) (takes_of rfl rfl rfl rfl) (a_cons (x_var (i := 4) rfl (by first | exact .inl rfl | exact .inr (.inl rfl) | exact .inr (.inr rfl))) (a_cons (x_var (i := 10) rfl (by first | exact .inl rfl | exact .inr (.inl rfl) | exact .inr (.inr rfl))) a_nil))))
    (ss_cons (s_ownD (i := 12) sc_law.nd rfl (by first | exact .inl rfl | exact .inr rfl) (fd_copy (by rfl) T.n_dict (x_var (i := 3) rfl (by first | exact .inl rfl | exact .inr (.inl rfl) | exact .inr (.inr rfl)))))
    (ss_cons (s_dsO (i := 12) rfl (room65 hr) rfl (by first | exact .inl rfl | exact .inr (.inl rfl) | exact .inr (.inr rfl)) (x_var (i := 4) rfl (by first | exact .inl rfl | exact .inr (.inl rfl) | exact .inr (.inr rfl))) (x_var (i := 10) rfl (by first | exact .inl rfl | exact .inr (.inl rfl) | exact .inr (.inr rfl))))
    (ss_cons (s_frzD (i := 12) (s_if (w_pt (w_or (t_not (t_val (x_df G__law_tells shp_sh hr (by decide) (by rfl) (takes_of rfl rfl rfl rfl) (a_cons (x_var (i := 11) rfl (by first | exact .inl rfl | exact .inr (.inl rfl) | exact .inr (.inr rfl))) (a_cons (x_var (i := 12) rfl (by first | exact .inl rfl | exact .inr (.inl rfl) | exact .inr (.inr rfl))) a_nil))))) (w_or1 (t_cmp (ops_neP rfl (room64 hr)) (x_callB (calls_repr rfl hgd (have z := room64 hr; z)) (by rfl) T.n_repr (by decide +kernel) (a_cons (x_cmpE (oe_eq (c := "House") (bi := []) (cs := ["House"]) rfl T.eq_House G_House_eq shp_sh ⟨(fun _ h => nomatch h), (to_cons (P := fun t => PySem.W.notFirst K (He.ga K "House") t = true) T.cl_House T.in_House T.nf_House_House (to_nil (K := K) (P := fun t => PySem.W.notFirst K (He.ga K "House") t = true)))⟩ hr (by decide)) (x_var (i := 11) rfl (by first | exact .inl rfl | exact .inr (.inl rfl) | exact .inr (.inr rfl))) (x_var (i := 6) rfl (by first | exact .inl rfl | exact .inr (.inl rfl) | exact .inr (.inr rfl))) (nomark _)) a_nil)) (x_callB (calls_repr rfl hgd (have z := room64 hr; z)) (by rfl) T.n_repr (by decide +kernel) (a_cons (x_cmp (ops_eqP rfl (room64 hr)) (x_var (i := 10) rfl (by first | exact .inl rfl | exact .inr (.inl rfl) | exact .inr (.inr rfl))) (x_get2 rfl (room65 hr) (x_var (i := 3) rfl (by first | exact .inl rfl | exact .inr (.inl rfl) | exact .inr (.inr rfl))) (x_var (i := 4) rfl (by first | exact .inl rfl | exact .inr (.inl rfl) | exact .inr (.inr rfl))) x_int ⟨rfl, rfl, rfl, rfl⟩) (nomark _)) a_nil)) (nomark _)))))
    (ss_one (s_ret x_bl))
    ss_nil))
    (ss_cons (s_dsC rfl (room65 hr) (x_var (i := 3) rfl (by first | exact .inl rfl | exact .inr (.inl rfl) | exact .inr (.inr rfl))) (x_var (i := 4) rfl (by first | exact .inl rfl | exact .inr (.inl rfl) | exact .inr (.inr rfl))) (x_op (ops_add rfl) (x_get2 rfl (room65 hr) (x_var (i := 3) rfl (by first | exact .inl rfl | exact .inr (.inl rfl) | exact .inr (.inr rfl))) (x_var (i := 4) rfl (by first | exact .inl rfl | exact .inr (.inl rfl) | exact .inr (.inr rfl))) x_int ⟨rfl, rfl, rfl, rfl⟩) x_int))
    (ss_cons (s_if (w_pt (w_or (t_not (t_val (x_df G__law_tells shp_sh hr (by decide) (by rfl) (takes_of rfl rfl rfl rfl) (a_cons (x_var (i := 6) rfl (by first | exact .inl rfl | exact .inr (.inl rfl) | exact .inr (.inr rfl))) (a_cons (x_var (i := 5) rfl (by first | exact .inl rfl | exact .inr (.inl rfl) | exact .inr (.inr rfl))) a_nil))))) (w_or1 (t_not (t_val (x_dg hgd G__law_in_right shp_sh hr (by decide) (by rfl) (takes_of rfl rfl rfl rfl) (a_cons (x_var (i := 1) rfl (by first | exact .inl rfl | exact .inr (.inl rfl) | exact .inr (.inr rfl))) (a_cons (x_var (i := 6) rfl (by first | exact .inl rfl | exact .inr (.inl rfl) | exact .inr (.inr rfl))) (a_cons (x_var (i := 5) rfl (by first | exact .inl rfl | exact .inr (.inl rfl) | exact .inr (.inr rfl))) (a_cons (x_var (i := 4) rfl (by first | exact .inl rfl | exact .inr (.inl rfl) | exact .inr (.inr rfl))) a_nil))))))))))
    (ss_one (s_ret x_bl))
    ss_nil)
    (ss_cons (s_par (i := 9) (j := 8) rfl sc_law.nd rfl rfl (by decide) rfl rfl (a_cons (x_df G__law_number shp_sh hr (by decide) (by rfl) (takes_of rfl rfl rfl rfl) (a_cons (x_var (i := 1) rfl (by first | exact .inl rfl | exact .inr (.inl rfl) | exact .inr (.inr rfl))) a_nil)) (a_cons (x_df G__law_number shp_sh hr (by decide) (by rfl) (takes_of rfl rfl rfl rfl) (a_cons (x_var (i := 1) rfl (by first | exact .inl rfl | exact .inr (.inl rfl) | exact .inr (.inr rfl))) a_nil)) a_nil)) (by rfl))
    (ss_cons (s_par (i := 6) (j := 12) rfl sc_law.nd rfl rfl (by decide) rfl rfl (a_cons (x_mkKwD (c := "House") rfl (x_cls rfl (by rfl) T.g_House) T.mk_House G_House_init_Dx_north_c (shi_kwdK (kfit_all (by decide +kernel)) shi_in) hr (by decide) (takes_of rfl rfl rfl rfl) (ak_cons (x_var (i := 9) rfl (by first | exact .inl rfl | exact .inr (.inl rfl) | exact .inr (.inr rfl))) (ak_cons (x_var (i := 8) rfl (by first | exact .inl rfl | exact .inr (.inl rfl) | exact .inr (.inr rfl))) (ak_cons x_int ak_nil))) (kn_cons (kn_cons (kn_cons kn_nil)))) (a_cons (x_newD (fd_disp (pp_cons x_str x_int (pp_cons x_str (x_var (i := 8) rfl (by first | exact .inl rfl | exact .inr (.inl rfl) | exact .inr (.inr rfl))) (pp_cons x_str (x_var (i := 9) rfl (by first | exact .inl rfl | exact .inr (.inl rfl) | exact .inr (.inr rfl))) pp_nil))))) a_nil)) (by rfl))
    (ss_one (s_frzD (i := 12) (s_if (t_not (t_val (x_df G__law_tells shp_sh hr (by decide) (by rfl) (takes_of rfl rfl rfl rfl) (a_cons (x_var (i := 6) rfl (by first | exact .inl rfl | exact .inr (.inl rfl) | exact .inr (.inr rfl))) (a_cons (x_var (i := 12) rfl (by first | exact .inl rfl | exact .inr (.inl rfl) | exact .inr (.inr rfl))) a_nil)))))
    (ss_one (s_ret x_bl))
    ss_nil))))))))))))))))))))
    (ss_cons (s_if (w_pt (w_or (t_cmpE (oe_ne (c := "House") (bi := []) (cs := ["House"]) rfl T.eq_House G_House_eq shp_sh ⟨(fun _ h => nomatch h), (to_cons (P := fun t => PySem.W.notFirst K (He.ga K "House") t = true) T.cl_House T.in_House T.nf_House_House (to_nil (K := K) (P := fun t => PySem.W.notFirst K (He.ga K "House") t = true)))⟩ hr (by decide)) (x_mkKwD (c := "House") rfl (x_cls rfl (by rfl) T.g_House) T.mk_House G_House_init_Dx (shi_kwdK (kfit_all (by decide +kernel)) shi_in) hr (by decide) (takes_of rfl rfl rfl rfl) (ak_cons x_int ak_nil) (kn_cons kn_nil)) (x_mk0 (c := "House") rfl (x_cls rfl (by rfl) T.g_House) T.mk_House G_House_init (shi_star 0 (shi_kwd shi_in)) hr (by decide) (takes_of rfl rfl rfl rfl)) (nomark _)) (w_or1 (t_cmpE (oe_ne (c := "House") (bi := []) (cs := ["House"]) rfl T.eq_House G_House_eq shp_sh ⟨(fun _ h => nomatch h), (to_cons (P := fun t => PySem.W.notFirst K (He.ga K "House") t = true) T.cl_House T.in_House T.nf_House_House (to_nil (K := K) (P := fun t => PySem.W.notFirst K (He.ga K "House") t = true)))⟩ hr (by decide)) (x_cf0 (c := "House") rfl (x_cls rfl (by rfl) T.g_House) T.cr_House T.cf_House_none (fs_of G_House_none) shp_sh hr (by decide) (takes_of rfl rfl rfl rfl)) (x_cm (c := "House") rfl (x_cls rfl (by rfl) T.g_House) T.cr_House T.cm_House_of (fs_of G_House_of) shp_sh hr (by decide) (takes_of rfl rfl rfl rfl) (a_cons (x_newD fd_nil) a_nil)) (nomark _)))))
    (ss_one (s_ret x_bl))
    ss_nil)
    (ss_cons (s_if (t_cmp (ops_neP rfl (room64 hr)) (x_gi (c := "House") rfl T.own_House_getitem (fnIn_of T.d_House_getitem) (fs_of G_House_getitem) shp_sh hr (by decide) (takes_of rfl rfl rfl rfl) (x_cm (c := "House") rfl (x_cls rfl (by rfl) T.g_House) T.cr_House T.cm_House_of (fs_of G_House_of) shp_sh hr (by decide) (takes_of rfl rfl rfl rfl) (a_cons (x_newD (fd_disp (pp_cons x_str x_int pp_nil))) a_nil)) x_str) x_int (nomark _))
    (ss_one (s_ret x_bl))
    ss_nil)
    (ss_cons (s_if (w_pt (w_or (t_cmp (ops_neP rfl (room64 hr)) (x_cv (c := "House") (i := 60) rfl (x_cls rfl (by rfl) T.g_House) T.cr_House T.cv_House_DIGITS) x_int (nomark _)) (w_or (t_cmp (ops_neP rfl (room64 hr)) (x_ci (c := "House") (i := 60) rfl (x_mkKwD (c := "House") rfl (x_cls rfl (by rfl) T.g_House) T.mk_House G_House_init_Dx (shi_kwdK (kfit_all (by decide +kernel)) shi_in) hr (by decide) (takes_of rfl rfl rfl rfl) (ak_cons x_int ak_nil) (kn_cons kn_nil)) T.cl_House T.co_House_DIGITS) x_int (nomark _)) (w_or1 (t_cmpE (oe_eq (c := "House") (bi := ["NoneType", "bool", "int", "str", "list", "tuple", "dict"]) (cs := []) rfl T.eq_House G_House_eq shp_sh ⟨T.nfs_House, (to_nil (K := K) (P := fun t => PySem.W.notFirst K (He.ga K "House") t = true))⟩ hr (by decide)) (x_mk0 (c := "House") rfl (x_cls rfl (by rfl) T.g_House) T.mk_House G_House_init (shi_star 0 (shi_kwd shi_in)) hr (by decide) (takes_of rfl rfl rfl rfl)) x_non (nomark _))))))
    (ss_one (s_ret x_bl))
    ss_nil)
    (ss_one (s_ret (x_df G__law_tells shp_sh hr (by decide) (by rfl) (takes_of rfl rfl rfl rfl) (a_cons (x_mk0 (c := "House") rfl (x_cls rfl (by rfl) T.g_House) T.mk_House G_House_init (shi_star 0 (shi_kwd shi_in)) hr (by decide) (takes_of rfl rfl rfl rfl)) (a_cons (x_newD fd_nil) a_nil))))))))))
end
end Nk
namespace Nk
open PySem PyProof.Rows L2 Sh
def isLet (c : Nat) : Bool := decide (97 ≤ c ∧ c ≤ 122)
def isNm (x : Str) : Bool := decide (1 ≤ x.length ∧ x.length ≤ 8) && x.cps.toList.all isLet
theorem letters_at (c : Nat) : decide (c ∈ (Str.ofString "abcdefghijklmnopqrstuvwxyz").cps.toList) = isLet c := by
  have e : (Str.ofString "abcdefghijklmnopqrstuvwxyz").cps.toList = (List.range 26).map (97 + ·) := by decide +kernel
  rw [e]
  unfold isLet
  apply Bool.eq_iff_iff.mpr
  simp only [decide_eq_true_eq, List.mem_map, List.mem_range]
  exact ⟨fun ⟨a, h, e⟩ => by omega, fun h => ⟨c - 97, by omega, by omega⟩⟩
theorem dIn_sign (c : Nat) (z : Str) : dIn (.str ⟨#[c]⟩) (.str z) = some (.bl (decide (c ∈ z.cps.toList))) := rfl
theorem bs_bl (bs : List Bool) : D.bs (bs.map D.bl) = some bs := by
  induction bs with
  | nil => rfl
  | cons b r ih => simp only [List.map_cons, D.bs, D.b, ih]
theorem is_name_str (x : Str) (S : Store) : sh_is_name [.str x] S = .ok (.bl (isNm x)) S := by
  unfold sh_is_name pic_is_name
  simp_all_arith [isiF, show dLen [.str x] = some (.int x.length) from rfl, show ["str"].contains "str" = true from rfl]
  by_cases h1 : (1 : Int) ≤ x.length
  · by_cases h2 : (x.length : Int) ≤ 8
    · have hl : (x.cps.toList.map fun c => D.str ⟨#[c]⟩).length ≤ sizeLine := by
        rw [List.length_map]
        have : x.length = x.cps.toList.length := by simp [Str.length]
        show _ ≤ 16777216
        rw [← this]; omega
      have hm : mapA (gN 1) tYesD (eBin dIn (eVar 1) (eC (.str "abcdefghijklmnopqrstuvwxyz"))) [] (x.cps.toList.map fun c => D.str ⟨#[c]⟩) [.val (.str x), .no] S = .ok ((x.cps.toList.map isLet).map D.bl) S := by
        have := mapA_map (g := gN 1) (f := eBin dIn (eVar 1) (eC (.str "abcdefghijklmnopqrstuvwxyz"))) (e := [.val (.str x), .no]) (S := S) (fun d => match d with | .str z => .bl (isLet (z.cps.toList.headD 0)) | _ => .non) (x.cps.toList.map fun c => D.str ⟨#[c]⟩) [] (fun d hd => by
          obtain ⟨c, hc, rfl⟩ := List.mem_map.mp hd
          refine ⟨[.val (.str x), .val (.str ⟨#[c]⟩)], rfl, ?_⟩
          simp_all_arith [dIn_sign, letters_at]
          rfl)
        rw [List.nil_append, List.map_map] at this
        rw [this, List.map_map]
        rfl
      rw [List.length_map] at hl
      simp_all_arith [h1, h2, hl, hm, bs_bl, dAll_b]
      simp [isNm, h1, h2, List.all_map]
      omega
    · simp_all_arith [h1, h2]
      unfold isNm
      rw [decide_eq_false (by omega)]
      rfl
  · simp_all_arith [h1]
    unfold isNm
    rw [decide_eq_false (by omega)]
    rfl
theorem dEq_ii {a b : Int} : dEq (.int a) (.int b) = some (.bl (a == b)) := by
  unfold dEq dEqP D.py
  dsimp only
  rw [if_pos (by simp only [PyData.depth]; decide)]
  rfl
end Nk
namespace Nk
open PySem PyProof.Rows L2 Sh
theorem within_h (v a b : Int) (S : Store) : sh_is_within [.int v, .int a, .int b] S = .ok (.bl (decide (a ≤ v ∧ v ≤ b))) S := by
  have hi : sh_is_integer [.int v] S = .ok (.bl true) S := by
    unfold sh_is_integer pic_is_integer
    simp_all_arith
  unfold sh_is_within pic_is_within
  by_cases h1 : a ≤ v
  · simp_all_arith [hi, decide_eq_true h1]
    simp [h1]
  · simp_all_arith [hi, decide_eq_false h1]
    simp [h1]
abbrev MXN : Int := 999999999999999999999999999999999999999999999999999999999999
theorem is_num (v : Int) (S : Store) : sh_is_number [.int v] S = .ok (.bl (decide (0 ≤ v ∧ v ≤ MXN))) S := by
  unfold sh_is_number pic_is_number
  simp_all_arith [within_h]
abbrev Nb := Str × Int
def nk (p : Nb) : Key × D := (.inr p.1, .int p.2)
abbrev nks (xs : List Nb) : List (Key × D) := xs.map nk
abbrev nms (xs : List Nb) : List Str := xs.map (·.1)
def nget : List Nb → Str → Int
  | [], _ => 0
  | p :: r, z => if p.1 = z then p.2 else nget r z
theorem dkV_nks : ∀ (xs : List Nb) (z : Str), dkV (nks xs) (.inr z) = if z ∈ nms xs then some (.int (nget xs z)) else none
  | [], z => rfl
  | p :: r, z => by
    have ih := dkV_nks r z
    show dkV (nk p :: nks r) (.inr z) = _
    unfold dkV nget
    by_cases h : p.1 = z
    · have h1 : (nk p).1 = .inr z := by unfold nk; rw [h]
      rw [if_pos h1, if_pos h, if_pos (by show z ∈ p.1 :: nms r; rw [h]; exact List.mem_cons_self)]
      rfl
    · have h1 : ¬ (nk p).1 = .inr z := fun e => h (by unfold nk at e; exact Sum.inr.inj e)
      rw [if_neg h1, if_neg h, ih]
      have : (z ∈ nms (p :: r)) = (z ∈ nms r) := by
        show (z ∈ p.1 :: nms r) = _
        rw [List.mem_cons]
        exact propext ⟨fun q => q.elim (fun e => absurd e.symm h) id, .inr⟩
      simp only [this]
theorem dkV_get (xs : List Nb) (z : Str) : (dkV (nks xs) (.inr z)).getD (.int 0) = .int (nget xs z) := by
  rw [dkV_nks]
  by_cases h : z ∈ nms xs
  · rw [if_pos h]; rfl
  · rw [if_neg h]
    have : ∀ (xs : List Nb), z ∉ nms xs → nget xs z = 0 := by
      intro xs
      induction xs with
      | nil => exact fun _ => rfl
      | cons p r ih =>
        intro h
        have h : ¬ z ∈ p.1 :: nms r := h
        rw [List.mem_cons, not_or] at h
        unfold nget
        rw [if_neg fun e => h.1 e.symm]
        exact ih h.2
    rw [this xs h]
    rfl
theorem nget_no {xs : List Nb} {z : Str} (h : z ∉ nms xs) : nget xs z = 0 := by
  have := dkV_get xs z
  rw [dkV_nks, if_neg h] at this
  exact (D.int.inj this).symm
def normB (xs : List Nb) : List Nb := ((srtS (nms xs)).map fun z => (z, nget xs z)).filter fun p => p.2 != 0
theorem nget_flt (f : Str → Int) : ∀ (l : List Str) (z : Str), nget ((l.map fun z => (z, f z)).filter fun p => p.2 != 0) z = if z ∈ l then f z else 0
  | [], z => rfl
  | x :: l, z => by
    have ih := nget_flt f l z
    rw [List.map_cons]
    by_cases h0 : f x = 0
    · rw [List.filter_cons_of_neg (by simp [h0]), ih]
      by_cases hz : z = x
      · subst hz
        rw [if_pos List.mem_cons_self]
        by_cases hm : z ∈ l
        · rw [if_pos hm]
        · rw [if_neg hm, h0]
      · by_cases hm : z ∈ l
        · rw [if_pos hm, if_pos (List.mem_cons_of_mem _ hm)]
        · rw [if_neg hm, if_neg (fun q => (List.mem_cons.mp q).elim hz hm)]
    · rw [List.filter_cons_of_pos (by simp [h0])]
      unfold nget
      by_cases hz : x = z
      · subst hz
        rw [if_pos rfl, if_pos List.mem_cons_self]
      · rw [if_neg hz, ih]
        by_cases hm : z ∈ l
        · rw [if_pos hm, if_pos (List.mem_cons_of_mem _ hm)]
        · rw [if_neg hm, if_neg (fun q => (List.mem_cons.mp q).elim (fun e => hz e.symm) hm)]
theorem nget_norm (xs : List Nb) (z : Str) : nget (normB xs) z = nget xs z := by
  unfold normB
  rw [nget_flt]
  by_cases h : z ∈ nms xs
  · rw [if_pos ((srtS_perm _).mem_iff.mpr h)]
  · rw [if_neg (fun q => h ((srtS_perm _).mem_iff.mp q)), nget_no h]
theorem norm_len (xs : List Nb) : (normB xs).length ≤ xs.length := by
  unfold normB
  refine Nat.le_trans (List.length_filter_le _ _) ?_
  rw [List.length_map, (srtS_perm _).length_eq, List.length_map]
  exact Nat.le_refl _
theorem norm_nms_sub (xs : List Nb) : (nms (normB xs)).Sublist (srtS (nms xs)) := by
  have : ∀ l : List Str, (nms ((l.map fun z => (z, nget xs z)).filter fun p => p.2 != 0)).Sublist l := by
    intro l
    induction l with
    | nil => exact List.Sublist.refl _
    | cons x l ih =>
      rw [List.map_cons]
      by_cases h0 : nget xs x = 0
      · rw [List.filter_cons_of_neg (by simp [h0])]
        exact ih.cons _
      · rw [List.filter_cons_of_pos (by simp [h0])]
        exact ih.cons₂ _
  exact this _
abbrev tbl (xs : List Nb) : D := .fk (nks xs)
abbrev HsD (xs : List Nb) : D := .obj "House" [("own_numbers", tbl xs)]
structure OkT (xs : List Nb) : Prop where
  n : ∀ p ∈ xs, isNm p.1 = true
  v : ∀ p ∈ xs, 0 ≤ p.2 ∧ p.2 ≤ MXN
  d : (nms xs).Nodup
  l : xs.length ≤ 60
theorem keys_nks (xs : List Nb) : ((nks xs).map fun p => keyD p.1) = (nms xs).map D.str := by
  rw [List.map_map, List.map_map]
  rfl
theorem nget_mem : ∀ {xs : List Nb} {z : Str}, z ∈ nms xs → ∃ p ∈ xs, p.1 = z ∧ nget xs z = p.2
  | [], z, h => nomatch h
  | p :: r, z, h => by
    unfold nget
    by_cases e : p.1 = z
    · exact ⟨p, List.mem_cons_self, e, by rw [if_pos e]⟩
    · rw [if_neg e]
      have h : z ∈ p.1 :: nms r := h
      obtain ⟨q, hq, e1, e2⟩ := nget_mem ((List.mem_cons.mp h).resolve_left fun q => e q.symm)
      exact ⟨q, List.mem_cons_of_mem _ hq, e1, e2⟩
theorem nget_ok {xs : List Nb} (h : OkT xs) (z : Str) : 0 ≤ nget xs z ∧ nget xs z ≤ MXN := by
  by_cases hz : z ∈ nms xs
  · obtain ⟨p, hp, _, e⟩ := nget_mem hz
    rw [e]; exact h.v p hp
  · rw [nget_no hz]; exact ⟨by omega, by decide⟩
theorem names_loop (t : D) (a2 a3 : Sl) (S : Store) : ∀ (zs : List Str) (a1 : Sl), a1.free = true → (∀ z ∈ zs, isNm z = true) → ∃ y, y.free = true ∧ forD (gN 1) (sIf (tNt (tVal (eDf sh_is_name (aCons (eVar 1) aNil))))
    (sRs "BadName" ["value"] (aCons (eVar 1) aNil))
    sNil) (zs.map D.str) [.val t, a1, a2, a3] S = .nx [.val t, y, a2, a3] S
  | [], a1, f1, _ => ⟨a1, f1, rfl⟩
  | z :: zs, a1, f1, h => by
    obtain ⟨y, fy, e⟩ := names_loop t a2 a3 S zs (.val (.str z)) rfl (fun x hx => h x (List.mem_cons_of_mem _ hx))
    refine ⟨y, fy, ?_⟩
    rw [List.map_cons, Sh.forD_cons]
    simp_all_arith [f1, is_name_str, h z List.mem_cons_self]
    exact e
structure Tb (S : Store) (t : D) (xs : List Nb) : Prop where
  f : t.fkv S = some (nks xs)
  d : t.dkv S = some (nks xs)
  i : isiC ["dict"] [] S t = some true
theorem Tb.val (S : Store) (xs : List Nb) : Tb S (tbl xs) xs := ⟨rfl, rfl, rfl⟩
theorem Tb.cell {S : Store} {n : Nat} {xs : List Nb} (h : S[n]? = some (.fk (nks xs))) : Tb S (.ref n) xs := ⟨fkv_ref h, dkv_reff h, by unfold isiC; dsimp only; rw [h]; rfl⟩
theorem nums_loop {t : D} {S : Store} (xs : List Nb) (ht : Tb S t xs) (h : OkT xs) (a1 a2 : Sl) : ∀ (zs : List Str) (a3 : Sl), a3.free = true → (∀ z ∈ zs, z ∈ nms xs) → ∃ y, y.free = true ∧ forD (gN 3) (sIf (tNt (tVal (eDf sh_is_number (aCons (eDix (eVar 0) (eVar 3)) aNil))))
    (sRs "BadNumber" ["value"] (aCons (eDix (eVar 0) (eVar 3)) aNil))
    sNil) (zs.map D.str) [.val t, a1, a2, a3] S = .nx [.val t, a1, a2, y] S
  | [], a3, f3, _ => ⟨a3, f3, rfl⟩
  | z :: zs, a3, f3, hz => by
    obtain ⟨y, fy, e⟩ := nums_loop xs ht h a1 a2 zs (.val (.str z)) rfl (fun x hx => hz x (List.mem_cons_of_mem _ hx))
    refine ⟨y, fy, ?_⟩
    have g := dkV_nks xs z
    rw [if_pos (hz z List.mem_cons_self)] at g
    have n := nget_ok h z
    rw [List.map_cons, Sh.forD_cons]
    simp_all_arith [f3, ht.d, g, is_num, decide_eq_true n]
    exact e
theorem dkSt_new {kvs : List (Key × D)} {k : Key} {d : D} (h : ∀ p ∈ kvs, p.1 ≠ k) : dkSt kvs k d = kvs ++ [(k, d)] := by
  unfold dkSt
  rw [if_neg]
  rw [List.any_eq_true]
  rintro ⟨p, hp, e⟩
  exact h p hp (of_decide_eq_true e)
theorem norm_comp {t : D} {S : Store} (xs : List Nb) (ht : Tb S t xs) (a1 a2 : Sl) : ∀ (zs : List Str) (acc : List Nb), (nms acc ++ zs).Nodup → (∀ z ∈ zs, z ∈ nms xs) → mapK (gN 3) (tVal (eBin dNe (eDix (eVar 0) (eVar 3)) (eC (.int 0)))) (eVar 3) (eDix (eVar 0) (eVar 3)) (nks acc) (zs.map D.str) [.val t, a1, a2, .no] S = .ok (nks (acc ++ (zs.map fun z => (z, nget xs z)).filter fun p => p.2 != 0)) S
  | [], acc, _, _ => by rw [List.map_nil, List.map_nil, List.filter_nil, List.append_nil]; rfl
  | z :: zs, acc, hd, hz => by
    have g := dkV_nks xs z
    rw [if_pos (hz z List.mem_cons_self)] at g
    have hz2 : ∀ x ∈ zs, x ∈ nms xs := fun x hx => hz x (List.mem_cons_of_mem _ hx)
    rw [List.map_cons, List.map_cons, mapK_cons]
    by_cases h0 : nget xs z = 0
    · have ih := norm_comp xs ht a1 a2 zs acc (hd.sublist ((List.Sublist.refl (nms acc)).append (List.sublist_cons_self z zs))) hz2
      rw [List.filter_cons_of_neg (by simp [h0])]
      have e0 : (nget xs z == 0) = true := by simp [h0]
      simp_all_arith [ht.d, g, h0]
      exact ih
    · have hn : z ∉ nms acc := fun q => (List.nodup_append.mp hd).2.2 z q z List.mem_cons_self rfl
      have ih := norm_comp xs ht a1 a2 zs (acc ++ [(z, nget xs z)]) (by
        show (nms (acc ++ [(z, nget xs z)]) ++ zs).Nodup
        rw [show nms (acc ++ [(z, nget xs z)]) = nms acc ++ [z] from List.map_append .., List.append_assoc]
        exact hd) hz2
      rw [List.filter_cons_of_pos (by simp [h0])]
      have e0 : (nget xs z == 0) = false := by simpa using h0
      have st : dkSt (nks acc) (.inr z) (.int (nget xs z)) = nks (acc ++ [(z, nget xs z)]) := by
        rw [dkSt_new]
        · show nks acc ++ [nk (z, nget xs z)] = _
          simp
        · intro p hp e
          obtain ⟨q, hq, rfl⟩ := List.mem_map.mp hp
          unfold nk at e
          exact hn (by rw [← Sum.inr.inj e]; exact List.mem_map_of_mem hq)
      rw [List.append_assoc, List.singleton_append] at ih
      simp_all_arith [ht.d, g, e0, st]
      exact ih
theorem srt_nodup {l : List Str} (h : l.Nodup) : (srtS l).Nodup := (srtS_perm l).nodup_iff.mpr h
theorem numbers_ok {t : D} {S : Store} (xs : List Nb) (ht : Tb S t xs) (h : OkT xs) : sh_numbers_of [t] S = .ok (tbl (normB xs)) S := by
  have hk := keys_nks xs
  have hl : (nms xs).length ≤ 60 := by rw [List.length_map]; exact h.l
  obtain ⟨y1, f1, e1⟩ := names_loop t .no .no S (nms xs) .no rfl (fun z hz => by obtain ⟨p, hp, rfl⟩ := List.mem_map.mp hz; exact h.n p hp)
  have m := mapA_enc (g := gN 1) (f := eCall dStr (aCons (eVar 1) aNil)) (e := [.val (t), .no, .no, .no]) (S := S) D.str D.str (nms xs) [] (fun z _ => ⟨[.val (t), .val (.str z), .no, .no], by simp_all_arith, by simp_all_arith⟩)
  rw [List.nil_append] at m
  have so : dSorted [.lst ((nms xs).map D.str)] = some (.lst ((srtS (nms xs)).map D.str)) := by
    unfold dSorted
    dsimp only
    rw [Sh.strs_map]
    dsimp only
    rw [if_pos (by omega)]
  have hs : ∀ z ∈ srtS (nms xs), z ∈ nms xs := fun z hz => (srtS_perm _).mem_iff.mp hz
  obtain ⟨y3, f3, e3⟩ := nums_loop xs ht h y1 (.val (.lst ((srtS (nms xs)).map D.str))) (srtS (nms xs)) .no rfl hs
  have c := norm_comp xs ht y1 (.val (.lst ((srtS (nms xs)).map D.str))) (srtS (nms xs)) [] (by rw [show nms [] = [] from rfl, List.nil_append]; exact srt_nodup h.d) hs
  rw [show nks [] = [] from rfl, List.nil_append] at c
  have hxl := h.l
  have hl4 : (srtS (nms xs)).length ≤ 100 := by rw [(srtS_perm _).length_eq]; omega
  have hl2 : ((nms xs).map D.str).length ≤ 100 := by rw [List.length_map]; omega
  have hl3 : ((srtS (nms xs)).map D.str).length ≤ 100 := by rw [List.length_map, (srtS_perm _).length_eq]; omega
  unfold sh_numbers_of pic_numbers_of
  simp_all_arith [ht.i, ht.f, hk, e1, m, so, e3, c, hl2, hl3, f1, f3, hxl, hl4]
  rfl
theorem house_init {t : D} {S : Store} (xs : List Nb) (ht : Tb S t xs) (h : OkT xs) : sh_House_init (.ins "House" []) [.tup [t], .fk []] S = .ok (.ins "House" [("own_numbers", tbl (normB xs))]) S := by
  have so : dSorted [.lst []] = some (.lst []) := rfl
  unfold sh_House_init pic_House_init
  simp_all_arith [numbers_ok xs ht h, so, putD]
theorem house_of {t : D} {S : Store} (xs : List Nb) (ht : Tb S t xs) (h : OkT xs) : sh_House_of [.cls "House", t] S = .ok (HsD (normB xs)) S := by
  unfold sh_House_of pic_House_of
  simp_all_arith [house_init xs ht h]
theorem house_init0 (S : Store) : sh_House_init (.ins "House" []) [.tup [], .fk []] S = .ok (.ins "House" [("own_numbers", tbl [])]) S := by
  have so : dSorted [.lst []] = some (.lst []) := rfl
  have n := numbers_ok (S := S) [] (Tb.val S []) ⟨fun _ h => (nomatch h), fun _ h => (nomatch h), List.nodup_nil, by decide⟩
  change sh_numbers_of [.fk []] S = .ok (.fk []) S at n
  unfold sh_House_init pic_House_init
  simp_all_arith [n, so, putD]
  rfl
theorem house_get (xs : List Nb) {z : Str} (hz : isNm z = true) (S : Store) : sh_House_getitem [HsD xs, .str z] S = .ok (.int (nget xs z)) S := by
  have n : sh_need_name [.str z] S = .ok .non S := by
    unfold sh_need_name pic_need_name
    simp_all_arith [is_name_str, hz]
  have g := dkV_get xs z
  unfold sh_House_getitem pic_House_getitem
  simp_all_arith [n, g]
end Nk
namespace Nk
open PySem PyProof.Rows L2 Sh
theorem nd_le : ∀ {a b : List Str}, a.Nodup → (∀ z ∈ a, z ∈ b) → a.length ≤ b.length
  | [], b, _, _ => Nat.zero_le _
  | x :: a, b, hd, hs => by
    have h1 := List.nodup_cons.mp hd
    have hx := hs x List.mem_cons_self
    have := nd_le (b := b.erase x) h1.2 fun z hz => (List.mem_erase_of_ne (fun (e : z = x) => h1.1 (e ▸ hz))).mpr (hs z (List.mem_cons_of_mem _ hz))
    rw [List.length_erase_of_mem hx] at this
    have hp : 0 < b.length := List.length_pos_of_mem hx
    rw [List.length_cons]
    omega
abbrev leC (x y : Str) : Prop := x.cps.toList ≤ y.cps.toList
structure NF (a : List Nb) : Prop where
  n : ∀ p ∈ a, isNm p.1 = true
  v : ∀ p ∈ a, 0 < p.2 ∧ p.2 ≤ MXN
  s : (nms a).Pairwise leC
  d : (nms a).Nodup
theorem NF.mem {a : List Nb} (h : NF a) (z : Str) : z ∈ nms a ↔ nget a z ≠ 0 := by
  constructor
  · intro hz
    obtain ⟨p, hp, _, e⟩ := nget_mem hz
    rw [e]
    have := (h.v p hp).1
    omega
  · intro hz
    exact Classical.byContradiction fun n => hz (nget_no n)
theorem NF.nn {a : List Nb} (h : NF a) (z : Str) : 0 ≤ nget a z ∧ nget a z ≤ MXN := by
  by_cases hz : z ∈ nms a
  · obtain ⟨p, hp, _, e⟩ := nget_mem hz
    have := h.v p hp
    rw [e]; omega
  · rw [nget_no hz]; exact ⟨by omega, by decide⟩
theorem NF.nm {a : List Nb} (h : NF a) {z : Str} (hz : z ∈ nms a) : isNm z = true := by
  obtain ⟨p, hp, rfl⟩ := List.mem_map.mp hz
  exact h.n p hp
theorem tab_of : ∀ {a : List Nb}, (nms a).Nodup → a = (nms a).map fun z => (z, nget a z)
  | [], _ => rfl
  | p :: a, h => by
    have h : (p.1 :: nms a).Nodup := h
    have h1 := List.nodup_cons.mp h
    have ih := tab_of h1.2
    show p :: a = (p.1, nget (p :: a) p.1) :: (nms a).map fun z => (z, nget (p :: a) z)
    have e1 : nget (p :: a) p.1 = p.2 := by unfold nget; rw [if_pos rfl]
    rw [e1]
    have : ((nms a).map fun z => (z, nget (p :: a) z)) = (nms a).map fun z => (z, nget a z) := by
      refine List.map_congr_left fun z hz => ?_
      have : nget (p :: a) z = nget a z := by
        show (if p.1 = z then p.2 else nget a z) = _
        rw [if_neg (fun (e : p.1 = z) => h1.1 (e ▸ hz))]
      rw [this]
    rw [this, ← ih]
theorem NF.ext {a b : List Nb} (ha : NF a) (hb : NF b) (h : ∀ z, nget a z = nget b z) : a = b := by
  have hp : (nms a).Perm (nms b) := (List.perm_ext_iff_of_nodup ha.d hb.d).mpr fun z => by rw [ha.mem, hb.mem, h]
  have e : nms a = nms b := hp.eq_of_pairwise (fun x y _ _ h1 h2 => str_ext (List.le_antisymm h1 h2)) ha.s hb.s
  rw [tab_of ha.d, tab_of hb.d, e]
  exact List.map_congr_left fun z _ => by rw [h]
theorem norm_mem {xs : List Nb} (h : OkT xs) {p : Nb} (hp : p ∈ normB xs) : p.1 ∈ nms xs ∧ p.2 = nget xs p.1 ∧ p.2 ≠ 0 := by
  unfold normB at hp
  obtain ⟨h1, h2⟩ := List.mem_filter.mp hp
  obtain ⟨z, hz, rfl⟩ := List.mem_map.mp h1
  exact ⟨(srtS_perm _).mem_iff.mp hz, rfl, by simpa using h2⟩
theorem norm_NF {xs : List Nb} (h : OkT xs) : NF (normB xs) :=
  ⟨fun p hp => by
    obtain ⟨q, hq, e⟩ := List.mem_map.mp (norm_mem h hp).1
    rw [← e]; exact h.n q hq,
   fun p hp => by
    obtain ⟨_, e, n⟩ := norm_mem h hp
    have := nget_ok h p.1
    omega,
   (srtS_pw _).sublist (norm_nms_sub xs),
   (norm_nms_sub xs).nodup (srt_nodup h.d)⟩
theorem NF.ok {a : List Nb} (h : NF a) (hl : a.length ≤ 60) : OkT a := ⟨h.n, fun p hp => by have := h.v p hp; omega, h.d, hl⟩
theorem hits_ok (l : List Nb) : ∀ a : List Nb, dkHits (nks l) (nks a) = some (a.all fun p => decide (p.1 ∈ nms l) && p.2 == nget l p.1)
  | [] => rfl
  | p :: a => by
    have ih := hits_ok l a
    show dkHits (nks l) (nk p :: nks a) = _
    show (match dkV (nks l) (.inr p.1) with
      | none => some false
      | some d2 => (dEq (.int p.2) d2).bind fun b => b.b.bind fun b => (dkHits (nks l) (nks a)).map fun c => b && c) = _
    rw [dkV_nks, List.all_cons]
    by_cases h : p.1 ∈ nms l
    · rw [if_pos h, decide_eq_true h, ih]
      dsimp only
      rw [dEq_ii]
      rfl
    · rw [if_neg h, decide_eq_false h]
      rfl
theorem eq_tab (ha : NF a) (hb : NF b) : dkEq (nks a) (nks b) = some (decide (a = b)) := by
  unfold dkEq
  rw [List.length_map, List.length_map]
  by_cases hl : a.length = b.length
  · rw [if_pos hl, hits_ok]
    congr 1
    apply Bool.eq_iff_iff.mpr
    rw [List.all_eq_true, decide_eq_true_eq]
    constructor
    · intro h
      have hg : ∀ p ∈ a, p.1 ∈ nms b ∧ p.2 = nget b p.1 := fun p hp => by
        have := h p hp
        rw [Bool.and_eq_true, decide_eq_true_eq, beq_iff_eq] at this
        exact this
      have hs : ∀ z ∈ nms a, z ∈ nms b := fun z hz => by
        obtain ⟨p, hp, rfl⟩ := List.mem_map.mp hz
        exact (hg p hp).1
      refine ha.ext hb fun z => ?_
      by_cases hz : z ∈ nms a
      · obtain ⟨p, hp, e1, e2⟩ := nget_mem hz
        rw [e2, (hg p hp).2, e1]
      · rw [nget_no hz]
        by_cases hz2 : z ∈ nms b
        · have := nd_le (a := z :: nms a) (b := nms b) (List.nodup_cons.mpr ⟨hz, ha.d⟩) fun x hx => by
            rcases List.mem_cons.mp hx with rfl | hx
            · exact hz2
            · exact hs x hx
          rw [List.length_cons, List.length_map, List.length_map] at this
          omega
        · rw [nget_no hz2]
    · rintro rfl p hp
      rw [Bool.and_eq_true, decide_eq_true_eq, beq_iff_eq]
      refine ⟨List.mem_map_of_mem hp, ?_⟩
      have e := tab_of ha.d
      rw [e] at hp
      obtain ⟨z, hz, rfl⟩ := List.mem_map.mp hp
      rfl
  · rw [if_neg hl]
    congr 1
    exact (decide_eq_false fun e => hl (by rw [e])).symm
theorem heq_ok (ha : NF a) (hb : NF b) (S : Store) : sh_House_eq [HsD a, HsD b] S = .ok (.bl (decide (a = b))) S := by
  have e := eq_tab ha hb
  unfold sh_House_eq pic_House_eq
  simp_all_arith [e, isiF]
end Nk
namespace Nk
open PySem PyProof.Rows L2 Sh
def pen (xs : List Int) (at_ gr : Int) : Cell := .lst [.lst (xs.map .int), .int at_, .int gr]
theorem dNe_nil {xs : List Int} : dNe (.lst (xs.map D.int)) (.lst []) = some (.bl (!xs.isEmpty)) := by
  unfold dNe dEqP D.py
  rw [pys_ints]
  show (if _ then some (D.bl (!PyData.eqv (.list (xs.map PyData.int)) (.list []))) else none) = _
  have hd : (PyData.list (xs.map PyData.int)).depth ≤ 60 := by
    have : ∀ ys : List Int, PyData.depthAll (ys.map PyData.int) ≤ 1 := fun ys => by
      induction ys with
      | nil => decide
      | cons y r ih => simp only [List.map_cons, PyData.depthAll, PyData.depth]; omega
    have := this xs
    simp only [PyData.depth]
    omega
  rw [if_pos hd]
  cases xs with
  | nil => rfl
  | cons x r => rfl
theorem at_some {xs : List Int} {k : Int} (h0 : 0 ≤ k) (h : k < xs.length) : ∃ c, atI (xs.map D.int) k = some (.int c) := by
  unfold atI ixN
  rw [List.length_map, if_pos h0, if_pos h]
  have h2 : k.toNat < xs.length := by omega
  exact ⟨xs[k.toNat], by simp [h2]⟩
theorem draw (xs : List Int) (at_ gr many : Int) (T : Store) (h0 : 0 ≤ at_) (h1 : at_ ≤ 100000) (m0 : 0 < many) (m1 : many < 2 ^ 250) (hx : xs.length ≤ 63) :
    ∃ r a g, sh__law_draw [.ref 0, .int many] (pen xs at_ gr :: T) = .ok (.int r) (pen xs a g :: T) ∧ 0 ≤ r ∧ r < many ∧ at_ ≤ a ∧ a ≤ at_ + 1 := by
  have fd : ∀ a : Int, dFdiv (.int a) (.int many) = some (.int (a / many)) := fun a => by
    unfold dFdiv oI
    dsimp only
    rw [if_pos (show CDivW a many from Nk.c_divW m0 (by omega))]
  unfold sh__law_draw pic__law_draw pen
  simp_all_arith
  by_cases hg : 0 < gr
  · simp_all_arith [decide_eq_true hg, fd]
    exact ⟨_, _, _, rfl, Int.emod_nonneg _ (by omega), Int.emod_lt_of_pos _ m0, Int.le_refl _, by omega⟩
  · simp_all_arith [decide_eq_false hg]
    have e := dNe_nil (xs := xs)
    have hlm : (xs.map D.int).length = xs.length := List.length_map ..
    have mix : ∀ (c : Int), ∃ r, (pic__law_draw_mix [Sl.val (D.ref 0), Sl.val (D.int many), Sl.no, Sl.val (D.int at_), Sl.val (D.int c), Sl.no, Sl.no] (Cell.lst [D.lst (List.map D.int xs), D.int (at_ + 1), D.int gr] :: T)).res = R.ok (D.int r) (Cell.lst [D.lst (List.map D.int xs), D.int (at_ + 1), D.int gr] :: T) ∧ 0 ≤ r ∧ r < many := by
      intro c
      unfold pic__law_draw_mix
      simp_all_arith
      generalize hm : (c % 2147483563 + 1423 * at_ + 1109) ^ 5 % 2147483629 = m
      have hm0 : 0 ≤ m ∧ m < 2147483629 := by rw [← hm]; exact ⟨Int.emod_nonneg _ (by decide), Int.emod_lt_of_pos _ (by decide)⟩
      have h3 : m * (2 * at_ + 67) ≤ 2147483629 * 200067 := Int.mul_le_mul (by omega) (by omega) (by omega) (by omega)
      have h4 : 0 ≤ m * (2 * at_ + 67) := Int.mul_nonneg (by omega) (by omega)
      have h5 : 7561 * at_ * at_ ≤ (7561 * 100000) * 100000 := Int.mul_le_mul (by omega) (by omega) (by omega) (by omega)
      have h6 : 0 ≤ 7561 * at_ * at_ := Int.mul_nonneg (by omega) (by omega)
      try simp_all_arith
      exact ⟨_, rfl, Int.emod_nonneg _ (by omega), Int.emod_lt_of_pos _ m0⟩
    have tail : ∀ (c : Int), ∃ r a g, (pic__law_draw_tail [Sl.val (D.ref 0), Sl.val (D.int many), Sl.no, Sl.val (D.int at_), Sl.val (D.int c), Sl.no, Sl.no] (Cell.lst [D.lst (List.map D.int xs), D.int (at_ + 1), D.int gr] :: T)).res = R.ok (D.int r) (Cell.lst [D.lst (List.map D.int xs), D.int a, D.int g] :: T) ∧ 0 ≤ r ∧ r < many ∧ at_ ≤ a ∧ a ≤ at_ + 1 := by
      intro c
      unfold pic__law_draw_tail
      simp_all_arith [hlm]
      have fin : ∃ r a g, (pic__law_draw_mix [Sl.val (D.ref 0), Sl.val (D.int many), Sl.no, Sl.val (D.int at_), Sl.val (D.int c), Sl.no, Sl.no] (Cell.lst [D.lst (List.map D.int xs), D.int (at_ + 1), D.int gr] :: T)).res = R.ok (D.int r) (Cell.lst [D.lst (List.map D.int xs), D.int a, D.int g] :: T) ∧ 0 ≤ r ∧ r < many ∧ at_ ≤ a ∧ a ≤ at_ + 1 := by
        obtain ⟨r, h1, h2, h3⟩ := mix c
        exact ⟨r, _, _, h1, h2, h3, by omega, by omega⟩
      by_cases h : at_ < (xs.length : Int)
      · by_cases h' : (10 : Int) ^ 18 ≤ (if c < 0 then -c else c)
        · simp_all_arith [decide_eq_true h, decide_eq_true h', fd]
          exact ⟨_, _, _, rfl, Int.emod_nonneg _ (by omega), Int.emod_lt_of_pos _ m0, by omega, by omega⟩
        · simp_all_arith [decide_eq_true h, decide_eq_false h']
          exact fin
      · simp_all_arith [decide_eq_false h]
        exact fin
    by_cases hx0 : xs = []
    · have e2 : xs.isEmpty = true := by rw [hx0]; rfl
      simp_all_arith [e, e2]
      exact tail _
    · have e2 : xs.isEmpty = false := by simpa using hx0
      have hl : 0 < xs.length := List.length_pos_iff.mpr hx0
      obtain ⟨c, hc⟩ := at_some (xs := xs) (k := at_ % xs.length) (Int.emod_nonneg _ (by omega)) (Int.emod_lt_of_pos _ (by omega))
      simp_all_arith [e, e2, hlm, hc]
      exact tail _
theorem pick (xs : List Int) (at_ gr : Int) (T : Store) (ds : List D) (h0 : 0 ≤ at_) (h1 : at_ ≤ 100000) (hx : xs.length ≤ 63) (hd : 0 < ds.length) (hl : ds.length < 2 ^ 60) :
    ∃ d a g, d ∈ ds ∧ sh__law_pick [.ref 0, .lst ds] (pen xs at_ gr :: T) = .ok d (pen xs a g :: T) ∧ at_ ≤ a ∧ a ≤ at_ + 1 := by
  unfold sh__law_pick pic__law_pick
  obtain ⟨r, a, g, e, r0, r1, a0, a1⟩ := draw xs at_ gr ds.length T h0 h1 (by omega) (by omega) hx
  simp_all_arith [e]
  have : ∃ d, d ∈ ds ∧ atI ds r = some d := by
    unfold atI ixN
    rw [if_pos r0, if_pos r1]
    have h2 : r.toNat < ds.length := by omega
    exact ⟨ds[r.toNat], List.getElem_mem h2, by simp [h2]⟩
  obtain ⟨d, hd, hi⟩ := this
  simp_all_arith [hi]
  exact ⟨d, a, g, hd, rfl, a0, a1⟩
end Nk
namespace Nk
open PySem PyProof.Rows L2 Sh
section
variable {xs : List Int} {T : Store}
theorem at_get {α : Type} {l : List α} {r : Int} (h0 : 0 ≤ r) (h1 : r < l.length) : ∃ x, x ∈ l ∧ atI l r = some x ∧ ∃ j, ∃ (h : j < l.length), r = (j : Nat) ∧ ixN l.length r = some j ∧ l[j] = x := by
  have h2 : r.toNat < l.length := by omega
  refine ⟨l[r.toNat], List.getElem_mem h2, ?_, r.toNat, h2, by omega, ?_, rfl⟩
  · unfold atI ixN
    rw [if_pos h0, if_pos h1]
    simp [h2]
  · unfold ixN
    rw [if_pos h0, if_pos h1]
theorem slen (z : Str) : z.cps.toList.length = z.length := by simp [Str.length]
theorem pick_str (hx : xs.length ≤ 63) (z : Str) (hz : 0 < z.length) (hz2 : z.length ≤ 60) (a g : Int) (h0 : 0 ≤ a) (h1 : a ≤ 100000) : ∃ c a' g', c ∈ z.cps.toList ∧ sh__law_pick [.ref 0, .str z] (pen xs a g :: T) = .ok (.str ⟨#[c]⟩) (pen xs a' g' :: T) ∧ a ≤ a' ∧ a' ≤ a + 1 := by
  obtain ⟨r, a', g', e, r0, r1, a0, a1⟩ := draw xs a g z.length T h0 h1 (by omega) (by omega) hx
  have dl : dLen [.str z] = some (.int z.length) := rfl
  obtain ⟨c, hc, hi, _⟩ := at_get (l := z.cps.toList) r0 (by rw [slen]; exact r1)
  have hix : D.ix (.str z) (.int r) = some (.str ⟨#[c]⟩) := by
    show ((atI z.cps.toList r).map fun c => D.str ⟨#[c]⟩) = _
    rw [hi]; rfl
  refine ⟨c, a', g', hc, ?_, a0, a1⟩
  unfold sh__law_pick pic__law_pick
  simp_all_arith [dl, e, hix]
theorem word_loop (hx : xs.length ≤ 63) (z : Str) (hz : 0 < z.length) (hz2 : z.length ≤ 60) (hl : ∀ c ∈ z.cps.toList, isLet c = true) : ∀ (is : List Nat) (w : Str) (x3 : Sl) (a g : Int), x3.free = true → 0 ≤ a → a + is.length ≤ 90000 → w.length + is.length ≤ 8 → w.cps.toList.all isLet = true →
    ∃ w' y a' g', forD (gN 3) (sSet 2 (eBin dAdd (eVar 2) (eDf sh__law_pick (aCons (eVar 0) (aCons (eVar 1) aNil))))) (is.map fun i => D.int (i : Nat)) [.val (.ref 0), .val (.str z), .val (.str w), x3] (pen xs a g :: T) = .nx [.val (.ref 0), .val (.str z), .val (.str w'), y] (pen xs a' g' :: T) ∧ y.free = true ∧ w'.cps.toList.all isLet = true ∧ w'.length = w.length + is.length ∧ a ≤ a' ∧ a' ≤ a + is.length
  | [], w, x3, a, g, f, _, _, _, hw => ⟨w, x3, a, g, rfl, f, hw, rfl, by omega, by simp⟩
  | i :: is, w, x3, a, g, f, h0, h1, h2, hw => by
    rw [List.length_cons] at h1 h2
    obtain ⟨c, a1, g1, hc, e1, b1, c1⟩ := pick_str (T := T) hx z hz hz2 a g h0 (by omega)
    have hw1 : (w ++ (⟨#[c]⟩ : Str)).cps.toList = w.cps.toList ++ [c] := by
      show (w.cps ++ #[c]).toList = _
      simp
    have hl1 : (w ++ (⟨#[c]⟩ : Str)).length = w.length + 1 := by
      rw [← slen, hw1, List.length_append, slen]; rfl
    obtain ⟨w', y, a2, g2, e2, fy, q1, q2, b2, c2⟩ := word_loop hx z hz hz2 hl is (w ++ ⟨#[c]⟩) (.val (.int (i : Nat))) a1 g1 rfl (by omega) (by omega) (by omega) (by rw [hw1, List.all_append, hw]; simp [hl c hc])
    refine ⟨w', y, a2, g2, ?_, fy, q1, by rw [q2, hl1, List.length_cons]; omega, by omega, by rw [List.length_cons]; omega⟩
    have hs : dAdd (.str w) (.str ⟨#[c]⟩) = some (.str (w ++ ⟨#[c]⟩)) := dAdd_ss (by show w.length + 1 ≤ 16777216; omega)
    rw [List.map_cons, Sh.forD_cons]
    simp_all_arith [f, e1, hs]
    exact e2
theorem word_ok (hx : xs.length ≤ 63) (a g : Int) (h0 : 0 ≤ a) (h1 : a ≤ 80000) : ∃ w a' g', sh__law_word [.ref 0] (pen xs a g :: T) = .ok (.str w) (pen xs a' g' :: T) ∧ isNm w = true ∧ a ≤ a' ∧ a' ≤ a + 10 := by
  obtain ⟨d, a1, g1, hd, e1, b1, c1⟩ := pick xs a g T [.str "abcdefghijklmnopqrstuvwxyz", .str "aby"] h0 (by omega) hx (by decide) (by decide)
  have : ∃ z : Str, d = .str z ∧ 0 < z.length ∧ z.length ≤ 60 ∧ ∀ c ∈ z.cps.toList, isLet c = true := by
    simp only [List.mem_cons, List.not_mem_nil, or_false] at hd
    rcases hd with rfl | rfl
    · exact ⟨_, rfl, by decide +kernel, by decide +kernel, by decide +kernel⟩
    · exact ⟨_, rfl, by decide +kernel, by decide +kernel, by decide +kernel⟩
  obtain ⟨z, rfl, z0, z1, hl⟩ := this
  obtain ⟨q, a2, g2, e2, q0, q1, b2, c2⟩ := draw xs a1 g1 8 T (by omega) (by omega) (by omega) (by omega) hx
  obtain ⟨m, rfl⟩ := Int.eq_ofNat_of_zero_le q0
  obtain ⟨w, y, a3, g3, e3, fy, k1, k2, b3, c3⟩ := word_loop (T := T) hx z z0 z1 hl (List.range (1 + m)) "" .no a2 g2 rfl (by omega) (by rw [List.length_range]; omega) (by rw [List.length_range]; show 0 + (1 + m) ≤ 8; omega) rfl
  rw [List.length_range] at k2 c3
  have e6 : ((1 : Int) + m).toNat = 1 + m := by omega
  refine ⟨w, a3, g3, ?_, ?_, by omega, by omega⟩
  · unfold sh__law_word pic__law_word
    simp_all_arith [e1, e2, e6, e3, fy]
  · have : ("" : Str).length = 0 := rfl
    unfold isNm
    rw [k1, decide_eq_true (by omega)]
    rfl
def setB (tb : List Nb) (z : Str) (v : Int) : List Nb := if z ∈ nms tb then tb.map (fun p => if p.1 = z then (p.1, v) else p) else tb ++ [(z, v)]
theorem any_nks (z : Str) : ∀ tb : List Nb, ((nks tb).any fun p => decide (p.1 = .inr z)) = decide (z ∈ nms tb)
  | [] => rfl
  | p :: tb => by
    have ih := any_nks z tb
    show (decide ((nk p).1 = .inr z) || (nks tb).any fun p => decide (p.1 = .inr z)) = decide (z ∈ p.1 :: nms tb)
    rw [ih]
    apply Bool.eq_iff_iff.mpr
    rw [Bool.or_eq_true, decide_eq_true_eq, decide_eq_true_eq, decide_eq_true_eq, List.mem_cons]
    exact ⟨fun h => h.imp (fun e => (Sum.inr.inj e).symm) id, fun h => h.imp (fun e => by show (Sum.inr p.1 : Key) = .inr z; rw [e]) id⟩
theorem dkSt_set (tb : List Nb) (z : Str) (v : Int) : dkSt (nks tb) (.inr z) (.int v) = nks (setB tb z v) := by
  unfold dkSt setB
  rw [any_nks]
  by_cases h : z ∈ nms tb
  · rw [decide_eq_true h, if_pos rfl, if_pos h]
    show ((tb.map nk).map _) = ((tb.map _).map nk)
    rw [List.map_map, List.map_map]
    refine List.map_congr_left fun p hp => ?_
    show (if (nk p).1 = .inr z then ((nk p).1, D.int v) else nk p) = nk (if p.1 = z then (p.1, v) else p)
    by_cases e : p.1 = z
    · rw [if_pos e, if_pos (by show (Sum.inr p.1 : Key) = .inr z; rw [e])]; rfl
    · rw [if_neg e, if_neg (show ¬ (nk p).1 = .inr z from fun q => e (Sum.inr.inj q))]
  · rw [decide_eq_false h, if_neg (by decide), if_neg h]
    show tb.map nk ++ [nk (z, v)] = (tb ++ [(z, v)]).map nk
    rw [List.map_append]
    rfl
theorem setB_ok {tb : List Nb} (h : OkT tb) (hl : tb.length ≤ 50) {z : Str} (hz : isNm z = true) {v : Int} (hv : 0 ≤ v ∧ v ≤ MXN) : OkT (setB tb z v) := by
  unfold setB
  by_cases hm : z ∈ nms tb
  · rw [if_pos hm]
    have nn : nms (tb.map (fun p => if p.1 = z then (p.1, v) else p)) = nms tb := by
      show (tb.map _).map (fun p : Nb => p.1) = tb.map (fun p : Nb => p.1)
      rw [List.map_map]
      refine List.map_congr_left fun p _ => ?_
      show (if p.1 = z then (p.1, v) else p).1 = p.1
      split <;> rfl
    refine ⟨fun p hp => ?_, fun p hp => ?_, by rw [nn]; exact h.d, by rw [List.length_map]; omega⟩
    · obtain ⟨q, hq, rfl⟩ := List.mem_map.mp hp
      have := h.n q hq
      split <;> exact this
    · obtain ⟨q, hq, rfl⟩ := List.mem_map.mp hp
      have := h.v q hq
      split
      · exact hv
      · exact this
  · rw [if_neg hm]
    refine ⟨fun p hp => ?_, fun p hp => ?_, ?_, by rw [List.length_append, List.length_singleton]; omega⟩
    · rcases List.mem_append.mp hp with hp | hp
      · exact h.n p hp
      · rw [List.mem_singleton.mp hp]; exact hz
    · rcases List.mem_append.mp hp with hp | hp
      · exact h.v p hp
      · rw [List.mem_singleton.mp hp]; exact hv
    · rw [show nms (tb ++ [(z, v)]) = nms tb ++ [z] from List.map_append .., List.nodup_append]
      exact ⟨h.d, by simp, fun a ha b hb e => hm (by rw [List.mem_singleton.mp hb] at e; exact e ▸ ha)⟩
theorem setB_len (tb : List Nb) (z : Str) (v : Int) : (setB tb z v).length ≤ tb.length + 1 := by
  unfold setB
  split
  · rw [List.length_map]; omega
  · rw [List.length_append, List.length_singleton]; omega
end
end Nk
namespace Nk
open PySem PyProof.Rows L2 Sh
abbrev BIG : Int := 10 ^ 60
theorem MXN_big : MXN = BIG - 1 := by decide +kernel
theorem BIG_pos : (0 : Int) < BIG := by decide +kernel
theorem e60 : (10 : Int) ^ (60 : Int).toNat = BIG := by decide +kernel
theorem e9 : (10 : Int) ^ (9 : Int).toNat = 1000000000 := by decide +kernel
theorem lg_of {v : Int} {n : Nat} (hn : 0 < n) (h : v.natAbs < 2 ^ n) : v.natAbs.log2 < n := by
  by_cases z : v.natAbs = 0
  · rw [z]; simpa using hn
  · exact (Nat.log2_lt z).mpr h
section
variable {xs : List Int} {T : Store}
theorem number_ok (hx : xs.length ≤ 63) (a g : Int) (h0 : 0 ≤ a) (h1 : a ≤ 90000) : ∃ v a' g', sh__law_number [.ref 0] (pen xs a g :: T) = .ok (.int v) (pen xs a' g' :: T) ∧ (0 ≤ v ∧ v ≤ MXN) ∧ a ≤ a' ∧ a' ≤ a + 4 := by
  have hM := MXN_big
  have p : (10000000000 : Int) ≤ BIG := by decide +kernel
  obtain ⟨u, a1, g1, e1, u0, u1, b1, c1⟩ := draw xs a g 5 T h0 (by omega) (by omega) (by omega) hx
  by_cases hu : u < 2
  · obtain ⟨w, a2, g2, e2, w0, w1, b2, c2⟩ := draw xs a1 g1 9 T (by omega) (by omega) (by omega) (by omega) hx
    have l1 : u.natAbs.log2 < 40 := lg_of (by decide) (by omega)
    have hm : dMul (.int u) (.int (1 + w)) = some (.int (u * (1 + w))) := by
      have c : CMul u (1 + w) := by
        have := lg_of (v := 1 + w) (n := 40) (by decide) (by omega)
        unfold CMul
        first | omega | (constructor <;> omega)
      unfold dMul alt2 oI
      dsimp only
      rw [if_pos c]
    refine ⟨u * (1 + w), a2, g2, ?_, ?_, by omega, by omega⟩
    · unfold sh__law_number pic__law_number
      simp_all_arith [e1, decide_eq_true hu, e2, hm]
    · have : u = 0 ∨ u = 1 := by omega
      rcases this with rfl | rfl
      · constructor <;> omega
      · constructor <;> omega
  · obtain ⟨w, a2, g2, e2, w0, w1, b2, c2⟩ := draw xs a1 g1 (10 ^ 9) T (by omega) (by omega) (by decide) (by decide) hx
    obtain ⟨x, a3, g3, e3, y0, y1, b3, c3⟩ := draw xs a2 g2 BIG T (by omega) (by omega) BIG_pos (by decide +kernel) hx
    obtain ⟨d, hd, hi, _⟩ := at_get (l := [D.int 0, .int (BIG - 1 - w), .int x]) (r := u - 2) (by omega) (by show u - 2 < 3; omega)
    have hv : ∃ v : Int, d = .int v ∧ 0 ≤ v ∧ v ≤ MXN := by
      simp only [List.mem_cons, List.not_mem_nil, or_false] at hd
      rcases hd with rfl | rfl | rfl <;> refine ⟨_, rfl, ?_, ?_⟩ <;> omega
    obtain ⟨v, rfl, v0⟩ := hv
    refine ⟨v, a3, g3, ?_, v0, by omega, by omega⟩
    unfold sh__law_number pic__law_number
    simp_all_arith [e1, decide_eq_false hu, e60, e9, e2, e3, hi]
abbrev tbB : Sy := (sSeq (sSet 3 (eDf sh__law_number (aCons (eVar 0) aNil)))
    (sDsC (eVar 1) (eDf sh__law_word (aCons (eVar 0) aNil)) (eVar 3)))
theorem at_end (T : Store) (c : Cell) : (T ++ [c])[T.length]? = some c := by simp
theorem set_end (T : Store) (c x : Cell) : (T ++ [c]).set T.length x = T ++ [x] := by simp
theorem tb_loop (hx : xs.length ≤ 63) : ∀ (is : List Nat) (tb : List Nb) (x2 x3 : Sl) (a g : Int), x2.free = true → x3.free = true → OkT tb → tb.length + is.length ≤ 40 → 0 ≤ a → a + 40 * is.length ≤ 60000 →
    ∃ tb' y2 y3 a' g', forD (gN 2) tbB (is.map fun i => D.int (i : Nat)) [.val (.ref 0), .val (.ref (T.length + 1)), x2, x3] (pen xs a g :: (T ++ [.dk (nks tb)])) = .nx [.val (.ref 0), .val (.ref (T.length + 1)), y2, y3] (pen xs a' g' :: (T ++ [.dk (nks tb')])) ∧ OkT tb' ∧ tb'.length ≤ tb.length + is.length ∧ a ≤ a' ∧ a' ≤ a + 40 * is.length
  | [], tb, x2, x3, a, g, _, _, h, _, _, _ => ⟨tb, x2, x3, a, g, rfl, h, by simp, by omega, by simp⟩
  | i :: is, tb, x2, x3, a, g, f2, f3, h, hl, h0, h1 => by
    rw [List.length_cons] at hl h1
    obtain ⟨v, a1, g1, e1, v0, b1, c1⟩ := number_ok (T := T ++ [.dk (nks tb)]) hx a g h0 (by omega)
    obtain ⟨z, a2, g2, e2, hz, b2, c2⟩ := word_ok (T := T ++ [.dk (nks tb)]) hx a1 g1 (by omega) (by omega)
    have ok := setB_ok h (by omega) hz v0
    have ln := setB_len tb z v
    obtain ⟨tb', y2, y3, a3, g3, e3, o3, l3, b3, c3⟩ := tb_loop hx is (setB tb z v) (.val (.int (i : Nat))) (.val (.int v)) a2 g2 rfl rfl ok (by omega) (by omega) (by omega)
    refine ⟨tb', y2, y3, a3, g3, ?_, o3, by rw [List.length_cons]; omega, by omega, by rw [List.length_cons]; omega⟩
    have hs := dkSt_set tb z v
    have hS := at_end T (.dk (nks tb))
    have hE := set_end T (.dk (nks tb)) (.dk (nks (setB tb z v)))
    have hlt : tb.length < 16777216 := by omega
    rw [List.map_cons, Sh.forD_cons]
    simp_all_arith [f2, f3, e1, e2, hS, hE, hs, hlt]
    exact e3
theorem table_ok (hx : xs.length ≤ 63) (a g : Int) (h0 : 0 ≤ a) (h1 : a ≤ 50000) : ∃ tb a' g', sh__law_table [.ref 0] (pen xs a g :: T) = .ok (.ref (T.length + 1)) (pen xs a' g' :: (T ++ [.dk (nks tb)])) ∧ OkT tb ∧ tb.length ≤ 5 ∧ a ≤ a' ∧ a' ≤ a + 300 := by
  obtain ⟨q, a1, g1, e1, q0, q1, b1, c1⟩ := draw xs a g 6 (T ++ [.dk []]) h0 (by omega) (by omega) (by omega) hx
  obtain ⟨m, rfl⟩ := Int.eq_ofNat_of_zero_le q0
  obtain ⟨tb, y2, y3, a2, g2, e2, o2, l2, b2, c2⟩ := tb_loop (T := T) hx (List.range m) [] .no .no a1 g1 rfl rfl ⟨fun _ h => (nomatch h), fun _ h => (nomatch h), List.nodup_nil, by decide⟩ (by rw [List.length_range]; show 0 + m ≤ 40; omega) (by omega) (by rw [List.length_range]; omega)
  rw [List.length_range] at l2 c2
  have l2 : tb.length ≤ 0 + m := l2
  refine ⟨tb, a2, g2, ?_, o2, by omega, by omega, by omega⟩
  have e2' : forD (gN 2) tbB ((List.range m).map fun i => D.int (i : Nat)) [.val (.ref 0), .val (.ref (T.length + 1)), .no, .no] (pen xs a1 g1 :: (T ++ [.dk []])) = _ := e2
  unfold sh__law_table pic__law_table
  simp_all_arith [e1, e2']
end
end Nk
namespace Nk
open PySem PyProof.Rows L2 Sh
theorem mapA_fil {α : Type} {g : Tg} {t : Sx Bool} {f : Sx D} {e : En} {S : Store} (enc : α → D) (p : α → Bool) (k : α → D) (xs : List α) (acc : List D) (h : ∀ x ∈ xs, ∃ e1, g (enc x) e = some e1 ∧ t e1 S = .ok (p x) S ∧ (p x = true → f e1 S = .ok (k x) S)) : mapA g t f acc (xs.map enc) e S = .ok (acc ++ (xs.filter p).map k) S := by
  induction xs generalizing acc with
  | nil => rw [List.map_nil, mapA_nil, List.filter_nil, List.map_nil, List.append_nil]
  | cons x r ih =>
    obtain ⟨e1, h1, h2, h3⟩ := h x List.mem_cons_self
    rw [List.map_cons, mapA_cons, h1]
    dsimp only
    rw [h2, ok_bind]
    cases hp : p x with
    | true =>
      rw [if_pos rfl, h3 hp, ok_bind, ih _ fun y hy => h y (List.mem_cons_of_mem _ hy), List.filter_cons_of_pos hp, List.map_cons, List.append_assoc]
      rfl
    | false =>
      rw [if_neg (by decide), ih _ fun y hy => h y (List.mem_cons_of_mem _ hy), List.filter_cons_of_neg (by simp [hp])]
theorem srt_of {l : List Str} (hl : l.length ≤ 60) : dSorted [.lst (l.map .str)] = some (.lst ((srtS l).map D.str)) := by
  unfold dSorted
  dsimp only
  rw [Sh.strs_map]
  dsimp only
  rw [if_pos (by omega)]
theorem ne_same {d : D} (h : isDat 9 d = true) : dNe d d = some (.bl false) := by
  rw [dNe_q h h, qe_self 9 d h]; rfl
theorem eq_same {d : D} (h : isDat 9 d = true) : dEq d d = some (.bl true) := by
  rw [dEq_q h h, qe_self 9 d h]
theorem bays_tab {tb : List Nb} (h : OkT tb) : srtS ((nms tb).filter fun z => decide (0 < nget tb z)) = nms (normB tb) := by
  have hn := norm_NF h
  refine List.Perm.eq_of_pairwise (fun x y _ _ h1 h2 => str_ext (List.le_antisymm h1 h2)) (srtS_pw _) hn.s ?_
  refine (srtS_perm _).trans ((List.perm_ext_iff_of_nodup (h.d.sublist (List.filter_sublist ..)) hn.d).mpr fun z => ?_)
  rw [List.mem_filter, hn.mem, nget_norm, decide_eq_true_eq]
  have := nget_ok h z
  constructor
  · rintro ⟨_, q⟩; omega
  · intro q
    refine ⟨Classical.byContradiction fun n => q (nget_no n), by omega⟩
theorem sum_flt : ∀ l : List Nb, ((l.filter fun p => p.2 != 0).map (·.2)).sum = (l.map (·.2)).sum
  | [] => rfl
  | p :: l => by
    by_cases h : p.2 = 0
    · rw [List.filter_cons_of_neg (by simp [h]), sum_flt l, List.map_cons, List.sum_cons, h]; omega
    · rw [List.filter_cons_of_pos (by simp [h]), List.map_cons, List.map_cons, List.sum_cons, List.sum_cons, sum_flt l]
theorem sum_perm {a b : List Int} (h : a.Perm b) : a.sum = b.sum := by
  induction h with
  | nil => rfl
  | cons x _ ih => rw [List.sum_cons, List.sum_cons, ih]
  | swap x y l => simp only [List.sum_cons]; omega
  | trans _ _ i j => exact i.trans j
theorem sum_norm (tb : List Nb) : ((normB tb).map (·.2)).sum = ((nms tb).map (nget tb)).sum := by
  unfold normB
  rw [sum_flt, List.map_map]
  exact sum_perm ((srtS_perm _).map _)
theorem own_vals {a : List Nb} (h : NF a) : (nms a).map (nget a) = a.map (·.2) := by
  have e := congrArg (List.map fun p : Nb => p.2) (tab_of h.d)
  exact (e.trans (List.map_map ..)).symm
theorem sum_ints (l : List Int) : dSum [.lst (l.map .int)] = some (.int l.sum) := by
  have : ∀ l : List Int, D.ints (l.map .int) = some l := fun l => by
    induction l with
    | nil => rfl
    | cons x r ih => simp only [List.map_cons, D.ints, ih]
  unfold dSum
  dsimp only
  rw [this]
  rfl
section
variable {a : List Nb} {S : Store}
theorem total_ok (h : NF a) (hl : a.length ≤ 60) : sh_House_total [HsD a] S = .ok (.int ((a.map (·.2)).sum)) S := by
  have hk := keys_nks a
  have hll : (nms a).length ≤ 16777216 := by rw [List.length_map]; omega
  have m := mapA_enc (g := gN 1) (f := eDix (eFd ["House"] "own_numbers" (eVar 0)) (eVar 1)) (e := [.val (HsD a), .no]) (S := S) D.str (fun z => .int (nget a z)) (nms a) [] (fun z hz => ⟨[.val (HsD a), .val (.str z)], by simp_all_arith, by
    have g := dkV_nks a z
    rw [if_pos hz] at g
    simp_all_arith [g]⟩)
  rw [List.nil_append] at m
  have m2 : ((nms a).map fun z => D.int (nget a z)) = ((nms a).map (nget a)).map D.int := (List.map_map (f := nget a) (g := D.int) (l := nms a)).symm
  have s := sum_ints ((nms a).map (nget a))
  rw [m2] at m
  have hl1 : a.length ≤ 16777216 := by omega
  unfold sh_House_total pic_House_total
  simp_all_arith [hk, m, hll, hl1, s]
  rw [own_vals h]
theorem hlen_ok (hl : a.length ≤ 60) : cLen "House" sh_House_len [HsD a] S = .ok (.int a.length) S := by
  have l : sh_House_len [HsD a] S = .ok (.int a.length) S := by
    unfold sh_House_len pic_House_len
    simp_all_arith
  have o : okLen (a.length : Int) = true := okLen_of (by omega) (by omega)
  unfold cLen
  simp_all_arith [l, o]
theorem bays_ok (hl : a.length ≤ 60) : sh_House_bays [HsD a] S = .ok (.tup ((nms a).map .str)) S := by
  have hk := keys_nks a
  have hll : (nms a).length ≤ 16777216 := by rw [List.length_map]; omega
  have m := mapA_enc (g := gN 1) (f := eVar 1) (e := [.val (HsD a), .no]) (S := S) D.str D.str (nms a) [] (fun z hz => ⟨[.val (HsD a), .val (.str z)], by simp_all_arith, by simp_all_arith⟩)
  rw [List.nil_append] at m
  have hl1 : a.length ≤ 16777216 := by omega
  unfold sh_House_bays pic_House_bays
  simp_all_arith [hk, m, hll, hl1]
theorem hbool_ok : cBool "House" sh_House_bool [HsD a] S = .ok (.bl (!a.isEmpty)) S := by
  have l : sh_House_bool [HsD a] S = .ok (.bl (!a.isEmpty)) S := by
    unfold sh_House_bool pic_House_bool
    simp_all_arith
    cases a <;> rfl
  unfold cBool
  simp_all_arith [l]
theorem count_ok (v : Int) : sh__law_is_count [.int v] S = .ok (.bl true) S := by
  unfold sh__law_is_count pic__law_is_count
  simp_all_arith [isiF, show ["bool", "int"].contains "int" = true from rfl, show ["bool"].contains "int" = false from rfl]
theorem prod_go {α β : Type} (x0 : α) (y0 : β) (ys : List β) : ∀ xs : List α, (xs.flatMap fun x => ys.map fun y => (x, y)) = (List.range (xs.length * ys.length)).map fun k => (xs.getD (k / ys.length) x0, ys.getD (k % ys.length) y0)
  | [] => by simp
  | x :: xs => by
    have ih := prod_go x0 y0 ys xs
    rw [List.flatMap_cons, ih, List.length_cons, Nat.succ_mul, Nat.add_comm (xs.length * ys.length), List.range_add, List.map_append, List.map_map]
    by_cases h0 : ys.length = 0
    · have : ys = [] := List.length_eq_zero_iff.mp h0
      subst this
      simp
    congr 1
    · refine List.ext_getElem (by simp) fun k h1 h2 => ?_
      have hk : k < ys.length := by simpa using h1
      rw [List.getElem_map, List.getElem_map, List.getElem_range, Nat.div_eq_of_lt hk, Nat.mod_eq_of_lt hk]
      simp [hk]
    · refine List.map_congr_left fun k _ => ?_
      have : 0 < ys.length := by omega
      simp only [Function.comp_apply]
      rw [Nat.add_div_left _ this, Nat.add_mod_left, List.getD_cons_succ]
theorem ix_strs {zs : List Str} {k : Nat} (h : k < zs.length) : D.ix (.lst (zs.map .str)) (.int (k : Nat)) = some (.str (zs.getD k "")) := by
  rw [ix_L]
  unfold atI ixN
  rw [List.length_map, if_pos (by omega), if_pos (by omega)]
  simp [h]
end
end Nk
namespace Nk
open PySem PyProof.Rows L2 Sh
section
variable {S : Store}
abbrev pT (p : Str × Str) : D := .tup [.str p.1, .str p.2]
theorem in_loop (x : Str) (x0 x1 x2 x3 x5 x8 x9 : Sl) : ∀ (zs : List Str) (acc : List (Str × Str)) (x7 : Sl), x7.free = true → acc.length + zs.length ≤ 1000 → ∃ y, y.free = true ∧ forD (gN 7) (sApp 6 (eTup (aCons (eVar 4) (aCons (eVar 7) aNil)))) (zs.map .str) [x0, x1, x2, x3, .val (.str x), x5, .own (.lst (acc.map pT)), x7, x8, x9] S = .nx [x0, x1, x2, x3, .val (.str x), x5, .own (.lst ((acc ++ zs.map fun y => (x, y)).map pT)), y, x8, x9] S
  | [], acc, x7, f7, _ => ⟨x7, f7, by simp [forD_nil]⟩
  | z :: zs, acc, x7, f7, hl => by
    rw [List.length_cons] at hl
    obtain ⟨y, fy, e⟩ := in_loop x x0 x1 x2 x3 x5 x8 x9 zs (acc ++ [(x, z)]) (.val (.str z)) rfl (by rw [List.length_append, List.length_singleton]; omega)
    refine ⟨y, fy, ?_⟩
    have h1 : acc.length < sizeLine := by show acc.length < 16777216; omega
    rw [List.map_append, List.map_singleton] at e
    rw [List.map_cons, Sh.forD_cons]
    simp_all_arith [f7, h1]
    rw [List.append_assoc] at e
    exact e
theorem out_loop {a : List Nb} (ha : a.length ≤ 10) (x1 x2 x3 x5 x8 x9 : Sl) : ∀ (zs : List Str) (acc : List (Str × Str)) (x4 x7 : Sl), x4.free = true → x7.free = true → acc.length + 10 * zs.length ≤ 900 → ∃ y4 y7, y4.free = true ∧ y7.free = true ∧ forD (gN 4) (sFor (iOwD "House" "own_numbers" (eVar 0)) (gN 7) (sApp 6 (eTup (aCons (eVar 4) (aCons (eVar 7) aNil))))) (zs.map .str) [.val (HsD a), x1, x2, x3, x4, x5, .own (.lst (acc.map pT)), x7, x8, x9] S = .nx [.val (HsD a), x1, x2, x3, y4, x5, .own (.lst ((acc ++ zs.flatMap fun x => (nms a).map fun y => (x, y)).map pT)), y7, x8, x9] S
  | [], acc, x4, x7, f4, f7, _ => ⟨x4, x7, f4, f7, by simp [forD_nil]⟩
  | z :: zs, acc, x4, x7, f4, f7, hl => by
    rw [List.length_cons] at hl
    have hn : (nms a).length ≤ 10 := by rw [List.length_map]; exact ha
    obtain ⟨y, fy, e⟩ := in_loop (S := S) z (.val (HsD a)) x1 x2 x3 x5 x8 x9 (nms a) acc x7 f7 (by omega)
    obtain ⟨y4, y7, f4', f7', e2⟩ := out_loop ha x1 x2 x3 x5 x8 x9 zs (acc ++ (nms a).map fun y => (z, y)) (.val (.str z)) y rfl fy (by rw [List.length_append, List.length_map]; omega)
    refine ⟨y4, y7, f4', f7', ?_⟩
    have hk := keys_nks a
    rw [List.append_assoc] at e2
    rw [List.map_cons, Sh.forD_cons, List.flatMap_cons]
    simp_all_arith [f4, hk, e]
    exact e2
theorem pairs_dat (l : List (Str × Str)) : isDat 9 (.lst (l.map pT)) = true := by
  rw [isDat_l9, List.all_eq_true]
  intro d hd
  obtain ⟨p, _, rfl⟩ := List.mem_map.mp hd
  rw [isDat_t8]
  simp only [List.all_cons, List.all_nil, isDat_str, Bool.and_true]
theorem strs_dat (l : List Str) : isDat 9 (.lst (l.map .str)) = true := by
  rw [isDat_l9, List.all_eq_true]
  intro d hd
  obtain ⟨z, _, rfl⟩ := List.mem_map.mp hd
  exact isDat_str
theorem tstrs_dat (l : List Str) : isDat 9 (.tup (l.map .str)) = true := by
  rw [isDat_t9, List.all_eq_true]
  intro d hd
  obtain ⟨z, _, rfl⟩ := List.mem_map.mp hd
  exact isDat_str
theorem ints_dat (l : List Int) : isDat 9 (.lst (l.map .int)) = true := by
  rw [isDat_l9, List.all_eq_true]
  intro d hd
  obtain ⟨z, _, rfl⟩ := List.mem_map.mp hd
  exact isDat_int
theorem strs_nil (l : List Str) : dNe (.lst (l.map .str)) (.lst []) = some (.bl (!l.isEmpty)) := by
  cases l with
  | nil => exact ne_same (strs_dat [])
  | cons z l =>
    rw [dNe_q (strs_dat (z :: l)) (show isDat 9 (.lst []) = true from strs_dat [])]
    rfl
theorem tells_ok {t : D} {tb : List Nb} (ht : Tb S t tb) (h : OkT tb) (hl : tb.length ≤ 10) : sh__law_tells [HsD (normB tb), t] S = .ok (.bl true) S := by
  have hN := norm_NF h
  have hal : (normB tb).length ≤ 10 := Nat.le_trans (norm_len tb) hl
  have hk := keys_nks tb
  have hka := keys_nks (normB tb)
  have hb := bays_tab h
  have hv := sum_norm tb
  have hgt := fun z => nget_norm tb z
  generalize ea : normB tb = a at hN hal hka hb hv hgt ⊢
  have hnl : (nms tb).length ≤ 10 := by rw [List.length_map]; exact hl
  have hnl2 : (nms a).length ≤ 10 := by rw [List.length_map]; exact hal
  have ix : ∀ z ∈ nms tb, dkV (nks tb) (.inr z) = some (.int (nget tb z)) := fun z hz => by
    have g := dkV_nks tb z
    rwa [if_pos hz] at g
  have m1 := mapA_fil (g := gN 8) (t := tVal (eBin dGt (eDix (eVar 1) (eVar 8)) (eC (.int 0)))) (f := eCall dStr (aCons (eVar 8) aNil)) (e := [.val (HsD a), .val t, .no, .no, .no, .no, .no, .no, .no, .no]) (S := S) D.str (fun z => decide (0 < nget tb z)) D.str (nms tb) [] (fun z hz => ⟨[.val (HsD a), .val t, .no, .no, .no, .no, .no, .no, .val (.str z), .no], by simp_all_arith, by simp_all_arith [ht.d, ix z hz], fun _ => by simp_all_arith⟩)
  rw [List.nil_append] at m1
  have s1 := srt_of (l := (nms tb).filter fun z => decide (0 < nget tb z)) (Nat.le_trans (List.length_filter_le ..) (by omega))
  rw [hb] at s1
  have m2 := mapA_enc (g := gN 8) (f := eGi "House" sh_House_getitem (eVar 0) (eVar 8)) (e := [.val (HsD a), .val t, .val (.lst ((nms a).map .str)), .no, .no, .no, .no, .no, .no, .no]) (S := S) D.str (fun z => .int (nget tb z)) (nms tb) [] (fun z hz => ⟨[.val (HsD a), .val t, .val (.lst ((nms a).map .str)), .no, .no, .no, .no, .no, .val (.str z), .no], by simp_all_arith, by
    obtain ⟨p, hp, e⟩ := List.mem_map.mp hz
    have g := house_get a (e ▸ h.n p hp) S
    rw [hgt] at g
    simp_all_arith [g]⟩)
  rw [List.nil_append] at m2
  have tt := total_ok (S := S) hN (by omega)
  have hln := hlen_ok (a := a) (S := S) (by omega)
  have hby := bays_ok (a := a) (S := S) (by omega)
  have hbo := hbool_ok (a := a) (S := S)
  have eV : ((nms tb).map fun z => D.int (nget tb z)) = ((nms tb).map (nget tb)).map D.int := (List.map_map (f := nget tb) (g := D.int) (l := nms tb)).symm
  have hVl : ((nms tb).map (nget tb)).length ≤ 10 := by rw [List.length_map]; exact hnl
  have m4 : ∀ x3 : Sl, mapA (gN 8) tYesD (eDix (eVar 1) (eVar 8)) [] ((nms tb).map .str) [.val (HsD a), .val t, .val (.lst ((nms a).map .str)), x3, .no, .no, .no, .no, .no, .no] S = .ok ((nms tb).map fun z => D.int (nget tb z)) S := fun x3 => by
    have m := mapA_enc (g := gN 8) (f := eDix (eVar 1) (eVar 8)) (e := [.val (HsD a), .val t, .val (.lst ((nms a).map .str)), x3, .no, .no, .no, .no, .no, .no]) (S := S) D.str (fun z => .int (nget tb z)) (nms tb) [] (fun z hz => ⟨[.val (HsD a), .val t, .val (.lst ((nms a).map .str)), x3, .no, .no, .no, .no, .val (.str z), .no], by simp_all_arith, by simp_all_arith [ht.d, ix z hz]⟩)
    rwa [List.nil_append] at m
  rw [eV] at m2
  simp only [eV] at m4
  rw [hv] at tt
  generalize (nms tb).map (nget tb) = V at m2 m4 tt hVl
  have eL : (a.length : Int) = ((nms a).length : Int) := by rw [List.length_map]
  rw [eL] at hln
  have hem : (!a.isEmpty) = !(nms a).isEmpty := by cases a <;> rfl
  rw [hem] at hbo
  have lp0 := fun x1 x2 x3 x5 x8 x9 zs acc x4 x7 => out_loop (S := S) hal x1 x2 x3 x5 x8 x9 zs acc x4 x7
  generalize eZ : nms a = Z at *
  have hs := sum_ints V
  have eW : V.map D.int ++ [D.int V.sum, D.int Z.length] = (V ++ [V.sum, (Z.length : Int)]).map D.int := by simp
  have hWl : (V ++ [V.sum, (Z.length : Int)]).length ≤ 20 := by simp; omega
  generalize V ++ [V.sum, (Z.length : Int)] = W at eW hWl
  have m3 := mapA_fil (g := gN 4) (t := tNt (tVal (eDf sh__law_is_count (aCons (eVar 4) aNil)))) (f := eVar 4) (e := [.val (HsD a), .val t, .val (.lst (Z.map .str)), .val (.lst (W.map .int)), .no, .no, .no, .no, .no, .no]) (S := S) D.int (fun _ => false) D.int W [] (fun v _ => ⟨[.val (HsD a), .val t, .val (.lst (Z.map .str)), .val (.lst (W.map .int)), .val (.int v), .no, .no, .no, .no, .no], by simp_all_arith, by simp_all_arith [count_ok], fun h => by cases h⟩)
  rw [show W.filter (fun _ => false) = [] from List.filter_eq_nil_iff.mpr (fun _ _ h => Bool.noConfusion h), List.nil_append, List.map_nil] at m3
  have nn : dNe (.lst []) (.lst []) = some (.bl false) := ne_same (strs_dat [])
  have nW := ne_same (ints_dat W)
  have m5 := mapA_enc (g := gN 8) (f := eVar 8) (e := [.val (HsD a), .val t, .val (.lst (Z.map .str)), .val (.lst (W.map .int)), .no, .no, .no, .no, .no, .no]) (S := S) D.str D.str Z [] (fun z _ => ⟨[.val (HsD a), .val t, .val (.lst (Z.map .str)), .val (.lst (W.map .int)), .no, .no, .no, .no, .val (.str z), .no], by simp_all_arith, by simp_all_arith⟩)
  rw [List.nil_append] at m5
  obtain ⟨y4, y7, f4, f7, lp⟩ := lp0 (.val t) (.val (.lst (Z.map .str))) (.val (.lst (W.map .int))) (.val (.lst (Z.map .str))) .no .no Z [] .no .no rfl rfl (by show 0 + 10 * Z.length ≤ 900; omega)
  rw [List.nil_append, prod_go ("" : Str) ("" : Str)] at lp
  have eP : ((List.range (Z.length * Z.length)).map fun k => (Z.getD (k / Z.length) "", Z.getD (k % Z.length) "")).map pT = (List.range (Z.length * Z.length)).map fun k => pT (Z.getD (k / Z.length) "", Z.getD (k % Z.length) "") := List.map_map ..
  rw [eP] at lp
  rw [List.map_nil] at lp
  have e7 : ((Z.length : Int) * (Z.length : Int)).toNat = Z.length * Z.length := by rw [← Int.natCast_mul, Int.toNat_natCast]
  have m6 := mapA_enc (g := gN 9) (f := eTup (aCons (eIx (eVar 2) (eBin dFdiv (eVar 9) (eCall dLen (aCons (eVar 2) aNil)))) (aCons (eIx (eVar 2) (eBin dMod (eCall dInt (aCons (eVar 9) aNil)) (eCall dLen (aCons (eVar 2) aNil)))) aNil))) (e := [.val (HsD a), .val t, .val (.lst (Z.map .str)), .val (.lst (W.map .int)), y4, .val (.lst (Z.map .str)), .val (.lst ((List.range (Z.length * Z.length)).map fun k => pT (Z.getD (k / Z.length) "", Z.getD (k % Z.length) ""))), y7, .no, .no]) (S := S) (fun k : Nat => D.int k) (fun k => pT (Z.getD (k / Z.length) "", Z.getD (k % Z.length) "")) (List.range (Z.length * Z.length)) [] (fun k hk => by
    have hk := List.mem_range.mp hk
    have hp : 0 < Z.length := by
      rcases Nat.eq_zero_or_pos Z.length with z | z
      · rw [z] at hk; simp at hk
      · exact z
    have d1 : (k : Int) / (Z.length : Int) = ((k / Z.length : Nat) : Int) := by simp
    have d2 : (k : Int) % (Z.length : Int) = ((k % Z.length : Nat) : Int) := by simp
    have i1 := ix_strs (zs := Z) ((Nat.div_lt_of_lt_mul hk : k / Z.length < Z.length))
    have i2 := ix_strs (zs := Z) ((Nat.mod_lt k hp : k % Z.length < Z.length))
    refine ⟨[.val (HsD a), .val t, .val (.lst (Z.map .str)), .val (.lst (W.map .int)), y4, .val (.lst (Z.map .str)), .val (.lst ((List.range (Z.length * Z.length)).map fun k => pT (Z.getD (k / Z.length) "", Z.getD (k % Z.length) ""))), y7, .no, .val (.int k)], by simp_all_arith, ?_⟩
    simp_all_arith [i1, i2, d1, d2])
  have hsq : Z.length * Z.length ≤ 100 := Nat.mul_le_mul hnl2 hnl2
  have hr : okR ((Z.length : Int) * (Z.length : Int)) = true := by
    rw [← Int.natCast_mul]
    exact okR_t (by omega) (by omega)
  have nP := ne_same (pairs_dat ((List.range (Z.length * Z.length)).map fun k => (Z.getD (k / Z.length) "", Z.getD (k % Z.length) "")))
  rw [eP] at nP
  have eB := eq_same (tstrs_dat Z)
  have eC := eq_same (strs_dat Z)
  have nZ := strs_nil Z
  have hll : (List.range (Z.length * Z.length)).length ≤ 1000 := by rw [List.length_range]; omega
  rw [List.nil_append] at m6
  unfold sh__law_tells pic__law_tells
  simp_all_arith [ht.f, ht.d, hk, m1, s1, m2, tt, hln, hby, hbo, eW, m3, nn, m4, hs, nW, hka, m5, lp, f4, f7, m6, e7, hr, nP, eB, eC, nZ]
end
end Nk
namespace Nk
open PySem PyProof.Rows L2 Sh
def tb (zs : List Str) (v : Str → Int) : List Nb := zs.map fun z => (z, v z)
theorem tb_nms (zs : List Str) (v : Str → Int) : nms (tb zs v) = zs := by
  show ((zs.map fun z => ((z, v z) : Nb)).map fun p => p.1) = zs
  rw [List.map_map]
  exact List.map_id' zs
theorem tb_get (v : Str → Int) : ∀ (zs : List Str) (z : Str), nget (tb zs v) z = if z ∈ zs then v z else 0
  | [], z => rfl
  | x :: zs, z => by
    have ih := tb_get v zs z
    show (if x = z then v x else nget (tb zs v) z) = _
    by_cases h : x = z
    · subst h
      rw [if_pos rfl, if_pos List.mem_cons_self]
    · rw [if_neg h, ih]
      by_cases hm : z ∈ zs
      · rw [if_pos hm, if_pos (List.mem_cons_of_mem _ hm)]
      · rw [if_neg hm, if_neg fun q => (List.mem_cons.mp q).elim (fun e => h e.symm) hm]
theorem tb_ok {zs : List Str} {v : Str → Int} (hd : zs.Nodup) (hn : ∀ z ∈ zs, isNm z = true) (hv : ∀ z ∈ zs, 0 ≤ v z ∧ v z ≤ MXN) (hl : zs.length ≤ 60) : OkT (tb zs v) :=
  ⟨fun p hp => by obtain ⟨z, hz, rfl⟩ := List.mem_map.mp hp; exact hn z hz, fun p hp => by obtain ⟨z, hz, rfl⟩ := List.mem_map.mp hp; exact hv z hz, by rw [tb_nms]; exact hd, by unfold tb; rw [List.length_map]; exact hl⟩
theorem dkMer_nks : ∀ (ms acc : List Nb), (nms acc ++ nms ms).Nodup → dkMer (nks acc) (nks ms) = nks (acc ++ ms)
  | [], acc, _ => by rw [List.append_nil]; rfl
  | p :: ms, acc, hd => by
    have hn : p.1 ∉ nms acc := fun q => (List.nodup_append.mp hd).2.2 p.1 q p.1 List.mem_cons_self rfl
    have st : dkSt (nks acc) (.inr p.1) (.int p.2) = nks (acc ++ [p]) := by
      rw [dkSt_new]
      · show nks acc ++ [nk p] = _
        simp
      · intro q hq e
        obtain ⟨x, hx, rfl⟩ := List.mem_map.mp hq
        unfold nk at e
        exact hn (by rw [← Sum.inr.inj e]; exact List.mem_map_of_mem hx)
    have ih := dkMer_nks ms (acc ++ [p]) (by
      rw [show nms (acc ++ [p]) = nms acc ++ [p.1] from List.map_append .., List.append_assoc]
      exact hd)
    show dkMer (dkSt (nks acc) (.inr p.1) (.int p.2)) (nks ms) = _
    rw [st, ih, List.append_assoc]
    rfl
abbrev nbd (p : Nb) : D := .tup [.str p.1, .int p.2]
theorem pairsOf_nb : ∀ tb : List Nb, pairsOf (tb.map nbd) = some (nks tb)
  | [] => rfl
  | p :: tb => by
    show (pairOf (nbd p)).bind _ = _
    rw [show pairOf (nbd p) = some (nk p) from rfl, Option.bind_some, pairsOf_nb tb]
    rfl
theorem nget_set : ∀ (tb : List Nb) (z y : Str) (v : Int), nget (setB tb z v) y = if z = y then v else nget tb y := by
  intro tb z y v
  by_cases hz : z ∈ nms tb
  · unfold setB
    rw [if_pos hz]
    induction tb with
    | nil => exact absurd hz List.not_mem_nil
    | cons p tb ih =>
      have hz : z ∈ p.1 :: nms tb := hz
      rw [List.map_cons]
      by_cases e : p.1 = z
      · rw [if_pos e]
        show (if p.1 = y then v else nget (tb.map fun p => if p.1 = z then (p.1, v) else p) y) = if z = y then v else if p.1 = y then p.2 else nget tb y
        rw [e]
        by_cases hy : z = y
        · rw [if_pos hy, if_pos hy]
        · rw [if_neg hy, if_neg hy, if_neg hy]
          by_cases hm : z ∈ nms tb
          · rw [ih hm, if_neg hy]
          · have : (tb.map fun p => if p.1 = z then (p.1, v) else p) = tb := by
              refine (List.map_congr_left fun q hq => ?_).trans (List.map_id' tb)
              rw [if_neg fun (e : q.1 = z) => hm (e ▸ List.mem_map_of_mem hq)]
            rw [this]
      · rw [if_neg e]
        have ih := ih ((List.mem_cons.mp hz).resolve_left fun q => e q.symm)
        show (if p.1 = y then p.2 else nget (tb.map fun p => if p.1 = z then (p.1, v) else p) y) = if z = y then v else if p.1 = y then p.2 else nget tb y
        rw [ih]
        by_cases h1 : p.1 = y
        · rw [if_pos h1, if_pos h1, if_neg fun q => e (h1.trans q.symm)]
        · rw [if_neg h1, if_neg h1]
  · unfold setB
    rw [if_neg hz]
    induction tb with
    | nil => rfl
    | cons p tb ih =>
      have hz : ¬ z ∈ p.1 :: nms tb := hz
      rw [List.mem_cons, not_or] at hz
      show (if p.1 = y then p.2 else nget (tb ++ [(z, v)]) y) = if z = y then v else if p.1 = y then p.2 else nget tb y
      rw [ih hz.2]
      by_cases h1 : p.1 = y
      · rw [if_pos h1, if_pos h1, if_neg fun q => hz.1 (q.trans h1.symm)]
      · rw [if_neg h1, if_neg h1]
section
variable {S : Store}
theorem norm_same {xs ys : List Nb} (hx : OkT xs) (hy : OkT ys) (h : ∀ z, nget xs z = nget ys z) : normB xs = normB ys :=
  (norm_NF hx).ext (norm_NF hy) fun z => by rw [nget_norm, nget_norm, h]
theorem tb_same {xs : List Nb} (h : OkT xs) {zs : List Str} (hp : zs.Perm (nms xs)) : OkT (tb zs (nget xs)) ∧ ∀ z, nget (tb zs (nget xs)) z = nget xs z := by
  refine ⟨tb_ok (hp.nodup_iff.mpr h.d) (fun z hz => ?_) (fun z _ => nget_ok h z) (by rw [hp.length_eq, List.length_map]; exact h.l), fun z => ?_⟩
  · obtain ⟨p, hq, e⟩ := List.mem_map.mp (hp.mem_iff.mp hz)
    exact e ▸ h.n p hq
  · rw [tb_get]
    by_cases hz : z ∈ zs
    · rw [if_pos hz]
    · rw [if_neg hz, nget_no fun q => hz (hp.mem_iff.mpr q)]
theorem turned_ok {t : D} {xs : List Nb} (hd : t.dkv S = some (nks xs)) (h : OkT xs) : sh__law_turned [t] S = .ok (tbl (tb (nms xs).reverse (nget xs))) S := by
  have hk := keys_nks xs
  have hl := h.l
  have hl2 : (nks xs).length ≤ 16777216 := by rw [List.length_map]; omega
  have hr : ((nms xs).map D.str).reverse = (nms xs).reverse.map D.str := (List.map_reverse ..).symm
  have hp : (nms xs).reverse.Perm (nms xs) := List.reverse_perm _
  have m := mapA_enc (g := gN 1) (f := eTup (aCons (eVar 1) (aCons (eDix (eVar 0) (eVar 1)) aNil))) (e := [.val t, .no]) (S := S) D.str (fun z => nbd (z, nget xs z)) (nms xs).reverse [] (fun z hz => ⟨[.val t, .val (.str z)], by simp_all_arith, by
    have g := dkV_nks xs z
    rw [if_pos (hp.mem_iff.mp hz)] at g
    simp_all_arith [hd, g]⟩)
  rw [List.nil_append] at m
  have m2 : ((nms xs).reverse.map fun z => nbd (z, nget xs z)) = (tb (nms xs).reverse (nget xs)).map nbd := by unfold tb; rw [List.map_map]; rfl
  rw [m2] at m
  have ok := (tb_same h hp).1
  have mr := dkMer_nks (tb (nms xs).reverse (nget xs)) [] (by rw [show nms [] = [] from rfl, List.nil_append]; exact ok.d)
  rw [List.nil_append] at mr
  have mr : dkMer [] (nks (tb (nms xs).reverse (nget xs))) = nks (tb (nms xs).reverse (nget xs)) := mr
  have pf := pairsOf_nb (tb (nms xs).reverse (nget xs))
  have hl3 : (nms xs).reverse.length ≤ 16777216 := by rw [List.length_reverse, List.length_map]; omega
  unfold sh__law_turned pic__law_turned
  simp_all_arith [hd, hk, hl2, hr, hl3, hl, m, pf, mr]
theorem put_ok {a : List Nb} (ha : NF a) (hl : a.length ≤ 40) {z : Str} (hz : isNm z = true) {v : Int} (hv : 0 ≤ v ∧ v ≤ MXN) : sh_House_put [HsD a, .str z, .int v] S = .ok (HsD (normB (setB a z v))) S := by
  have n : sh_need_name [.str z] S = .ok .non S := by
    unfold sh_need_name pic_need_name
    simp_all_arith [is_name_str, hz]
  have n2 : sh_need_number [.int v] S = .ok .non S := by
    unfold sh_need_number pic_need_number
    simp_all_arith [is_num, decide_eq_true hv]
  have ok := setB_ok (ha.ok (by omega)) (by omega) hz hv
  have i := house_init (S := S) _ (Tb.val S _) ok
  have mr := dkMer_nks a [] (by rw [show nms [] = [] from rfl, List.nil_append]; exact ha.d)
  rw [List.nil_append] at mr
  have mr : dkMer [] (nks a) = nks a := mr
  have st := dkSt_set a z v
  have hl2 : a.length + 1 ≤ 16777216 := by omega
  unfold sh_House_put pic_House_put
  simp_all_arith [n, n2, kStar2_some, stPut_one, mr, st, hl2, i]
abbrev putB : Sy := (sSeq (sSet 1 (eMe "House" "put" sh_House_put (eVar 1) (aCons (eVar 2) (aCons (eC (.int 5)) aNil))))
    (sSet 1 (eMe "House" "put" (kwF (prm [1, 0]) sh_House_put) (eVar 1) (aCons (eDix (eVar 0) (eVar 2)) (aCons (eVar 2) aNil)))))
theorem put_loop {t : D} {xs : List Nb} (ht : Tb S t xs) (h : OkT xs) : ∀ (zs : List Str) (a : List Nb) (x2 : Sl), x2.free = true → NF a → a.length + zs.length ≤ 20 → (∀ z ∈ zs, z ∈ nms xs) →
    ∃ a' y2, forD (gN 2) putB (zs.map .str) [.val t, .val (HsD a), x2] S = .nx [.val t, .val (HsD a'), y2] S ∧ NF a' ∧ a'.length ≤ a.length + zs.length ∧ ∀ z, nget a' z = if z ∈ zs then nget xs z else nget a z
  | [], a, x2, _, ha, _, _ => ⟨a, x2, rfl, ha, by simp, fun z => by simp⟩
  | z :: zs, a, x2, f2, ha, hl, hz => by
    rw [List.length_cons] at hl
    have hzx := hz z List.mem_cons_self
    obtain ⟨p, hp, e⟩ := List.mem_map.mp hzx
    have hn : isNm z = true := e ▸ h.n p hp
    have hv := nget_ok h z
    have p1 := put_ok (S := S) ha (by omega) hn (v := 5) ⟨by omega, by decide⟩
    have ok1 := setB_ok (ha.ok (by omega)) (by omega) hn (v := 5) ⟨by omega, by decide⟩
    have l1 := Nat.le_trans (norm_len (setB a z 5)) (setB_len a z 5)
    have ha1 := norm_NF ok1
    have p2 := put_ok (S := S) ha1 (by omega) hn hv
    have ok2 := setB_ok (ha1.ok (by omega)) (by omega) hn hv
    have ha2 := norm_NF ok2
    have g2 : ∀ y, nget (normB (setB (normB (setB a z 5)) z (nget xs z))) y = if z = y then nget xs z else nget a y := fun y => by
      rw [nget_norm, nget_set, nget_norm, nget_set]
      by_cases hy : z = y
      · rw [if_pos hy, if_pos hy]
      · rw [if_neg hy, if_neg hy, if_neg hy]
    have l2 : (normB (setB (normB (setB a z 5)) z (nget xs z))).length ≤ a.length + 1 := by
      have q := nd_le (a := nms (normB (setB (normB (setB a z 5)) z (nget xs z)))) (b := z :: nms a) ha2.d fun y hy => by
        rw [ha2.mem, g2] at hy
        by_cases hzy : z = y
        · rw [hzy]; exact List.mem_cons_self
        · rw [if_neg hzy] at hy
          exact List.mem_cons_of_mem _ ((ha.mem y).mpr hy)
      rw [List.length_cons, List.length_map, List.length_map] at q
      exact q
    obtain ⟨a', y2, e3, n3, l3, g3⟩ := put_loop ht h zs _ (.val (.str z)) rfl ha2 (by omega) fun y hy => hz y (List.mem_cons_of_mem _ hy)
    refine ⟨a', y2, ?_, n3, by rw [List.length_cons]; omega, fun y => ?_⟩
    · have g := dkV_nks xs z
      rw [if_pos hzx] at g
      rw [List.map_cons, Sh.forD_cons]
      have p2' : sh_House_put (HsD (normB (setB a z 5)) :: List.filterMap (fun i => [D.int (nget xs z), D.str z][i]?) [1, 0]) S = _ := p2
      simp_all_arith [f2, p1, ht.d, g, prm, p2']
      exact e3
    · rw [g3, g2]
      by_cases hy : y ∈ zs
      · rw [if_pos hy, if_pos (List.mem_cons_of_mem _ hy)]
      · rw [if_neg hy]
        by_cases hzy : z = y
        · rw [if_pos hzy, ← hzy, if_pos List.mem_cons_self]
        · rw [if_neg hzy, if_neg fun q => (List.mem_cons.mp q).elim (fun e => hzy e.symm) hy]
theorem none_ok : sh_House_none [] S = .ok (HsD []) S := by
  have h := house_init0 S
  unfold sh_House_none pic_House_none
  simp_all_arith [h]
theorem nf_nil : NF [] := ⟨fun _ h => (nomatch h), fun _ h => (nomatch h), .nil, List.nodup_nil⟩
theorem lput_ok {t : D} {xs : List Nb} (ht : Tb S t xs) (h : OkT xs) (hl : xs.length ≤ 10) : sh__law_put [t] S = .ok (HsD (normB xs)) S := by
  obtain ⟨a', y2, e, n, l, g⟩ := put_loop ht h (nms xs) [] .no rfl nf_nil (by rw [List.length_map]; show 0 + xs.length ≤ 20; omega) fun _ h => h
  have ea : a' = normB xs := n.ext (norm_NF h) fun z => by
    rw [g, nget_norm]
    by_cases hz : z ∈ nms xs
    · rw [if_pos hz]
    · rw [if_neg hz, nget_no hz]; rfl
  subst ea
  have hk := keys_nks xs
  unfold sh__law_put pic__law_put
  simp_all_arith [none_ok, ht.f, hk, e]
theorem kw_ok (xs : List Nb) (h : OkT xs) : sh_House_init (.ins "House" []) [.tup [], .fk (nks xs)] S = .ok (.ins "House" [("own_numbers", tbl (normB xs))]) S := by
  have hk := keys_nks xs
  have hl := h.l
  have hl1 : (nms xs).length ≤ 60 := by rw [List.length_map]; exact hl
  have hl2 : xs.length ≤ 16777216 := by omega
  have m := mapA_enc (g := gN 4) (f := eCall dStr (aCons (eVar 4) aNil)) (e := [.own (.ins "House" []), .val (.tup []), .val (tbl xs), .no, .no]) (S := S) D.str D.str (nms xs) [] (fun z _ => ⟨[.own (.ins "House" []), .val (.tup []), .val (tbl xs), .no, .val (.str z)], by simp_all_arith, by simp_all_arith⟩)
  rw [List.nil_append] at m
  have so := srt_of hl1
  have ok := tb_same h (srtS_perm (nms xs))
  have hm : ∀ z ∈ srtS (nms xs), z ∈ nms xs := fun z hz => (srtS_perm _).mem_iff.mp hz
  have c : ∀ (zs : List Str) (acc : List Nb), (nms acc ++ zs).Nodup → (∀ z ∈ zs, z ∈ nms xs) → mapK (gN 4) tYesD (eVar 4) (eDix (eVar 2) (eVar 4)) (nks acc) (zs.map D.str) [.own (.ins "House" []), .val (.tup []), .val (tbl xs), .val (.lst ((srtS (nms xs)).map .str)), .no] S = .ok (nks (acc ++ tb zs (nget xs))) S := by
    intro zs
    induction zs with
    | nil => intro acc _ _; unfold tb; rw [List.map_nil, List.map_nil, List.append_nil]; rfl
    | cons z zs ih =>
      intro acc hd hz
      have g := dkV_nks xs z
      rw [if_pos (hz z List.mem_cons_self)] at g
      have hn : z ∉ nms acc := fun q => (List.nodup_append.mp hd).2.2 z q z List.mem_cons_self rfl
      have i := ih (acc ++ [(z, nget xs z)]) (by
        rw [show nms (acc ++ [(z, nget xs z)]) = nms acc ++ [z] from List.map_append .., List.append_assoc]
        exact hd) fun y hy => hz y (List.mem_cons_of_mem _ hy)
      have st : dkSt (nks acc) (.inr z) (.int (nget xs z)) = nks (acc ++ [(z, nget xs z)]) := by
        rw [dkSt_new]
        · show nks acc ++ [nk (z, nget xs z)] = _
          simp
        · intro p hp e
          obtain ⟨q, hq, rfl⟩ := List.mem_map.mp hp
          unfold nk at e
          exact hn (by rw [← Sum.inr.inj e]; exact List.mem_map_of_mem hq)
      rw [List.append_assoc] at i
      rw [List.map_cons, mapK_cons]
      simp_all_arith [g, st]
      exact i
  have c := c (srtS (nms xs)) [] (by rw [show nms [] = [] from rfl, List.nil_append]; exact srt_nodup h.d) hm
  rw [List.nil_append] at c
  have c : mapK (gN 4) tYesD (eVar 4) (eDix (eVar 2) (eVar 4)) [] ((srtS (nms xs)).map D.str) [.own (.ins "House" []), .val (.tup []), .val (tbl xs), .val (.lst ((srtS (nms xs)).map .str)), .no] S = _ := c
  have nm := numbers_ok (S := S) _ (Tb.val S _) ok.1
  rw [norm_same ok.1 h ok.2] at nm
  have hl3 : (srtS (nms xs)).length ≤ 16777216 := by rw [(srtS_perm _).length_eq]; omega
  unfold sh_House_init pic_House_init
  simp_all_arith [hk, m, hl1, hl2, so, c, hl3, nm, putD]
end
end Nk
namespace Nk
open PySem PyProof.Rows L2 Sh
abbrev nT (v : Int) : Str := Str.ofString (toString v)
theorem lgB {v : Int} (h : 0 ≤ v ∧ v ≤ MXN) : v.natAbs.log2 < 1920 := by
  refine Nat.lt_trans (lg_of (n := 200) (by decide) ?_) (by decide)
  have e1 : (10 ^ 60 : Nat) < 2 ^ 200 := by decide +kernel
  have e2 : (BIG : Int) = ((10 ^ 60 : Nat) : Int) := by decide +kernel
  have := MXN_big
  omega
theorem app_len (x y : Str) : (x ++ y).length = x.length + y.length := Array.size_append ..
theorem sp_len : (Str.ofString " ").length = 1 := by decide +kernel
def wT (p : Nb) : Str := p.1 ++ Str.ofString " " ++ nT p.2
section
variable {a : List Nb} {S : Store}
theorem wT_len (h : NF a) {p : Nb} (hp : p ∈ a) : (wT p).length ≤ 2000 ∧ p.1.length ≤ 8 ∧ (nT p.2).length ≤ 1921 := by
  have hv := h.v p hp
  have h1 : (nT p.2).length ≤ 1921 := PyProof.Rows.int_text_len_1921 (lgB (v := p.2) ⟨by omega, hv.2⟩)
  have h2 : p.1.length ≤ 8 := by
    have := h.n p hp
    unfold isNm at this
    rw [Bool.and_eq_true, decide_eq_true_eq] at this
    exact this.1.2
  refine ⟨?_, h2, h1⟩
  unfold wT
  rw [app_len, app_len, sp_len]
  omega
theorem sum_wT : ∀ xs : List Nb, (∀ p ∈ xs, (wT p).length ≤ 2000) → ((xs.map wT).map (·.length)).sum ≤ 2000 * xs.length
  | [], _ => by simp
  | p :: r, h => by
    have := sum_wT r fun q hq => h q (List.mem_cons_of_mem _ hq)
    have := h p List.mem_cons_self
    simp only [List.map_cons, List.sum_cons, List.length_cons]
    omega
theorem str_ok (h : NF a) (hl : a.length ≤ 60) : ∃ z, sh_House_str [HsD a] S = .ok (.str z) S := by
  have hl2 : a.length ≤ 16777216 := by omega
  by_cases h0 : a = []
  · subst h0
    refine ⟨"none", ?_⟩
    unfold sh_House_str pic_House_str
    simp_all_arith
  · have hp : 0 < a.length := List.length_pos_iff.mpr h0
    have hne : ((a.length : Int) == 0) = false := by
      simp only [beq_eq_false_iff_ne, ne_eq]
      omega
    have m := mapA_enc (g := gT (gsCons (gN 1) (gsCons (gN 2) gsNil))) (f := eJs [eFmt (eVar 1), eC (.str " "), eFmt (eVar 2)] Str.empty) (e := [.val (HsD a), .no, .no]) (S := S) (fun p : Nb => .tup [keyD (nk p).1, (nk p).2]) (fun p => .str (wT p)) a [] (fun p hq => ⟨[.val (HsD a), .val (.str p.1), .val (.int p.2)], by simp_all_arith [nk], by
      have hv := h.v p hq
      have hf : fmtD (.int p.2) = some (.str (nT p.2)) := by
        unfold fmtD
        exact if_pos (lgB ⟨by omega, hv.2⟩)
      obtain ⟨l1, l2, l3⟩ := wT_len h hq
      unfold wT at l1 ⊢
      rw [app_len, app_len] at l1
      have l4 := sp_len
      simp_all_arith [hf, Nk.str_nil, app_len, l4, eJs_nil, eJs_cons, kJs_s]⟩)
    rw [List.nil_append, show a.map (fun p => D.str (wT p)) = (a.map wT).map D.str by rw [List.map_map]; rfl] at m
    have hs := sum_wT a fun p hp => (wT_len h hp).1
    have j : ∃ z, dJoin " " (.lst ((a.map wT).map D.str)) = some (.str z) := by
      unfold dJoin
      dsimp only
      rw [Sh.strs_map]
      dsimp only
      rw [sp_len, List.length_map, if_pos (by omega)]
      exact ⟨_, rfl⟩
    obtain ⟨z, j⟩ := j
    have k : (nks a).map (fun p => D.tup [keyD p.1, p.2]) = a.map fun p => .tup [keyD (nk p).1, (nk p).2] := by rw [List.map_map]; rfl
    refine ⟨z, ?_⟩
    unfold sh_House_str pic_House_str
    simp_all_arith [hne, k, m, j, hl2]
theorem has_ok {z : Str} : sh_House_contains [HsD a, .str z] S = .ok (.bl (decide (z ∈ nms a))) S := by
  have g := dkV_nks a z
  unfold sh_House_contains pic_House_contains
  by_cases h : z ∈ nms a
  · rw [if_pos h] at g
    rw [decide_eq_true h]
    simp_all_arith [isiF, show ["str"].contains "str" = true from rfl, g]
    rfl
  · rw [if_neg h] at g
    rw [decide_eq_false h]
    simp_all_arith [isiF, show ["str"].contains "str" = true from rfl, g]
    rfl
theorem has_no {d : D} (h : isiF ["str"] [("House", false)] d = some false) : sh_House_contains [HsD a, d] S = .ok (.bl false) S := by
  unfold sh_House_contains pic_House_contains
  simp_all_arith [h]
theorem rp_bl (b : Bool) : ∃ z, dRepr [.bl b] = some (.str z) := by
  cases b
  · exact ⟨_, rfl⟩
  · exact ⟨_, rfl⟩
abbrev inB : Sy := (sSeq (sSet 5 (eGet2 (eVar 2) (eVar 4) (eC (.int 0))))
    (sIf (tOo (tVal (eBin dNe (eCall dRepr (aCons (eBinE (oInO false "House" sh_House_contains) (eVar 4) (eVar 1)) aNil)) (eCall dRepr (aCons (eBin dGt (eVar 5) (eC (.int 0))) aNil)))) (tVal (eBin dNe (eGi "House" sh_House_getitem (eVar 1) (eVar 4)) (eVar 5))))
    (sRet (eC (.bl false)))
    sNil))
theorem has_loop {tb : List Nb} (h : OkT tb) (x0 x3 x6 : Sl) : ∀ (zs : List Str) (x4 x5 : Sl), x4.free = true → x5.free = true → (∀ z ∈ zs, isNm z = true) → ∃ y4 y5, y4.free = true ∧ y5.free = true ∧ forD (gN 4) inB (zs.map .str) [x0, .val (HsD (normB tb)), .val (tbl tb), x3, x4, x5, x6] S = .nx [x0, .val (HsD (normB tb)), .val (tbl tb), x3, y4, y5, x6] S
  | [], x4, x5, f4, f5, _ => ⟨x4, x5, f4, f5, rfl⟩
  | z :: zs, x4, x5, f4, f5, hz => by
    obtain ⟨y4, y5, g4, g5, e⟩ := has_loop h x0 x3 x6 zs (.val (.str z)) (.val (.int (nget tb z))) rfl rfl fun y hy => hz y (List.mem_cons_of_mem _ hy)
    refine ⟨y4, y5, g4, g5, ?_⟩
    have g := dkV_get tb z
    have hb : decide (z ∈ nms (normB tb)) = decide (0 < nget tb z) := by
      have := nget_ok h z
      apply Bool.eq_iff_iff.mpr
      rw [decide_eq_true_eq, decide_eq_true_eq, (norm_NF h).mem, nget_norm]
      omega
    have c := has_ok (a := normB tb) (S := S) (z := z)
    rw [hb] at c
    obtain ⟨r, hr⟩ := rp_bl (decide (0 < nget tb z))
    have nr := ne_same (d := .str r) isDat_str
    have gi := house_get (normB tb) (hz z List.mem_cons_self) S
    rw [nget_norm] at gi
    have ni := ne_same (d := .int (nget tb z)) isDat_int
    rw [List.map_cons, Sh.forD_cons]
    simp_all_arith [f4, f5, g, c, hr, nr, gi, ni]
    exact e
end
section
variable {xs : List Int} {T : Store}
theorem has_right {tb : List Nb} (h : OkT tb) (hl : tb.length ≤ 10) {w : Str} (hw : isNm w = true) (hx : xs.length ≤ 63) (a0 g0 : Int) (h0 : 0 ≤ a0) (h1 : a0 ≤ 90000) : ∃ a' g', sh__law_in_right [.ref 0, HsD (normB tb), tbl tb, .str w] (pen xs a0 g0 :: T) = .ok (.bl true) (pen xs a' g' :: T) ∧ a0 ≤ a' ∧ a' ≤ a0 + 1 := by
  have hk := keys_nks tb
  have hll : (nks tb).length ≤ 16777216 := by rw [List.length_map]; omega
  have hl2 : tb.length ≤ 16777216 := by omega
  obtain ⟨y4, y5, f4, f5, lp⟩ := has_loop (S := pen xs a0 g0 :: T) h (.val (.ref 0)) (.val (.str w)) .no (nms tb ++ [w]) .no .no rfl rfl fun z hz => by
    rcases List.mem_append.mp hz with hz | hz
    · obtain ⟨p, hp, rfl⟩ := List.mem_map.mp hz
      exact h.n p hp
    · rw [List.mem_singleton.mp hz]; exact hw
  rw [List.map_append, List.map_singleton] at lp
  obtain ⟨d, a1, g1, hd, e1, b1, c1⟩ := pick xs a0 g0 T [.non, .int 0, .bl true, .tup [.str "a"], .lst [.str "a"], .fk [(.inr "a", .int 1)], .str "", .str "A", HsD (normB tb)] h0 (by omega) hx (by show 0 < 9; decide) (by show 9 < 2 ^ 60; decide)
  have hno : ∀ z : Str, isNm z = false → sh_House_contains [HsD (normB tb), .str z] (pen xs a1 g1 :: T) = .ok (.bl false) (pen xs a1 g1 :: T) := fun z hz => by
    have c := has_ok (a := normB tb) (S := pen xs a1 g1 :: T) (z := z)
    rwa [decide_eq_false fun q => by rw [(norm_NF h).nm q] at hz; cases hz] at c
  have hc : sh_House_contains [HsD (normB tb), d] (pen xs a1 g1 :: T) = .ok (.bl false) (pen xs a1 g1 :: T) := by
    simp only [List.mem_cons, List.not_mem_nil, or_false] at hd
    rcases hd with rfl | rfl | rfl | rfl | rfl | rfl | rfl | rfl | rfl
    · exact has_no rfl
    · exact has_no rfl
    · exact has_no rfl
    · exact has_no rfl
    · exact has_no rfl
    · exact has_no rfl
    · exact hno _ (by decide +kernel)
    · exact hno _ (by decide +kernel)
    · exact has_no rfl
  obtain ⟨r, hr⟩ := rp_bl false
  have er := eq_same (d := .str r) isDat_str
  refine ⟨a1, g1, ?_, b1, c1⟩
  have dm : dkMer [] [(.inr "a", .int 1)] = [(.inr "a", .int 1)] := rfl
  unfold sh__law_in_right pic__law_in_right
  simp_all_arith [hk, hll, hl2, lp, f4, f5, dm, e1, hc, hr, er]
end
end Nk
namespace Nk
open PySem PyProof.Rows L2 Sh
section
variable {xs : List Int} {T S : Store} {s0 : D}
abbrev EL (s0 : D) (x2 x3 x4 x5 x6 x7 x8 x9 x10 x11 x12 : Sl) : En := [.val s0, .val (.ref 0), x2, x3, x4, x5, x6, x7, x8, x9, x10, x11, x12]
theorem z_ok (x2 x3 x4 x5 x6 x7 x8 x9 x10 x11 x12 : Sl) (S : Store) : pic_law_z (EL s0 x2 x3 x4 x5 x6 x7 x8 x9 x10 x11 x12) S = .rt (.bl true) S := by kernel_rfl
theorem b1_ok {n : Nat} {tb : List Nb} {w : Str} (hS : S[n]? = some (.dk (nks tb))) (h : OkT tb) (hl : tb.length ≤ 10) (x2 x9 x10 x11 x12 : Sl) (f9 : x9.free = true) :
    pic_law_b1 (EL s0 x2 (.val (.ref n)) (.val (.str w)) (.val (tbl tb)) (.val (HsD (normB tb))) (.val (HsD (normB tb))) (.val (HsD (normB tb))) x9 x10 x11 x12) S = pic_law_b2 (EL s0 x2 (.val (.ref n)) (.val (.str w)) (.val (tbl tb)) (.val (HsD (normB tb))) (.val (HsD (normB tb))) (.val (HsD (normB tb))) x9 x10 x11 x12) S := by
  have hS2 := lk_at (x := .fk (nks tb)) hS
  have hB := lk_back (x := .fk (nks tb)) hS
  unfold pic_law_b1
  simp_all_arith
  rw [sLk_ok (n := n) (kvs := nks tb) rfl hS]
  generalize S.set n (.fk (nks tb)) = S2 at hS2 hB ⊢
  have te := tells_ok (Tb.cell hS2) h hl
  have nn : dNe (.lst []) (.lst []) = some (.bl false) := ne_same (strs_dat [])
  simp_all_arith [f9, te, nn, mapA_cons, unlS_ok hS2, hB]
theorem b0_ok {n : Nat} {tb : List Nb} {w : Str} (hS : S[n]? = some (.dk (nks tb))) (h : OkT tb) (hl : tb.length ≤ 10) (x2 x6 x7 x8 x9 x10 x11 x12 : Sl) (f6 : x6.free = true) (f7 : x7.free = true) (f8 : x8.free = true) :
    pic_law_b0 (EL s0 x2 (.val (.ref n)) (.val (.str w)) (.val (tbl tb)) x6 x7 x8 x9 x10 x11 x12) S = pic_law_b1 (EL s0 x2 (.val (.ref n)) (.val (.str w)) (.val (tbl tb)) (.val (HsD (normB tb))) (.val (HsD (normB tb))) (.val (HsD (normB tb))) x9 x10 x11 x12) S := by
  have hS2 := lk_at (x := .fk (nks tb)) hS
  have hB := lk_back (x := .fk (nks tb)) hS
  have tu := turned_ok (dkv_refd hS) h
  have ts := tb_same h (List.reverse_perm (nms tb))
  have hr := house_of (S := S) _ (Tb.val S _) ts.1
  rw [norm_same ts.1 h ts.2] at hr
  unfold pic_law_b0
  simp_all_arith
  rw [sLk_ok (n := n) (kvs := nks tb) rfl hS]
  generalize S.set n (.fk (nks tb)) = S2 at hS2 hB ⊢
  have ho := house_of tb (Tb.cell hS2) h
  have lp := lput_ok (Tb.cell hS2) h hl
  simp_all_arith [ho, lp, f6, f7, f8, unlS_ok hS2, hB, tu, hr]
theorem dkEq_self {l : List Nb} (hd : (nms l).Nodup) : dkEq (nks l) (nks l) = some true := by
  unfold dkEq
  rw [if_pos rfl, hits_ok]
  congr 1
  rw [List.all_eq_true]
  intro p hp
  have e : nget l p.1 = p.2 := by
    have := tab_of hd
    obtain ⟨q, hq, e1, e2⟩ := nget_mem (List.mem_map_of_mem (f := fun p : Nb => p.1) hp)
    rw [e2]
    have e3 : (p.1, nget l p.1) = p := by
      have h := hp
      rw [this] at h
      obtain ⟨z, hz, e4⟩ := List.mem_map.mp h
      rw [← e4]
    have e5 : nget l p.1 = p.2 := congrArg Prod.snd e3
    rw [e2] at e5
    exact e5
  rw [e, decide_eq_true (List.mem_map_of_mem hp)]
  simp
theorem cls_str {c : String} {F : List D → Store → R D} {d : D} {z : Str} {S : Store} (h : F [d] S = .ok (.str z) S) (hd : d.isO c S = true) : cStr c F [d] S = .ok (.str z) S := by
  unfold cStr
  simp_all_arith [h, hd]
theorem b2_ok {n : Nat} {tb : List Nb} {w : Str} (hS : S[n]? = some (.dk (nks tb))) (h : OkT tb) (hl : tb.length ≤ 10) (x2 x9 x10 x11 x12 : Sl) :
    pic_law_b2 (EL s0 x2 (.val (.ref n)) (.val (.str w)) (.val (tbl tb)) (.val (HsD (normB tb))) (.val (HsD (normB tb))) (.val (HsD (normB tb))) x9 x10 x11 x12) S = pic_law_b3 (EL s0 x2 (.val (.ref n)) (.val (.str w)) (.val (tbl tb)) (.val (HsD (normB tb))) (.val (HsD (normB tb))) (.val (HsD (normB tb))) x9 x10 x11 x12) S := by
  have dd := dkv_refd hS
  have hN := norm_NF h
  have ds := dkEq_self h.d
  have hq := heq_ok (S := S) hN hN
  rw [decide_eq_true rfl] at hq
  have hal := norm_len tb
  obtain ⟨z, st⟩ := str_ok (S := S) hN (by omega)
  have st := cls_str (c := "House") st rfl
  have hn1 : sh_House_eq [HsD (normB tb), .ref n] S = .ok (.bl false) S := by
    have i : isiC [] [("House", true)] S (.ref n) = some false := by unfold isiC; dsimp only; rw [hS]; rfl
    unfold sh_House_eq pic_House_eq
    simp_all_arith [i]
  have hn2 : sh_House_eq [HsD (normB tb), .str z] S = .ok (.bl false) S := by
    unfold sh_House_eq pic_House_eq
    simp_all_arith [show isiC [] [("House", true)] S (.str z) = some false from rfl]
  have t1 : D.tyIn ["NoneType", "bool", "int", "str", "list", "tuple", "dict"] [] S (.ref n) = true := by unfold D.tyIn; dsimp only; rw [hS]; rfl
  have t2 : D.tyIn ["NoneType", "bool", "int", "str", "list", "tuple", "dict"] [] S (.str z) = true := rfl
  unfold pic_law_b2
  simp_all_arith [dd, ds, hq, st, hn1, hn2, t1, t2]
end
end Nk
namespace Nk
open PySem PyProof.Rows L2 Sh
section
variable {xs : List Int} {T S : Store} {s0 : D}
abbrev S1 (xs : List Int) (a g : Int) (T : Store) (tb : List Nb) : Store := pen xs a g :: (T ++ [.dk (nks tb)])
theorem S1_dkv (a g : Int) (tb : List Nb) : (D.ref (T.length + 1)).dkv (S1 xs a g T tb) = some (nks tb) := dkv_refd (by rw [List.getElem?_cons_succ]; exact at_end T _)
abbrev L3 (u v : Int) : List Nb := [("x", u), ("north", v), ("c", 0)]
abbrev L4 (u v : Int) : List Nb := [("c", 0), ("north", v), ("x", u)]
theorem L3_ok {u v : Int} (hu : 0 ≤ u ∧ u ≤ MXN) (hv : 0 ≤ v ∧ v ≤ MXN) : OkT (L3 u v) :=
  ⟨fun p hp => by
    simp only [List.mem_cons, List.not_mem_nil, or_false] at hp
    rcases hp with rfl | rfl | rfl
    · show isNm "x" = true; decide +kernel
    · show isNm "north" = true; decide +kernel
    · show isNm "c" = true; decide +kernel, fun p hp => by
    simp only [List.mem_cons, List.not_mem_nil, or_false] at hp
    rcases hp with rfl | rfl | rfl
    · exact hu
    · exact hv
    · exact ⟨by decide, by decide⟩, by show (["x", "north", "c"] : List Str).Nodup; decide +kernel, by show 3 ≤ 60; decide⟩
theorem L4_ok {u v : Int} (hu : 0 ≤ u ∧ u ≤ MXN) (hv : 0 ≤ v ∧ v ≤ MXN) : OkT (L4 u v) :=
  ⟨fun p hp => by
    simp only [List.mem_cons, List.not_mem_nil, or_false] at hp
    rcases hp with rfl | rfl | rfl
    · show isNm "c" = true; decide +kernel
    · show isNm "north" = true; decide +kernel
    · show isNm "x" = true; decide +kernel, fun p hp => by
    simp only [List.mem_cons, List.not_mem_nil, or_false] at hp
    rcases hp with rfl | rfl | rfl
    · exact ⟨by decide, by decide⟩
    · exact hv
    · exact hu, by show (["c", "north", "x"] : List Str).Nodup; decide +kernel, by show 3 ≤ 60; decide⟩
theorem L34 (u v : Int) (z : Str) : nget (L3 u v) z = nget (L4 u v) z := by
  have n1 : (("x" : Str) = "north") = False := eq_false (by decide +kernel)
  have n2 : (("x" : Str) = "c") = False := eq_false (by decide +kernel)
  have n3 : (("north" : Str) = "c") = False := eq_false (by decide +kernel)
  show (if ("x" : Str) = z then u else if ("north" : Str) = z then v else if ("c" : Str) = z then 0 else 0) = (if ("c" : Str) = z then 0 else if ("north" : Str) = z then v else if ("x" : Str) = z then u else 0)
  by_cases h1 : ("x" : Str) = z
  · rw [if_pos h1, if_neg (fun q => n2 ▸ h1.trans q.symm), if_neg (fun q => n1 ▸ h1.trans q.symm), if_pos h1]
  · rw [if_neg h1, if_neg h1]
    by_cases h2 : ("north" : Str) = z
    · rw [if_pos h2, if_neg (fun q => n3 ▸ h2.trans q.symm), if_pos h2]
    · rw [if_neg h2, if_neg h2]
theorem b5_ok (hx : xs.length ≤ 63) (x2 x3 x4 x5 x6 x7 x8 x9 x10 x11 x12 : Sl) (f6 : x6.free = true) (f8 : x8.free = true) (f9 : x9.free = true) (f12 : x12.free = true) (a g : Int) (h0 : 0 ≤ a) (h1 : a ≤ 80000) :
    ∃ y6 y8 y9 y12 a' g', pic_law_b5 (EL s0 x2 x3 x4 x5 x6 x7 x8 x9 x10 x11 x12) (pen xs a g :: T) = .nx (EL s0 x2 x3 x4 x5 y6 x7 y8 y9 x10 x11 y12) (pen xs a' g' :: T) ∧ y6.free = true ∧ y8.free = true ∧ y9.free = true ∧ y12.free = true ∧ a ≤ a' ∧ a' ≤ a + 10 := by
  obtain ⟨u, a1, g1, e1, hu, b1, c1⟩ := number_ok (T := T) hx a g h0 (by omega)
  obtain ⟨v, a2, g2, e2, hv, b2, c2⟩ := number_ok (T := T) hx a1 g1 (by omega) (by omega)
  have ok3 := L3_ok hu hv
  have ok4 := L4_ok hu hv
  have kw := kw_ok (S := pen xs a2 g2 :: T) _ ok3
  rw [norm_same ok3 ok4 (L34 u v)] at kw
  have kw : sh_House_init (.ins "House" []) [.tup [], .fk [(.inr "x", .int u), (.inr "north", .int v), (.inr "c", .int 0)]] (pen xs a2 g2 :: T) = _ := kw
  have te := tells_ok (Tb.val (pen xs a2 g2 :: T) (L4 u v)) ok4 (by show 3 ≤ 10; decide)
  have te : sh__law_tells [HsD (normB (L4 u v)), .fk [(.inr "c", .int 0), (.inr "north", .int v), (.inr "x", .int u)]] (pen xs a2 g2 :: T) = _ := te
  have dm : dkMer [] [(.inr "c", .int 0), (.inr "north", .int v), (.inr "x", .int u)] = [(.inr "c", .int 0), (.inr "north", .int v), (.inr "x", .int u)] := rfl
  refine ⟨.val (HsD (normB (L4 u v))), .val (.int v), .val (.int u), .val (.fk [(.inr "c", .int 0), (.inr "north", .int v), (.inr "x", .int u)]), a2, g2, ?_, rfl, rfl, rfl, rfl, by omega, by omega⟩
  unfold pic_law_b5
  simp_all_arith [e1, e2, f6, f8, f9, f12, kw, dm, te, List.zip_cons_cons, List.zip_nil_right, List.zip_nil_left]
end
end Nk
namespace Nk
open PySem PyProof.Rows L2 Sh
section
variable {xs : List Int} {T S : Store} {s0 : D}
theorem isDk_of {x : D} {S : Store} {kvs : List (Key × D)} (h : x.dkv S = some kvs) : x.isDk S = true := by unfold D.isDk; rw [h]; rfl
theorem set_norm {tb : List Nb} (h : OkT tb) (hl : tb.length ≤ 10) {w : Str} (hw : isNm w = true) {v : Int} (hv : 0 ≤ v ∧ v ≤ MXN) : normB (setB (normB tb) w v) = normB (setB tb w v) := by
  have l := norm_len tb
  refine norm_same (setB_ok ((norm_NF h).ok (by omega)) (by omega) hw hv) (setB_ok h (by omega) hw hv) fun z => ?_
  rw [nget_set, nget_set, nget_norm]
theorem set_eq {tb : List Nb} (h : OkT tb) (hl : tb.length ≤ 10) {w : Str} (hw : isNm w = true) {v : Int} (hv : 0 ≤ v ∧ v ≤ MXN) : decide (normB (setB tb w v) = normB tb) = (v == nget tb w) := by
  have ok := setB_ok h (by omega) hw hv
  apply Bool.eq_iff_iff.mpr
  rw [decide_eq_true_eq, beq_iff_eq]
  constructor
  · intro e
    have := congrArg (fun l => nget l w) e
    simp only [nget_norm, nget_set, if_true] at this
    exact this
  · intro e
    refine norm_same ok h fun z => ?_
    rw [nget_set]
    by_cases hz : w = z
    · rw [if_pos hz, ← hz, e]
    · rw [if_neg hz]
theorem b4_ok (hx : xs.length ≤ 63) {tb : List Nb} (h : OkT tb) (hl : tb.length ≤ 5) {w : Str} (hw : isNm w = true) (x2 x7 x8 x9 x10 x11 x12 : Sl) (f8 : x8.free = true) (f9 : x9.free = true) (f12 : x12.free = true) (a g : Int) (h0 : 0 ≤ a) (h1 : a ≤ 70000) :
    ∃ y6 y8 y9 y12 a' g' tb', pic_law_b4 (EL s0 x2 (.val (.ref (T.length + 1))) (.val (.str w)) (.val (tbl tb)) (.val (HsD (normB tb))) x7 x8 x9 x10 x11 x12) (S1 xs a g T tb) = .nx (EL s0 x2 (.val (.ref (T.length + 1))) (.val (.str w)) (.val (tbl tb)) y6 x7 y8 y9 x10 x11 y12) (S1 xs a' g' T tb') ∧ y6.free = true ∧ y8.free = true ∧ y9.free = true ∧ y12.free = true ∧ a ≤ a' ∧ a' ≤ a + 20 := by
  have dd := S1_dkv (xs := xs) (T := T) a g tb
  have gg' := dkV_get tb w
  have st := dkSt_set tb w (nget tb w + 1)
  have hS := at_end T (.dk (nks tb))
  have hE := set_end T (.dk (nks tb)) (.dk (nks (setB tb w (nget tb w + 1))))
  have hlt : tb.length < 16777216 := by omega
  have te := tells_ok (Tb.val (S1 xs a g T (setB tb w (nget tb w + 1))) tb) h (by omega)
  obtain ⟨a1, g1, e1, b1, c1⟩ := has_right (xs := xs) (T := T ++ [.dk (nks (setB tb w (nget tb w + 1)))]) h (by omega) hw hx a g h0 (by omega)
  obtain ⟨y6, y8, y9, y12, a2, g2, e2, k6, k8, k9, k12, b2, c2⟩ := b5_ok (s0 := s0) (T := T ++ [.dk (nks (setB tb w (nget tb w + 1)))]) hx x2 (.val (.ref (T.length + 1))) (.val (.str w)) (.val (tbl tb)) (.val (HsD (normB tb))) x7 x8 x9 x10 x11 x12 rfl f8 f9 f12 a1 g1 (by omega) (by omega)
  refine ⟨y6, y8, y9, y12, a2, g2, setB tb w (nget tb w + 1), ?_, k6, k8, k9, k12, by omega, by omega⟩
  unfold pic_law_b4
  simp_all_arith [dd, isDk_of dd, gg', hS, hE, st, hlt, te, e1]
  exact e2
theorem b3_ok (hx : xs.length ≤ 63) {tb : List Nb} (h : OkT tb) (hl : tb.length ≤ 5) {w : Str} (hw : isNm w = true) (x2 x7 x8 x9 x10 x11 x12 : Sl) (f8 : x8.free = true) (f9 : x9.free = true) (f10 : x10.free = true) (f11 : x11.free = true) (f12 : x12.free = true) (a g : Int) (h0 : 0 ≤ a) (h1 : a ≤ 60000) :
    ∃ y6 y8 y9 y10 y11 y12 a' g' tb', pic_law_b3 (EL s0 x2 (.val (.ref (T.length + 1))) (.val (.str w)) (.val (tbl tb)) (.val (HsD (normB tb))) x7 x8 x9 x10 x11 x12) (S1 xs a g T tb) = .nx (EL s0 x2 (.val (.ref (T.length + 1))) (.val (.str w)) (.val (tbl tb)) y6 x7 y8 y9 y10 y11 y12) (S1 xs a' g' T tb') ∧ y6.free = true ∧ y8.free = true ∧ y9.free = true ∧ y10.free = true ∧ y11.free = true ∧ y12.free = true ∧ a ≤ a' ∧ a' ≤ a + 40 := by
  obtain ⟨v, a1, g1, e1, hv, b1, c1⟩ := number_ok (T := T ++ [.dk (nks tb)]) hx a g h0 (by omega)
  have hN := norm_NF h
  have hal := norm_len tb
  have ok := setB_ok h (by omega) hw hv
  have ln := setB_len tb w v
  have pu := put_ok (S := S1 xs a1 g1 T tb) hN (by omega) hw hv
  rw [set_norm h (by omega) hw hv] at pu
  have dd := S1_dkv (xs := xs) (T := T) a1 g1 tb
  have st := dkSt_set tb w v
  have te := tells_ok (Tb.val (S1 xs a1 g1 T tb) (setB tb w v)) ok (by omega)
  have hq := heq_ok (S := S1 xs a1 g1 T tb) (norm_NF ok) hN
  rw [set_eq h (by omega) hw hv] at hq
  obtain ⟨r, hr⟩ := rp_bl (v == nget tb w)
  have nr := ne_same (d := .str r) isDat_str
  have gg' := dkV_get tb w
  have hlt : tb.length < 16777216 := by omega
  have dE := dEq_ii (a := v) (b := nget tb w)
  obtain ⟨y6, y8, y9, y12, a2, g2, tb', e2, k6, k8, k9, k12, b2, c2⟩ := b4_ok (s0 := s0) (T := T) hx h hl hw x2 x7 x8 x9 (.val (.int v)) (.val (HsD (normB (setB tb w v)))) (.val (tbl (setB tb w v))) f8 f9 rfl a1 g1 (by omega) (by omega)
  refine ⟨y6, y8, y9, .val (.int v), .val (HsD (normB (setB tb w v))), y12, a2, g2, tb', ?_, k6, k8, k9, rfl, rfl, k12, by omega, by omega⟩
  unfold pic_law_b3
  simp_all_arith [e1, pu, dd, isDk_of dd, st, f10, f11, f12, hlt, te, hq, hr, nr, gg', dE]
  exact e2
abbrev turnB : Sy := (sSeq (sAsg (gT (gsCons (gN 3) (gsCons (gN 4) gsNil))) (eTup (aCons (eDf sh__law_table (aCons (eVar 1) aNil)) (aCons (eDf sh__law_word (aCons (eVar 1) aNil)) aNil))))
    (sSeq (sSet 5 (eNewD (kCopy (eVar 3))))
    pic_law_b0))
theorem turn_ok (hx : xs.length ≤ 63) (x2 x3 x4 x5 x6 x7 x8 x9 x10 x11 x12 : Sl) (f3 : x3.free = true) (f4 : x4.free = true) (f5 : x5.free = true) (f6 : x6.free = true) (f7 : x7.free = true) (f8 : x8.free = true) (f9 : x9.free = true) (f10 : x10.free = true) (f11 : x11.free = true) (f12 : x12.free = true) (a g : Int) (h0 : 0 ≤ a) (h1 : a ≤ 40000) :
    ∃ y3 y4 y5 y6 y7 y8 y9 y10 y11 y12 a' g' T', turnB (EL s0 x2 x3 x4 x5 x6 x7 x8 x9 x10 x11 x12) (pen xs a g :: T) = .nx (EL s0 x2 y3 y4 y5 y6 y7 y8 y9 y10 y11 y12) (pen xs a' g' :: T') ∧ (y3.free = true ∧ y4.free = true ∧ y5.free = true ∧ y6.free = true ∧ y7.free = true ∧ y8.free = true ∧ y9.free = true ∧ y10.free = true ∧ y11.free = true ∧ y12.free = true) ∧ a ≤ a' ∧ a' ≤ a + 400 := by
  obtain ⟨tb, a1, g1, e1, h, hl, b1, c1⟩ := table_ok (T := T) hx a g h0 (by omega)
  obtain ⟨w, a2, g2, e2, hw, b2, c2⟩ := word_ok (T := T ++ [.dk (nks tb)]) hx a1 g1 (by omega) (by omega)
  have dd := S1_dkv (xs := xs) (T := T) a2 g2 tb
  have hS : (S1 xs a2 g2 T tb)[T.length + 1]? = some (.dk (nks tb)) := by rw [List.getElem?_cons_succ]; exact at_end T _
  have k0 := b0_ok (s0 := s0) hS h (w := w) (by omega) x2 x6 x7 x8 x9 x10 x11 x12 f6 f7 f8
  have k1 := b1_ok (s0 := s0) hS h (w := w) (by omega) x2 x9 x10 x11 x12 f9
  have k2 := b2_ok (s0 := s0) hS h (w := w) (by omega) x2 x9 x10 x11 x12
  obtain ⟨y6, y8, y9, y10, y11, y12, a3, g3, tb', e3, q6, q8, q9, q10, q11, q12, b3, c3⟩ := b3_ok (s0 := s0) (T := T) hx h hl hw x2 (.val (HsD (normB tb))) (.val (HsD (normB tb))) x9 x10 x11 x12 rfl f9 f10 f11 f12 a2 g2 (by omega) (by omega)
  refine ⟨.val (.ref (T.length + 1)), .val (.str w), .val (tbl tb), y6, .val (HsD (normB tb)), y8, y9, y10, y11, y12, a3, g3, T ++ [.dk (nks tb')], ?_, ⟨rfl, rfl, rfl, q6, rfl, q8, q9, q10, q11, q12⟩, by omega, by omega⟩
  have ke := ((k0.trans k1).trans k2).trans e3
  unfold turnB
  simp_all_arith [e1, e2, f3, f4, f5, dd]
  exact ke
theorem turns_ok (hx : xs.length ≤ 63) : ∀ (is : List Nat) (x2 x3 x4 x5 x6 x7 x8 x9 x10 x11 x12 : Sl) (a g : Int) (T : Store), x2.free = true → (x3.free = true ∧ x4.free = true ∧ x5.free = true ∧ x6.free = true ∧ x7.free = true ∧ x8.free = true ∧ x9.free = true ∧ x10.free = true ∧ x11.free = true ∧ x12.free = true) → 0 ≤ a → a + 400 * is.length ≤ 30000 →
    ∃ (y2 y3 y4 y5 y6 y7 y8 y9 y10 y11 y12 : Sl) (a' g' : Int) (T' : Store), forD (gN 2) turnB (is.map fun i => D.int (i : Nat)) (EL s0 x2 x3 x4 x5 x6 x7 x8 x9 x10 x11 x12) (pen xs a g :: T) = .nx (EL s0 y2 y3 y4 y5 y6 y7 y8 y9 y10 y11 y12) (pen xs a' g' :: T')
  | [], x2, x3, x4, x5, x6, x7, x8, x9, x10, x11, x12, a, g, T, _, _, _, _ => ⟨x2, x3, x4, x5, x6, x7, x8, x9, x10, x11, x12, a, g, T, rfl⟩
  | i :: is, x2, x3, x4, x5, x6, x7, x8, x9, x10, x11, x12, a, g, T, f2, ⟨f3, f4, f5, f6, f7, f8, f9, f10, f11, f12⟩, h0, h1 => by
    rw [List.length_cons] at h1
    obtain ⟨y3, y4, y5, y6, y7, y8, y9, y10, y11, y12, a1, g1, T1, e1, k, b1, c1⟩ := turn_ok (T := T) (s0 := s0) hx (.val (.int (i : Nat))) x3 x4 x5 x6 x7 x8 x9 x10 x11 x12 f3 f4 f5 f6 f7 f8 f9 f10 f11 f12 a g h0 (by omega)
    obtain ⟨z2, z3, z4, z5, z6, z7, z8, z9, z10, z11, z12, a2, g2, T2, e2⟩ := turns_ok hx is (.val (.int (i : Nat))) y3 y4 y5 y6 y7 y8 y9 y10 y11 y12 a1 g1 T1 rfl k (by omega) (by omega)
    refine ⟨z2, z3, z4, z5, z6, z7, z8, z9, z10, z11, z12, a2, g2, T2, ?_⟩
    rw [List.map_cons, Sh.forD_cons]
    have hg : gN 2 (D.int (i : Nat)) (EL s0 x2 x3 x4 x5 x6 x7 x8 x9 x10 x11 x12) = some (EL s0 (.val (.int (i : Nat))) x3 x4 x5 x6 x7 x8 x9 x10 x11 x12) := by simp_all_arith [f2]
    rw [hg]
    dsimp only
    rw [e1]
    exact e2
theorem law_true (ns : List Int) (hl : ns.length ≤ 63) : ∃ S, sh_law [.scr (ns.map .int)] [] = .ok (.bl true) S := by
  have ht : (ns.map D.int).take 63 = ns.map D.int := List.take_of_length_le (by rw [List.length_map]; exact hl)
  have hp : sh__law_pen [.scr (ns.map .int)] [] = .ok (.ref 0) [pen ns 0 0] := by
    unfold sh__law_pen pic__law_pen pen
    simp_all_arith [ht]
  obtain ⟨y2, y3, y4, y5, y6, y7, y8, y9, y10, y11, y12, a1, g1, T1, h⟩ := turns_ok (s0 := .scr (ns.map .int)) hl (List.range 5) .no .no .no .no .no .no .no .no .no .no .no 0 0 [] rfl ⟨rfl, rfl, rfl, rfl, rfl, rfl, rfl, rfl, rfl, rfl⟩ (by omega) (by rw [List.length_range]; omega)
  have e8 : (5 : Int).toNat = 5 := rfl
  refine ⟨pen ns a1 g1 :: T1, ?_⟩
  unfold sh_law pic_law
  simp_all_arith [hp]
  unfold pic_law_loop
  simp_all_arith [e8]
  refine (congrArg (fun q : RS => (q.seq pic_law_z).res) h).trans ?_
  simp_all_arith
  refine (congrArg RS.res (z_ok _ _ _ _ _ _ _ _ _ _ _ _)).trans ?_
  rfl
end
end Nk
namespace Nk
open PySem PySem.Spec PyProof.Rows L2
theorem facts {w : World} {K : PySem.W.Frag} {h : Heap} {mg : Str → Option Value} {fa : Addr} (X : K.In h) (G : h.Ns mainGlobals mg) (hfa : mg ("law" : Str) = some (.ref fa)) (c : SaysN fns FL tfs lawK h K) : LawG PP w K 9 63 "_law_script" mg fa h := by
  obtain ⟨m1, m2⟩ := He.ba (show ((lits.all fun f => f.ok K) && (bls K).all id) = true from c.more)
  have lf : ∀ i (f : He.Fa), lits[i]? = some f → f.ok K = true := fun i f e => List.all_eq_true.mp m1 f (List.mem_of_getElem? e)
  have b : ∀ i (x : Bool), (bls K)[i]? = some x → x = true := fun i x e => List.all_eq_true.mp m2 x (List.mem_of_getElem? e)
  have T : Tx K mg := {
    d_BadName_init := (c.sup (List.mem_of_getElem? (i := 0) rfl) rfl rfl),
    n_super := (He.free_ok X G (x := "super") (lf 0 _ rfl)),
    ci_BadName := clsInB_ok (b 0 _ rfl),
    exc_BadName := supB_ok (b 1 _ rfl),
    nx_BadName_value := He.eqO_ok (b 2 _ rfl),
    d_BadNumber_init := (c.sup (List.mem_of_getElem? (i := 1) rfl) rfl rfl),
    ci_BadNumber := clsInB_ok (b 3 _ rfl),
    exc_BadNumber := supB_ok (b 4 _ rfl),
    nx_BadNumber_value := He.eqO_ok (b 5 _ rfl),
    d_BadTable_init := (c.sup (List.mem_of_getElem? (i := 2) rfl) rfl rfl),
    ci_BadTable := clsInB_ok (b 6 _ rfl),
    exc_BadTable := supB_ok (b 7 _ rfl),
    nx_BadTable_value := He.eqO_ok (b 8 _ rfl),
    d_is_integer := ⟨_, (c.fun_ (List.mem_of_getElem? (i := 3) rfl) rfl), (He.glo_ok X G (x := "is_integer") (lf 1 _ rfl))⟩,
    n_isinstance := (He.free_ok X G (x := "isinstance") (lf 2 _ rfl)),
    n_int := (He.free_ok X G (x := "int") (lf 3 _ rfl)),
    n_bool := (He.free_ok X G (x := "bool") (lf 4 _ rfl)),
    d_is_within := ⟨_, (c.fun_ (List.mem_of_getElem? (i := 4) rfl) rfl), (He.glo_ok X G (x := "is_within") (lf 5 _ rfl))⟩,
    d_is_number := ⟨_, (c.fun_ (List.mem_of_getElem? (i := 5) rfl) rfl), (He.glo_ok X G (x := "is_number") (lf 6 _ rfl))⟩,
    c_MOST_NUMBER := (let ⟨t, e⟩ := He.int_ok X G (x := "MOST_NUMBER") (i := 999999999999999999999999999999999999999999999999999999999999) (lf 7 _ rfl); ⟨_, e, t, rfl⟩),
    d_is_name := ⟨_, (c.fun_ (List.mem_of_getElem? (i := 6) rfl) rfl), (He.glo_ok X G (x := "is_name") (lf 8 _ rfl))⟩,
    n_str := (He.free_ok X G (x := "str") (lf 9 _ rfl)),
    n_len := (He.free_ok X G (x := "len") (lf 10 _ rfl)),
    c_MOST_LETTERS := (let ⟨t, e⟩ := He.int_ok X G (x := "MOST_LETTERS") (i := 8) (lf 11 _ rfl); ⟨_, e, t, rfl⟩),
    n_all := (He.free_ok X G (x := "all") (lf 12 _ rfl)),
    c_LETTERS := (let ⟨t, e⟩ := He.str_ok X G (x := "LETTERS") (z := "abcdefghijklmnopqrstuvwxyz") (lf 13 _ rfl); ⟨_, e, t, rfl⟩),
    d_need_name := ⟨_, (c.fun_ (List.mem_of_getElem? (i := 7) rfl) rfl), (He.glo_ok X G (x := "need_name") (lf 14 _ rfl))⟩,
    xi_BadName := He.eqO_ok (b 9 _ rfl),
    xt_BadName := of_decide_eq_true (b 10 _ rfl),
    g_BadName := (He.glo_ok X G (x := "BadName") (lf 15 _ rfl)),
    d_need_number := ⟨_, (c.fun_ (List.mem_of_getElem? (i := 8) rfl) rfl), (He.glo_ok X G (x := "need_number") (lf 16 _ rfl))⟩,
    xi_BadNumber := He.eqO_ok (b 11 _ rfl),
    xt_BadNumber := of_decide_eq_true (b 12 _ rfl),
    g_BadNumber := (He.glo_ok X G (x := "BadNumber") (lf 17 _ rfl)),
    d_numbers_of := ⟨_, (c.fun_ (List.mem_of_getElem? (i := 9) rfl) rfl), (He.glo_ok X G (x := "numbers_of") (lf 18 _ rfl))⟩,
    n_dict := (He.free_ok X G (x := "dict") (lf 19 _ rfl)),
    xi_BadTable := He.eqO_ok (b 13 _ rfl),
    xt_BadTable := of_decide_eq_true (b 14 _ rfl),
    g_BadTable := (He.glo_ok X G (x := "BadTable") (lf 20 _ rfl)),
    n_sorted := (He.free_ok X G (x := "sorted") (lf 21 _ rfl)),
    d_House_init := (c.fun_ (List.mem_of_getElem? (i := 10) rfl) rfl),
    cl_House := He.cls_ok (b 15 _ rfl),
    na_House_own_numbers := He.noat_ok (b 16 _ rfl),
    d_House_of := (c.fun_ (List.mem_of_getElem? (i := 11) rfl) rfl),
    mk_House := He.mkr_ok (b 17 _ rfl),
    d_House_none := (c.fun_ (List.mem_of_getElem? (i := 12) rfl) rfl),
    g_House := (He.glo_ok X G (x := "House") (lf 22 _ rfl)),
    d_House_put := (c.fun_ (List.mem_of_getElem? (i := 13) rfl) rfl),
    d_House_bays := (c.fun_ (List.mem_of_getElem? (i := 14) rfl) rfl),
    n_tuple := (He.free_ok X G (x := "tuple") (lf 23 _ rfl)),
    d_House_total := (c.fun_ (List.mem_of_getElem? (i := 15) rfl) rfl),
    n_sum := (He.free_ok X G (x := "sum") (lf 24 _ rfl)),
    d_House_getitem := (c.fun_ (List.mem_of_getElem? (i := 16) rfl) rfl),
    d_House_contains := (c.fun_ (List.mem_of_getElem? (i := 17) rfl) rfl),
    in_House := insB_ok (b 18 _ rfl),
    kt_House_str_f := of_decide_eq_true (b 19 _ rfl),
    d_House_len := (c.fun_ (List.mem_of_getElem? (i := 18) rfl) rfl),
    d_House_bool := (c.fun_ (List.mem_of_getElem? (i := 19) rfl) rfl),
    d_House_eq := (c.fun_ (List.mem_of_getElem? (i := 20) rfl) rfl),
    kts_House := (fun t ht => of_decide_eq_true (List.all_eq_true.mp (b 20 _ rfl) t ht)),
    kt_House_House_t := of_decide_eq_true (b 21 _ rfl),
    d_House_str := (c.fun_ (List.mem_of_getElem? (i := 21) rfl) rfl),
    d_House_iter := (c.fun_ (List.mem_of_getElem? (i := 22) rfl) rfl),
    n_iter := (He.free_ok X G (x := "iter") (lf 25 _ rfl)),
    d__law_pen := ⟨_, (c.fun_ (List.mem_of_getElem? (i := 23) rfl) rfl), (He.glo_ok X G (x := "_law_pen") (lf 26 _ rfl))⟩,
    n_list := (He.free_ok X G (x := "list") (lf 27 _ rfl)),
    d__law_draw := ⟨_, (c.fun_ (List.mem_of_getElem? (i := 24) rfl) rfl), (He.glo_ok X G (x := "_law_draw") (lf 28 _ rfl))⟩,
    n_abs := (He.free_ok X G (x := "abs") (lf 29 _ rfl)),
    d__law_pick := ⟨_, (c.fun_ (List.mem_of_getElem? (i := 25) rfl) rfl), (He.glo_ok X G (x := "_law_pick") (lf 30 _ rfl))⟩,
    d__law_word := ⟨_, (c.fun_ (List.mem_of_getElem? (i := 26) rfl) rfl), (He.glo_ok X G (x := "_law_word") (lf 31 _ rfl))⟩,
    n_range := (He.free_ok X G (x := "range") (lf 32 _ rfl)),
    d__law_number := ⟨_, (c.fun_ (List.mem_of_getElem? (i := 27) rfl) rfl), (He.glo_ok X G (x := "_law_number") (lf 33 _ rfl))⟩,
    d__law_table := ⟨_, (c.fun_ (List.mem_of_getElem? (i := 28) rfl) rfl), (He.glo_ok X G (x := "_law_table") (lf 34 _ rfl))⟩,
    d__law_is_count := ⟨_, (c.fun_ (List.mem_of_getElem? (i := 29) rfl) rfl), (He.glo_ok X G (x := "_law_is_count") (lf 35 _ rfl))⟩,
    d__law_tells := ⟨_, (c.fun_ (List.mem_of_getElem? (i := 30) rfl) rfl), (He.glo_ok X G (x := "_law_tells") (lf 36 _ rfl))⟩,
    own_House_getitem := ownMB_ok (b 22 _ rfl),
    pr_House_total := propB_ok (b 23 _ rfl),
    own_House_len := ownMB_ok (b 24 _ rfl),
    pr_House_bays := propB_ok (b 25 _ rfl),
    own_House_iter := ownMB_ok (b 26 _ rfl),
    own_House_bool := ownMB_ok (b 27 _ rfl),
    d__law_turned := ⟨_, (c.fun_ (List.mem_of_getElem? (i := 31) rfl) rfl), (He.glo_ok X G (x := "_law_turned") (lf 37 _ rfl))⟩,
    d__law_put := ⟨_, (c.fun_ (List.mem_of_getElem? (i := 32) rfl) rfl), (He.glo_ok X G (x := "_law_put") (lf 38 _ rfl))⟩,
    cr_House := creadB_ok (b 28 _ rfl),
    cf_House_none := cfB_ok (b 29 _ rfl),
    mt_House_put := He.meth_ok (b 30 _ rfl),
    d__law_in_right := ⟨_, (c.fun_ (List.mem_of_getElem? (i := 33) rfl) rfl), (He.glo_ok X G (x := "_law_in_right") (lf 39 _ rfl))⟩,
    n_repr := (He.free_ok X G (x := "repr") (lf 40 _ rfl)),
    own_House_contains := ownMB_ok (b 31 _ rfl),
    tm_law := (List.mem_of_getElem? (i := 0) rfl),
    tu_law := (tu_law (b 32 _ rfl)),
    cm_House_of := cmB_ok (b 33 _ rfl),
    eq_House := eqCB_ok (b 34 _ rfl),
    nf_House_House := (b 35 _ rfl),
    nfs_House := (fun t ht => List.all_eq_true.mp (b 36 _ rfl) t ht),
    own_House_str := ownMB_ok (b 37 _ rfl),
    cv_House_DIGITS := cvB_ok (b 38 _ rfl),
    co_House_DIGITS := coB_ok (b 39 _ rfl) }
  obtain ⟨fl, ⟨fd, F⟩, eg⟩ : ∃ f, FnP K "law" s_law f ∧ mg "law" = some (.ref f) := ⟨_, (c.fun_ (List.mem_of_getElem? (i := 34) rfl) rfl), (He.glo_ok X G (x := "law") (lf 41 _ rfl))⟩
  have e := hfa.symm.trans (He.glo_ok X G (x := "law") (lf 41 _ rfl))
  cases e
  have F : FunD K "law" "law" (defArgs s_law) (defBody s_law) (defScope s_law) [] [] (He.ga K "law") fd := by
    have e2 := eg.symm.trans (He.glo_ok X G (x := "law") (lf 41 _ rfl))
    cases e2
    exact F
  have bd := FunD.bindsA (ps := ["_law_script"]) F fun _ _ _ _ _ _ us hl => match us, hl with | [_], _ => rfl
  have all : ∀ {Q : Addr × Addr → Prop}, (∀ d ∈ tfs, Q (He.cT K d)) → ∀ p ∈ tfs.map (He.cT K), Q p := fun h p hp => by obtain ⟨d, hd, rfl⟩ := List.mem_map.mp hp; exact h d hd
  exact ⟨fd, tfs.map (He.cT K), Sh.spSh K sh_law, all fun d hd => c.empty d hd, all fun d hd => c.out d hd, all fun d hd => PySem.W.codeHd_of_K X (c.hd d hd), fun s v => bd s [v] rfl,
    fun H a ns hl _ hT hS => Sh.entry (fun p hp => by
      have hp : p ∈ [((He.cT K ("law", none)).2, ("law.<locals>.<lambda>" : Str))] := hp
      simp only [List.mem_cons, List.not_mem_nil, or_false] at hp
      rcases hp with rfl
      · exact LamX.TabS.nil (hT _ (List.mem_map_of_mem (List.mem_of_getElem? (i := 0) rfl)))) hS hl (law_true ns hl), fun base _ _ hTB => fg_law T ⟨hTB _ (List.mem_map_of_mem (List.mem_of_getElem? (i := 0) rfl))⟩ F⟩
end Nk
open PySem PySem.W PySem.Calls PyProof.Rows
theorem PySem.Challenge.cw_nextkind_k02_houses_made_holds : PySem.Challenge.rw_nextkind_k02_houses_made.Holds := by
  w_on; o_law
  refine HandSHeadRun.head_any (r := OpenLaw.row PySem.Challenge.rw_nextkind_k02_houses_made) (q := view (OpenLaw.row PySem.Challenge.rw_nextkind_k02_houses_made).prog [39]) (H := Nk.hk) (ob := Nk.ob) (M := 9000) (loose := Nk.loose) (d := HandSHeadRun.topDef (OpenLaw.row PySem.Challenge.rw_nextkind_k02_houses_made).prog 39) (kwd := []) Nk.ob_eq
    (by kernel_rfl) (fun s => by kernel_rfl) Nk.run (by kernel_rfl) (by kernel_rfl) (by kernel_rfl) (by rfl) (by first | assumption | decide +kernel) (by decide +kernel) ⟨rfl, rfl, rfl, rfl, rfl, by decide +kernel⟩ ?hw ?hc
  case hw => w_witness2
  case hc =>
    refine Nk.walk_ofG (l := PySem.Challenge.rw_nextkind_k02_houses_made) (n := 63) (k := 9) (x := "_law_script") rfl (by decide) (by kernel_rfl) ⟨rfl, by decide, by decide⟩ ?F
    intro w mg fa h Y G hmg0
    obtain ⟨K, KX, c⟩ := Y
    have hmg : mg ("law" : PySem.Str) = some (.ref fa) := by
      have e : (HandSHeadRun.topDef (OpenLaw.row PySem.Challenge.rw_nextkind_k02_houses_made).prog 39).name = ("law" : PySem.Str) := by kernel_rfl
      rw [← e]
      exact hmg0
    exact ⟨K, KX, Nk.facts KX G hmg c⟩
