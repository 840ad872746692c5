import PyProof.Rows.All
import Wide.All
import OpenK.AllK
import Wide.FinOn
import KE.KExcSuper
import HandS.ForMost
import HandS.Exc
import HandS.ExcOwn
import HandS.ExcInit
import HandS.WordsExc
import HandS.ClsMeth
import HandS.Defaults
import HandS.Property
import HandS.MakeKwOnly
import HandS.TryOnly
import HandS.TryMany
import HandS.ExcIs
import HandS.IsInst
import HandS.Flow
import HandS.Style
import HandS.Steps
import HandS.StrMore
import HandS.TupAny
import HandS.Evl
import KE.KUnpackStar
import KE.KTryMore
import HandS.Star
import HandS.ExcField
import HandS.ExcValue
import HandS.Ends
import KE.KDictList
import HandS.Iter
import HandS.Dict
import HandS.More
import HandS.Strs
import PySem.Challenge.RW_savewise_k53_errors_made
import KE.RegKSuper
set_option Elab.async false
set_option linter.all false
set_option maxRecDepth 100000
set_option maxHeartbeats 4000000
/-! SwSup: defs with super() (a closure over the class), by wpAt; super().m(..); the __init__ of an own exception that says super().__init__(text). -/
namespace Sw
open PySem PySem.Spec PyProof.Rows L2

structure SScope (N P : List Str) (sc : Scope) : Prop where
  kind : sc.kind = .function
  co : sc.isCoroutine = false
  gen : sc.isGenerator = false
  nd : N.Nodup
  pre : N.take P.length = P
  par : ∀ x ∈ P, sc.names.lookup x = some .local
  nocell : ∀ y ∈ sc.names, y.2 ≠ .cell
  free : ∀ y ∈ sc.names, y.2 = .free → y.1 = "__class__"

def cxS (CX : CXT) (P : Program) (w : World) (K : PySem.W.Frag) (mg : Str → Option Value) (base : Heap) (N : List Str) (qual : Str) (scope : Scope) (f : Addr) (cd : Value) (cc : Addr) (A : Around) (outer : List Env) (s : Shared) (H : Hp) (E : XK) : Cx where
  prog := P
  w := w
  K := K
  mg := mg
  base := base
  A := A.deeper (PySem.W.ksEnv qual scope s.heap.objs.size f cd cc)
  N := N
  s_0 := s
  H_0 := H
  env := PySem.W.ksEnv qual scope s.heap.objs.size f cd cc
  outer := outer
  stack := PySem.W.ksEnv qual scope s.heap.objs.size f cd cc :: outer
  ex := []
  calm := true
  fn := fun _ => false
  pn := []
  xe := fun e s' => wpAny (model P w) (A.deeper (PySem.W.ksEnv qual scope s.heap.objs.size f cd cc)) (leaving (PySem.W.ksEnv qual scope s.heap.objs.size f cd cc) e) (fun _ s'' => CX outer H s E e s'') (fun e' s'' => CX outer H s E e' s'') s'

theorem zip_fst_sub : ∀ (ps : List Str) (us : List Value), ((ps.zip us).map (·.1)).Sublist ps
  | [], _ => by simp
  | _ :: _, [] => by simp
  | p :: ps, u :: us => by
    rw [List.zip_cons_cons, List.map_cons]
    exact (zip_fst_sub ps us).cons_cons p
theorem zip_rev_look : ∀ {ps : List Str} {us : List Value} {i : Nat} {x : Str} {u : Value}, ps.Nodup → ps[i]? = some x → us[i]? = some u → (ps.zip us).reverse.lookup x = some u := by
  intro ps us i x u nd hp hu
  have hmem : (x, u) ∈ (ps.zip us).reverse := by
    rw [List.mem_reverse]
    refine List.mem_iff_getElem?.mpr ⟨i, ?_⟩
    rw [List.getElem?_zip_eq_some]
    exact ⟨hp, hu⟩
  have key : ∀ (l : List (Str × Value)), (l.map (·.1)).Nodup → (x, u) ∈ l → l.lookup x = some u := by
    intro l
    induction l with
    | nil => intro _ h; cases h
    | cons p l ih =>
      intro hn hm
      obtain ⟨y, v⟩ := p
      rw [List.map_cons, List.nodup_cons] at hn
      rcases List.mem_cons.mp hm with e | hm
      · injection e with e1 e2
        subst e1 e2
        simp [List.lookup]
      · have hne : x ≠ y := fun e => hn.1 (by rw [← e]; exact List.mem_map_of_mem (f := (·.1)) hm)
        have hb : (x == y) = false := by simpa using hne
        rw [List.lookup, hb]
        exact ih hn.2 hm
  refine key _ ?_ hmem
  rw [List.map_reverse]
  refine List.pairwise_reverse.mpr (List.Pairwise.imp (fun h => Ne.symm h) ?_)
  exact nd.sublist (zip_fst_sub ps us)

section
variable {CX : CXT} {P : Program} {w : World} {K : PySem.W.Frag} {mg : Str → Option Value} {base : Heap} {N ps : List Str} {qual : Str} {scope : Scope} {f cc D : Addr} {cd : Value} {A : Around} {outer : List Env} {s : Shared} {H : Hp} {E : XK} {us : List Value} {vs : List V}
theorem inv_startS {h₁ : Heap} {tk : Nat} {cl : Value} {cld : Option Addr} {csl : Array (Option Value)} (S : SScope N ps scope) (hd : A.handled = none) (e0 : Env0 P w K mg base A outer s H) (hl : vs.length = ps.length) (r : Vals vs us)
    (hcc : K.lookup cc = some ⟨cl, cld, .cell (some (.ref D)), csl⟩) (hns : h₁.Ns s.heap.objs.size fun y => (ps.zip us).reverse.lookup y) (hk : ∀ b o, s.heap.get? b = some o → h₁.get? b = some o) :
    Inv (cxS CX P w K mg base N qual scope f cd cc A outer s H E) [] (L2.start N vs) H { s with heap := h₁, toks := tk } := by
  have hpl : ps.length ≤ N.length := by have := congrArg List.length S.pre; rw [List.length_take] at this; omega
  have noA : ∀ b : Addr, b ∉ (cxS CX P w K mg base N qual scope f cd cc A outer s H E).ex := fun b z => absurd (show b ∈ ([] : List Addr) from z) (by simp)
  have hbc : base.get? cc = some ⟨cl, cld, .cell (some (.ref D)), csl⟩ := e0.mod.kin _ _ hcc
  have look1 : ∀ {x : Str} {c : Addr}, (cxS CX P w K mg base N qual scope f cd cc A outer s H E).env.cells.lookup x = some c → x = "__class__" ∧ c = cc := fun {x c} h => by
    have h' : List.lookup x [(("__class__" : Str), cc)] = some c := h
    by_cases e : x = "__class__"
    · subst e
      simp [List.lookup] at h'
      exact ⟨rfl, h'.symm⟩
    · have eb : (x == ("__class__" : Str)) = false := by simpa using e
      simp [List.lookup, eb] at h'
  refine ⟨⟨e0.mod, S.kind, rfl, rfl, Nat.le_refl _, fun y z c h1 h2 => (look1 h1).1.trans (look1 h2).1.symm, fun y hy => ?_, fun y c h => (Bool.noConfusion h), fun _ => hd, Around.frames_deeper e0.frames, .inr ⟨rfl, rfl⟩, fun b z => absurd z (noA b), e0.bs, e0.bsz, fun b _ _ => noA b, fun b z => absurd z (noA b), e0.funs, e0.frf⟩,
    rfl, e0.bare, Un.kept hk, ⟨_, hns, fun i y v h1 h2 h3 => ?_⟩, fun y c h => ?_, e0.hok.fresh (Nat.le_refl _), fun y c h => ?_, fun p hp => absurd (show p ∈ ([] : List (Addr × Obj)) from hp) (by simp), e0.hok.kept hk, ?_⟩
  · have hy : scope.names.lookup y = some .cell ∨ scope.names.lookup y = some .free := hy
    rcases hy with hy | hy
    · exact absurd rfl (S.nocell _ (PySem.mem_of_lookup hy))
    · have e := S.free _ (PySem.mem_of_lookup hy) rfl
      have e' : y = "__class__" := e
      exact ⟨cc, by subst e'; show List.lookup _ [_] = _; simp [List.lookup]⟩
  · have hi : i < vs.length := by
      unfold L2.start at h2
      by_cases hi : i < vs.length
      · exact hi
      · rw [List.getElem?_append_right (by simpa using hi)] at h2
        rw [List.getElem?_replicate] at h2
        split at h2 <;> cases h2
    have ha : vs[i]? = some v := by
      unfold L2.start at h2
      rw [List.getElem?_append_left (by simpa using hi), List.getElem?_map] at h2
      cases e : vs[i]? with
      | none => rw [e] at h2; cases h2
      | some a => rw [e] at h2; cases h2; rfl
    obtain ⟨u, hu, rv⟩ := r.get ha
    have hp : ps[i]? = some y := by
      rw [← S.pre, List.getElem?_take_of_lt (by omega)]; exact h1
    have ndP : ps.Nodup := by rw [← S.pre]; exact S.nd.sublist (List.take_sublist _ _)
    exact ⟨u, rv, .inl ⟨S.par y (List.mem_of_getElem? hp), zip_rev_look ndP hp hu⟩⟩
  · obtain ⟨_, rfl⟩ := look1 h
    exact ⟨_, _, hk _ _ (e0.bs _ _ hbc).1, rfl⟩
  · obtain ⟨_, rfl⟩ := look1 h
    exact (e0.bs _ _ hbc).2
  · unfold L2.start
    show _ = N.length
    rw [List.length_append, List.length_map, List.length_replicate]
    omega
end

/-! ### the judgements at the body's own activation -/
structure PSt (X : Cx) (body : List Stmt) (st : Stmt) (t : TS) : Prop where
  run : ∀ (pins : List (Addr × Obj)) (s : Shared) (σ : L2.St) (H : Hp) (D : Ends), Inv X pins σ H s → t D σ H → _root_.PySem.wpAt (model X.prog X.w) X.A (.func body X.env) (exec st X.env) (SP X pins D) X.xe s
structure PSst (X : Cx) (body : List Stmt) (st : List Stmt) (t : TS) : Prop where
  run : ∀ (pins : List (Addr × Obj)) (s : Shared) (σ : L2.St) (H : Hp) (D : Ends), Inv X pins σ H s → t D σ H → _root_.PySem.wpAt (model X.prog X.w) X.A (.func body X.env) (execs st X.env) (SP X pins D) X.xe s
structure PEt (X : Cx) (body : List Stmt) (e : Expr) (t : TE) : Prop where
  run : ∀ (pins : List (Addr × Obj)) (s : Shared) (σ : L2.St) (H : Hp) (Q : VK), Inv X pins σ H s → t σ H Q → _root_.PySem.wpAt (model X.prog X.w) X.A (.func body X.env) (eval e X.env) (EP X pins σ Q) X.xe s
section
variable {X : Cx} {body : List Stmt} {st : Stmt} {rest : List Stmt} {t u : TS} {e : Expr} {te : TE} {pos : Pos}
theorem PSt.of (h : PS X st t) : PSt X body st t := ⟨fun pins s σ H D I hw => wpAt_of_wpAny (h.run pins s σ H D I hw)⟩
theorem PSst.of (h : PSs X rest t) : PSst X body rest t := ⟨fun pins s σ H D I hw => wpAt_of_wpAny (h.run pins s σ H D I hw)⟩
theorem PEt.of (h : PE X e te) : PEt X body e te := ⟨fun pins s σ H Q I hw => wpAt_of_wpAny (h.run pins s σ H Q I hw)⟩
theorem PSst.cons (h1 : PSt X body st t) (h2 : PSst X body rest u) : PSst X body (st :: rest) (tSeq t u) := by
  refine ⟨fun pins s σ H D I h => ?_⟩
  refine ks_wpAt_execs_cons (ks_wpAt_mono (h1.run pins s σ H { D with nx := u D } I h) (fun f s1 q => ?_) fun _ _ z => z)
  cases f with
  | next =>
    obtain ⟨σ', H', I', q⟩ := q
    exact h2.run pins s1 σ' H' D I' q
  | ret v => exact q
  | brk => exact q
  | cont => exact q
theorem PSst.one (h1 : PSt X body st t) : PSst X body [st] t := by
  refine ⟨fun pins s σ H D I h => ?_⟩
  refine ks_wpAt_execs_cons (ks_wpAt_mono (h1.run pins s σ H D I h) (fun f s1 q => ?_) fun _ _ z => z)
  cases f with
  | next => exact wpAt_of_wpAny (wpAny_execs_nil q)
  | ret v => exact q
  | brk => exact q
  | cont => exact q
theorem pst_expr (he : PEt X body e te) (hs : swapsWith e none pos.line X.env = pure false := by rfl) : PSt X body (.Expr e pos) (tDrop te) := by
  refine ⟨fun pins s σ H D I h => ?_⟩
  exact ks_wpAt_Expr_any (ks_wpAt_mono (he.run pins s σ H _ I h) (fun v s1 ⟨x, H1, I1, r1, q1⟩ => ⟨σ, H1, I1, q1⟩) fun _ _ z => z) I.quiet hs
theorem pst_ret (he : PEt X body e te) : PSt X body (.Return (some e) pos) (tRet te) := by
  refine ⟨fun pins s σ H D I h => ?_⟩
  exact ks_wpAt_Return_some (ks_wpAt_mono (he.run pins s σ H _ I h) (fun v s1 ⟨x, H1, I1, r1, q1⟩ => ⟨x, σ, H1, I1, r1, q1⟩) fun _ _ z => z)
end

/-! ### THE RULE for a def with super() -/
section
variable {CX : CXT} {P : Program} {w : World} {K : PySem.W.Frag} {mg : Str → Option Value} {base : Heap} {k : Nat} {f cc D : Addr} {name qual : Str} {params : Arguments} {body : List Stmt} {scope : Scope} {dV kV doc pm cdv ct oc cl : Value} {an od cld : Option Addr}
    {osl csl : Array (Option Value)} {N ps : List Str} {sp : Sp}
theorem fn_sup (lk : K.lookup f = some ⟨oc, od, .func (PySem.W.ksFn name qual params body scope dV kV doc pm an cdv ct cc), osl⟩) (hcd : PySem.W.codeIn K cdv qual = true) (hcc : K.lookup cc = some ⟨cl, cld, .cell (some (.ref D)), csl⟩) (S : SScope N ps scope)
    (len : ∀ vs H Q E, sp vs H Q E → vs.length = ps.length)
    (hbody : ∀ (A : Around) (outer : List Env) (s : Shared) (H : Hp) (vs : List V) (Q : VK) (E : XK), Room k (A.deeper (PySem.W.ksEnv qual scope s.heap.objs.size f cdv cc)) → sp vs H Q E →
      ∃ t, PSst (cxS CX P w K mg base N qual scope f cdv cc A outer s H E) body body t ∧ t { nx := fun _ H' => Q .non H', rt := Q } (L2.start N vs) H) :
    FnOk P w K mg base CX (k + 1) f (PySem.W.ksFn name qual params body scope dV kV doc pm an cdv ct cc) ps sp := by
  refine ⟨len, fun A outer s H args us vs Q E hr e0 hb r hsp => ?_⟩
  have hl := len _ _ _ _ hsp
  have KX : K.In s.heap := e0.mod.kin.keeps fun b o e => (e0.bs b o e).1
  have lim : s.heap.NoLimit := e0.mod.nolimit.keeps fun b o e => (e0.bs b o e).1
  refine ks_codeAny_call_defAt (fd := PySem.W.ksFn name qual params body scope dV kV doc pm an cdv ct cc) (body := body) (binds := ps.zip us) hr.depth (KX _ _ lk) rfl lim (PySem.W.codeRec_of KX hcd) rfl hb S.nocell
    (fun x hx => S.par _ (List.of_mem_zip hx).1) (fun h₁ hns hk => ?_) S.co S.gen S.kind
  obtain ⟨t, ht, hq⟩ := hbody A outer s H vs Q E (hr.deeper _) hsp
  have I : Inv (cxS CX P w K mg base N qual scope f cdv cc A outer s H E) [] (L2.start N vs) H { s with heap := h₁, toks := s.toks + (ps.zip us).length } := inv_startS S hr.hd e0 hl r hcc hns hk
  refine ks_wpAt_mono (ht.run [] _ (L2.start N vs) H _ I hq) (fun fl s' hs => ?_) fun e s' hs => hs
  have fin : ∀ {σ' : L2.St} {H' : Hp} {v : V} {u : Value}, Inv (cxS CX P w K mg base N qual scope f cdv cc A outer s H E) [] σ' H' s' → RelV v u → Q v H' → CE outer P w H s Q u s' :=
    fun {σ' H' v u} J rv q => ⟨v, H', J.os, J.bare, J.base, J.hok, rv, q⟩
  cases fl with
  | ret u =>
    obtain ⟨v, σ', H', J, rv, q⟩ := hs
    exact fin J rv q
  | next =>
    obtain ⟨σ', H', J, q⟩ := hs
    exact fin (v := V.non) (u := Value.none) J rfl q
  | brk =>
    obtain ⟨_, _, _, q⟩ := hs
    exact False.elim q
  | cont =>
    obtain ⟨_, _, _, q⟩ := hs
    exact False.elim q
end
end Sw

set_option Elab.async false
set_option linter.all false
set_option maxRecDepth 100000
set_option maxHeartbeats 4000000
namespace Sw
open PySem PySem.Spec PyProof.Rows L2

/-! ### super() -/
/-- what the written part and the text must say around a super() in the def at f, a method of the class D, called with an instance of C -/
structure SupT (X : Cx) (f cda cc D : Addr) : Prop where
  fu : X.env.func = some f
  co : X.env.code = .ref cda
  fd : ∃ oc od fd osl ar, X.K.lookup f = some ⟨oc, od, .func fd, osl⟩ ∧ (fd.params.posonlyargs ++ fd.params.args).head? = some ar ∧ X.N[0]? = some ar.arg ∧ X.env.scope.names.lookup ar.arg = some .local
  cd : ∃ ccl cdd vs ccs file tf, X.K.lookup cda = some ⟨ccl, cdd, .fields vs, ccs⟩ ∧ vs[2]? = some (.str file tf) ∧ ((X.prog.main.file : Str) == file) = true
  ce : ∃ cl cld csl, X.K.lookup cc = some ⟨cl, cld, .cell (some (.ref D)), csl⟩
  cz : X.env.cells.lookup ("__class__" : Str) = some cc
  dc : ∃ cdD, PySem.W.clsIn X.K D = some cdD
  su : X.mg "super" = none
  ks : X.env.scope.names.lookup ("super" : Str) = some .globalImplicit
  kc : X.env.scope.names.lookup ("__class__" : Str) = some .free
  tp : (X.prog.main.scope.names.lookup ("super" : Str)).isSome = false

section
variable {X : Cx} {pins : List (Addr × Obj)} {σ : L2.St} {H : Hp} {s : Shared} {a C D f cda cc : Addr} {ox : Obj} {odx : Option Obj} {body : List Stmt} {E : Value → Shared → Prop}
theorem super_base {p0 p1 : Pos} {attr : Str} {whole : Sem Value} {Q : Value → Shared → Prop} (T : SupT X f cda cc D) (I : Inv X pins σ H s) (h0 : σ[0]? = some (some (.ref a))) (J : PySem.W.InstAt s.heap a ox C odx)
    (hsub : PySem.W.mroIn X.K C (.ref D) = some true) (hat : (attr == ("__class__" : Str)) = false)
    (h : ∀ s', Inv X ((s.heap.objs.size, PySem.W.ks_superObj D a C) :: pins) σ H s' → (∀ b o, s.heap.get? b = some o → s'.heap.get? b = some o) → Q (.ref s.heap.objs.size) s') :
    _root_.PySem.wpAt (model X.prog X.w) X.A (.func body X.env) (attributeBase (.Call (.Name "super" p0) [] [] p1) attr X.env whole) Q E s := by
  obtain ⟨oc, od, fd, osl, ar, hf, hp, hN0, hka⟩ := T.fd
  obtain ⟨ccl, cdd, vs, ccs, file, tf, hcode, hvs, hfile⟩ := T.cd
  obtain ⟨cl, cld, csl, hcell⟩ := T.ce
  obtain ⟨cdD, hD⟩ := T.dc
  have KX : X.K.In s.heap := I.kIn
  have I0 := I
  obtain ⟨m, hn, hl⟩ := I.loc
  obtain ⟨u, ru, lk⟩ := hl 0 _ _ hN0 h0 (.inl hka)
  obtain rfl : u = Value.ref a := ru
  have hm : m ar.arg = some (.ref a) := by
    rcases lk with ⟨_, e⟩ | ⟨k, _⟩
    · exact e
    · have k' : X.env.scope.names.lookup ar.arg = some .cell ∨ X.env.scope.names.lookup ar.arg = some .free := k
      rw [hka] at k'
      rcases k' with k' | k' <;> cases k'
  obtain ⟨hh, g, d, t, os⟩ := s
  obtain ⟨oD, hD1, hD2⟩ : ∃ oD, hh.get? D = some oD ∧ oD.data = .cls cdD := by
    unfold PySem.W.clsIn at hD
    split at hD
    · rename_i c d cd' sl ho
      cases hD
      exact ⟨_, KX _ _ ho, rfl⟩
    · cases hD
  obtain ⟨mb, hb1, hb2⟩ := I.mod.blt
  refine ks_wpAt_super_base (env := X.env) (cc := cda) T.ks T.kc hat T.fu (KX _ _ hf) rfl hp T.co (KX _ _ hcode) rfl hvs hfile T.tp ?_
  refine PySem.W.ks_loadName_global I.ok.kind T.ks (Calls.loadGlobal_builtin (by rw [I.ok.glob]; exact I.mod.glob.keeps I.bk) T.su (by rw [I.ok.blt]; exact hb1.keeps I.bk) ((hb2 "super" (by decide +kernel)).trans (by first | boot_by_name | rfl | kernel_rfl)) ⟨rfl, ?_⟩)
  refine wpAny_loadName_free I.ok.kind T.kc T.cz ⟨_, KX _ _ hcell, rfl⟩ ?_
  refine wpAny_loadName_local I.ok.kind hka hn hm ?_
  refine ks_wpAny_isType_cls hD1 hD2 ⟨rfl, ?_⟩
  refine ks_wpAny_call_super hD1 hD2 J.at_ J.cls (fun c e => ?_) (PySem.W.looks_mroIn KX hsub) (fun h' e k => ?_)
  · have := J.no
    unfold PySem.W.notCls at this
    rw [e] at this
    exact Bool.noConfusion this
  · exact h _ (ClX.pin_new I0 k (Nat.le_refl _) e (fun v z => nomatch z)) k

/-- the method found above D in the order of C -/
structure SupM (K : PySem.W.Frag) (C D : Addr) (m : Str) (g : Addr) : Prop where
  any : PySem.W.nsIn K PySem.cStatics "thirdparty.any" = some none
  at_ : PySem.W.ks_superIn K C D m = some (some (.ref g))
  ty : PySem.W.typeIn K (.ref g) = some (.type "function")
  fi : PySem.W.fnIn K g = true
  sub : PySem.W.mroIn K C (.ref D) = some true
  nc : (m == ("__class__" : Str)) = false

theorem super_meth {m : Str} {g so : Addr} {pl : Sem Bool} {A : Around} {Q : Value × List Value → Shared → Prop} (M : SupM X.K C D m g) (I : Inv X ((so, PySem.W.ks_superObj D a C) :: pins) σ H s) (J : PySem.W.InstAt s.heap a ox C odx)
    (h : ∀ s', Inv X ((s.heap.objs.size, PySem.W.methodObj (.ref g) (.ref a)) :: pins) σ H s' → Q (.ref s.heap.objs.size, []) s') : wpAny (model X.prog X.w) A (getMethod (.ref so) m pl) Q E s := by
  have KX : X.K.In s.heap := I.kIn
  have hso := ClX.pin_at I
  have hm := M.at_
  have I0 := I
  obtain ⟨hh, gg, d, t, os⟩ := s
  cases hc : PySem.W.clsIn X.K C with
  | none => unfold PySem.W.ks_superIn at hm; rw [hc] at hm; cases hm
  | some cd =>
    unfold PySem.W.ks_superIn at hm
    rw [hc] at hm
    obtain ⟨of, hof, hofc⟩ : ∃ of, hh.get? g = some of ∧ of.cls = .type "function" := by
      have ht' : (X.K.lookup g).map (·.cls) = some (.type "function") := M.ty
      cases z : X.K.lookup g with
      | none => rw [z] at ht'; cases ht'
      | some of => rw [z] at ht'; exact ⟨of, KX _ _ z, Option.some.inj ht'⟩
    refine ks_wpAny_getMethod_super hso (PySem.W.looks_opaque KX M.any) (l₀ := cd.mro) ?_ rfl KX hm hof hofc (PySem.W.ks_ne KX J hc) M.nc ?_
    · exact fun A Q E s k q => wpAny_bind ((PySem.W.looks_clsIn KX hc) A _ E s k (wpAny_pure q))
    · exact h _ (ClX.pin_new (ClX.unpin I0) (fun b o e => Heap.get?_push_of_some _ e) (Nat.le_refl _) (Heap.get?_push_size _ rfl) (fun v z => nomatch z))


end

/-! ### callees by their conventions: n positional values, keywords ks -/
abbrev SpC := List V → List V → Hp → VK → XK → Prop
def Cal (P : Program) (w : World) (K : PySem.W.Frag) (mg : Str → Option Value) (base : Heap) (k : Nat) (f : Addr) (n : Nat) (ks : List Str) (sp : SpC) : Prop :=
  ∀ (A : Around) (outer : List Env) (s : Shared) (H : Hp) (us ws : List Value) (vs zs : List V) (Q : VK) (E : XK), Room k A → Env0 P w K mg base A outer s H → Vals vs us → Vals zs ws → vs.length = n → zs.length = ks.length → sp vs zs H Q E →
    codeAny (model P w) A (.call (.ref f) ⟨us, ks.zip ws⟩) (CR (L2.CX P w) outer P w H s Q E) s
section
variable {P : Program} {w : World} {K : PySem.W.Frag} {mg : Str → Option Value} {base : Heap} {j k : Nat} {f : Addr} {fd : FuncData} {ps ks : List Str} {n : Nat} {sp : Sp} {spc spc' : SpC}
theorem ok_lift {sp : Sp} (F : FnOk P w K mg base CX0 k f fd ps sp) : FnOk P w K mg base (L2.CX P w) k f fd ps sp :=
  ⟨F.len, fun A outer s H args us vs Q E hr e0 hb r h => codeAny_mono (F.run A outer s H args us vs Q E hr e0 hb r h) fun r s' hq => by
    cases r with
    | error e => exact False.elim hq
    | ok fl => cases fl <;> exact hq⟩
theorem calK {g : List Value → List Value → List Value} {gV : List V → List V → List V} (F : FnOk P w K mg base (L2.CX P w) k f fd ps sp) (hb : KBn K fd ps n ks g gV) : Cal P w K mg base k f n ks (fun vs zs => sp (gV vs zs)) :=
  fun A outer s H us ws vs zs Q E hr e0 r rz l1 l2 h =>
    F.run A outer s H ⟨us, ks.zip ws⟩ (g us ws) (gV vs zs) Q E hr e0 (hb.to s us ws (e0.mod.kin.keeps fun b o e => (e0.bs b o e).1) (r.length.symm.trans l1) (rz.length.symm.trans l2)) (hb.rel r rz) h
/-- positional values, the defaults behind them -/
theorem calP {ds : List Value} {dvs : List V} (F : FnOk P w K mg base (L2.CX P w) k f fd ps sp) (hb : Binds K fd ps ds) (hd : Vals dvs ds) (hn : n + ds.length = ps.length) : Cal P w K mg base k f n [] (fun vs _ => sp (vs ++ dvs)) :=
  fun A outer s H us ws vs zs Q E hr e0 r rz l1 l2 h => by
    have e : (⟨us, ([] : List Str).zip ws⟩ : Args) = ⟨us, []⟩ := by rw [List.zip_nil_left]
    rw [e]
    exact F.run A outer s H ⟨us, []⟩ (us ++ ds) (vs ++ dvs) Q E hr e0 (hb s us (e0.mod.kin.keeps fun b o e => (e0.bs b o e).1) (by rw [List.length_append, ← r.length, l1, hn])) (r.append hd) h
theorem cal0 (F : FnOk P w K mg base (L2.CX P w) k f fd ps sp) (hb : Binds K fd ps []) (hn : n = ps.length) : Cal P w K mg base k f n [] (fun vs _ => sp vs) :=
  fun A outer s H us ws vs zs Q E hr e0 r rz l1 l2 h => by
    have e : (⟨us, ([] : List Str).zip ws⟩ : Args) = ⟨us, []⟩ := by rw [List.zip_nil_left]
    rw [e]
    have hl : (us ++ []).length = ps.length := by rw [List.append_nil, ← r.length, l1, hn]
    have hb' := hb s us (e0.mod.kin.keeps fun b o e => (e0.bs b o e).1) hl
    rw [List.append_nil] at hb'
    exact F.run A outer s H ⟨us, []⟩ us vs Q E hr e0 hb' r h
theorem Cal.mono (F : Cal P w K mg base j f n ks spc) (h : j ≤ k) : Cal P w K mg base k f n ks spc := fun A outer s H us ws vs zs Q E hr => F A outer s H us ws vs zs Q E (hr.mono h)
theorem Cal.imp (F : Cal P w K mg base k f n ks spc) (h : ∀ vs zs H Q E, spc' vs zs H Q E → spc vs zs H Q E) : Cal P w K mg base k f n ks spc' := fun A outer s H us ws vs zs Q E hr e0 r rz l1 l2 q => F A outer s H us ws vs zs Q E hr e0 r rz l1 l2 (h _ _ _ _ _ q)
/-- a global def by its name -/
structure GFn (P : Program) (w : World) (K : PySem.W.Frag) (mg : Str → Option Value) (base : Heap) (k : Nat) (x : Str) (n : Nat) (ks : List Str) (sp : SpC) : Prop where
  ex : ∃ f, mg x = some (.ref f) ∧ PySem.W.keepIn K (.ref f) = true ∧ Cal P w K mg base k f n ks sp
/-- a class by its name: C(..) with its __init__ -/
structure GMk (P : Program) (w : World) (K : PySem.W.Frag) (mg : Str → Option Value) (base : Heap) (k : Nat) (x : Str) (C : Addr) (n : Nat) (ks : List Str) (sp : SpC) : Prop where
  at_ : mg x = some (.ref C)
  ex : ∃ f, Mk K C f ∧ Cal P w K mg base k f (n + 1) ks sp
/-- a method of the class at C -/
structure GMt (P : Program) (w : World) (K : PySem.W.Frag) (mg : Str → Option Value) (base : Heap) (k : Nat) (C : Addr) (m : Str) (n : Nat) (ks : List Str) (sp : SpC) : Prop where
  cl : Cls K C
  ex : ∃ f, Meth K C m f ∧ Cal P w K mg base k f (n + 1) ks sp
/-- a property of the class at C -/
structure GPr (P : Program) (w : World) (K : PySem.W.Frag) (mg : Str → Option Value) (base : Heap) (k : Nat) (C : Addr) (m : Str) (sp : SpC) : Prop where
  cl : Cls K C
  ex : ∃ p g, PropOf K C m p g ∧ Cal P w K mg base k g 1 [] sp
end

section
variable {X : Cx} {k n : Nat} {f C : Addr} {ks : List Str} {sp : SpC} {W : WX} {x : Str}
theorem run_cal {pins : List (Addr × Obj)} {σ : L2.St} {H : Hp} {s : Shared} {Q : VK} {us ws : List Value} {vs zs : List V} (F : Cal X.prog X.w X.K X.mg X.base k f n ks sp) (hr : Room k X.A) (tw : Takes X W) (I : Inv X pins σ H s) (r : Vals vs us) (rz : Vals zs ws)
    (l1 : vs.length = n) (l2 : zs.length = ks.length) (h : sp vs zs H Q (WE W σ)) :
    codeAny (model X.prog X.w) X.A (.call (.ref f) ⟨us, ks.zip ws⟩) (fun r s' => match r with | .ok (.ret v) => EP X pins σ Q v s' | .ok _ => False | .error e => X.xe e s') s := by
  refine codeAny_mono (F X.A X.stack s H us ws vs zs Q (WE W σ) hr I.env0 r rz l1 l2 h) fun r s' hq => ?_
  cases r with
  | error e => exact passAt tw σ pins H s e s' I hq
  | ok fl =>
    cases fl with
    | ret u => exact I.after hq
    | next => exact False.elim hq
    | brk => exact False.elim hq
    | cont => exact False.elim hq
end

/-- f(e, .., k = v, ..) -/
def tCalG (n m : Nat) (sp : SpC) (W : WX) (t tk : TA) : TE := fun σ H Q => t σ H fun vs H1 => tk σ H1 fun zs H2 => vs.length = n ∧ zs.length = m ∧ sp vs zs H2 Q (WE W σ)
/-- C(e, .., k = v, ..) -/
def tMkG (C : Addr) (n m : Nat) (sp : SpC) (W : WX) (t tk : TA) : TE := fun σ H Q => t σ H fun vs H1 => tk σ H1 fun zs H2 => vs.length = n ∧ zs.length = m ∧ ∀ x dx, H2 x = none → H2 dx = none → dx ≠ x →
  sp (.ref x :: vs) zs (upd (upd H2 dx (.own x)) x (.ins C dx [])) (fun v H3 => v = .non ∧ Q (.ref x) H3) (WE W σ)
section
variable {X : Cx} {k n : Nat} {f C : Addr} {ks : List Str} {sp : SpC} {W : WX} {x m : Str} {p pos apos : Pos} {e o : Expr} {es : List Expr} {kws : List Keyword} {t tk : TA} {ta : TE}
theorem pe_callG (G : GFn X.prog X.w X.K X.mg X.base k x n ks sp) (hr : Room k X.A) (tw : Takes X W) (ha : PA X (e :: es) t) (hkw : PK X kws tk) (hg : Gl X x := by rfl)
    (hall : (backToKw pos (keywordEach kws X.env)).all (·.1.isSome) = true := by rfl) (hks : (backToKw pos (keywordEach kws X.env)).filterMap (·.1) = ks := by rfl) (hdb : (x == ("__debug__" : Str)) = false := by decide)
    (he : starEach (e :: es) X.env = (false, eval e X.env) :: starEach es X.env := by rfl)
    (hpl : ((backTo pos (starEach (e :: es) X.env)).any (·.1) || (backToKw pos (keywordEach kws X.env)).any (·.1.isNone)) = false := by rfl) :
    PE X (.Call (.Name x p) (e :: es) kws pos) (tCalG n ks.length sp W t tk) := by
  refine ⟨fun pins s σ H Q I h => ?_⟩
  obtain ⟨f, hm, hk, F⟩ := G.ex
  refine wpAny_Call_Name_kw (ld_glob I hg hm ?_ hdb)
  refine PySem.W.callWith_KW (h₀ := X.base) I.ok.mod.kin hk hall (thn (ha.run pos pins s σ H _ I h) fun us s1 ⟨vs, H1, I1, r, q⟩ => ?_) hpl he
  refine thn (hkw.run pos pins s1 σ H1 _ I1 q) fun ws s2 ⟨zs, H2, I2, rz, l1, l2, q2⟩ => ⟨I2.kIn, ?_⟩
  rw [hks]
  exact wpAny_call (run_cal F hr tw I2 r rz l1 l2 q2)
theorem pe_callG0 (G : GFn X.prog X.w X.K X.mg X.base k x n ks sp) (hr : Room k X.A) (tw : Takes X W) (hkw : PK X kws tk) (hg : Gl X x := by rfl)
    (hall : (backToKw pos (keywordEach kws X.env)).all (·.1.isSome) = true := by rfl) (hks : (backToKw pos (keywordEach kws X.env)).filterMap (·.1) = ks := by rfl) (hdb : (x == ("__debug__" : Str)) = false := by decide)
    (hpl : ((backTo pos (starEach [] X.env)).any (·.1) || (backToKw pos (keywordEach kws X.env)).any (·.1.isNone)) = false := by rfl) :
    PE X (.Call (.Name x p) [] kws pos) (tCalG n ks.length sp W tNil tk) := by
  refine ⟨fun pins s σ H Q I h => ?_⟩
  obtain ⟨f, hm, hk, F⟩ := G.ex
  refine wpAny_Call_Name_kw (ld_glob I hg hm ?_ hdb)
  refine PySem.W.callWith_KW0 (h₀ := X.base) I.ok.mod.kin hk hall ?_ hpl
  refine thn (hkw.run pos pins s σ H _ I h) fun ws s2 ⟨zs, H2, I2, rz, l1, l2, q2⟩ => ⟨I2.kIn, ?_⟩
  rw [hks]
  exact wpAny_call (run_cal (us := []) (vs := []) F hr tw I2 .nil rz l1 l2 q2)
theorem run_mk {pins : List (Addr × Obj)} {σ : L2.St} {H : Hp} {s : Shared} {Q : VK} {us ws : List Value} {vs zs : List V} (M : Mk X.K C f) (F : Cal X.prog X.w X.K X.mg X.base k f (n + 1) ks sp) (hr : Room (k + 1) X.A) (tw : Takes X W)
    (I : Inv X pins σ H s) (r : Vals vs us) (rz : Vals zs ws) (l1 : vs.length = n) (l2 : zs.length = ks.length)
    (h : ∀ x dx, H x = none → H dx = none → dx ≠ x → sp (.ref x :: vs) zs (upd (upd H dx (.own x)) x (.ins C dx [])) (fun v H2 => v = .non ∧ Q (.ref x) H2) (WE W σ)) :
    wpAny (model X.prog X.w) X.A (call (.ref C) us (ks.zip ws)) (EP X pins σ Q) X.xe s := by
  have hq := h (s.heap.objs.size + 1) s.heap.objs.size (I.hok.fresh (Nat.le_succ _)) (I.hok.fresh (Nat.le_refl _)) (Nat.ne_of_lt (Nat.lt_succ_self _))
  have I2 := Inv.made (C := C) I
  have r1 : Vals (V.ref (s.heap.objs.size + 1) :: vs) (Value.ref (s.heap.objs.size + 1) :: us) := .cons rfl r
  have n1 : (V.ref (s.heap.objs.size + 1) :: vs).length = n + 1 := by
    rw [List.length_cons, l1]
  refine wpAny_call (make_map (f := f) I.kIn M.makes M.init (beq_iff_eq.mp M.fn) (codeAny_mono (F _ X.stack _ _ (Value.ref (s.heap.objs.size + 1) :: us) ws _ _ _ (WE W σ) (hr.make C us (ks.zip ws))
    (I2.env0.make C us (ks.zip ws)) r1 rz n1 l2 hq) fun r s' hq' => ?_))
  cases r with
  | error e => exact passAt tw σ pins _ _ e s' I2 hq'
  | ok fl =>
    cases fl with
    | ret u =>
      obtain ⟨v, H', I3, rv, ev, q3⟩ := I2.after hq'
      subst ev
      exact ⟨rv, ⟨V.ref (s.heap.objs.size + 1), H', I3, rfl, q3⟩⟩
    | next => exact False.elim hq'
    | brk => exact False.elim hq'
    | cont => exact False.elim hq'
theorem pe_makeG (G : GMk X.prog X.w X.K X.mg X.base k x C n ks sp) (hr : Room (k + 1) X.A) (tw : Takes X W) (ha : PA X (e :: es) t) (hkw : PK X kws tk) (hg : Gl X x := by rfl)
    (hall : (backToKw pos (keywordEach kws X.env)).all (·.1.isSome) = true := by rfl) (hks : (backToKw pos (keywordEach kws X.env)).filterMap (·.1) = ks := by rfl) (hdb : (x == ("__debug__" : Str)) = false := by decide)
    (he : starEach (e :: es) X.env = (false, eval e X.env) :: starEach es X.env := by rfl) (hpl : ((backTo pos (starEach (e :: es) X.env)).any (·.1) || (backToKw pos (keywordEach kws X.env)).any (·.1.isNone)) = false := by rfl) :
    PE X (.Call (.Name x p) (e :: es) kws pos) (tMkG C n ks.length sp W t tk) := by
  refine ⟨fun pins s σ H Q I h => ?_⟩
  obtain ⟨f, M, F⟩ := G.ex
  refine wpAny_Call_Name_kw (ld_glob I hg G.at_ ?_ hdb)
  refine PySem.W.callWith_KW (h₀ := X.base) I.ok.mod.kin M.kp hall (thn (ha.run pos pins s σ H _ I h) fun us s1 ⟨vs, H1, I1, r, q⟩ => ?_) hpl he
  refine thn (hkw.run pos pins s1 σ H1 _ I1 q) fun ws s2 ⟨zs, H2, I2, rz, l1, l2, q2⟩ => ⟨I2.kIn, ?_⟩
  rw [hks]
  exact run_mk M F hr tw I2 r rz l1 l2 q2
theorem pe_makeG0 (G : GMk X.prog X.w X.K X.mg X.base k x C n ks sp) (hr : Room (k + 1) X.A) (tw : Takes X W) (hkw : PK X kws tk) (hg : Gl X x := by rfl)
    (hall : (backToKw pos (keywordEach kws X.env)).all (·.1.isSome) = true := by rfl) (hks : (backToKw pos (keywordEach kws X.env)).filterMap (·.1) = ks := by rfl) (hdb : (x == ("__debug__" : Str)) = false := by decide)
    (hpl : ((backTo pos (starEach [] X.env)).any (·.1) || (backToKw pos (keywordEach kws X.env)).any (·.1.isNone)) = false := by rfl) :
    PE X (.Call (.Name x p) [] kws pos) (tMkG C n ks.length sp W tNil tk) := by
  refine ⟨fun pins s σ H Q I h => ?_⟩
  obtain ⟨f, M, F⟩ := G.ex
  refine wpAny_Call_Name_kw (ld_glob I hg G.at_ ?_ hdb)
  refine PySem.W.callWith_KW0 (h₀ := X.base) I.ok.mod.kin M.kp hall ?_ hpl
  refine thn (hkw.run pos pins s σ H _ I h) fun ws s2 ⟨zs, H2, I2, rz, l1, l2, q2⟩ => ⟨I2.kIn, ?_⟩
  rw [hks]
  exact run_mk (us := []) (vs := []) M F hr tw I2 .nil rz l1 l2 q2
/-- o.m(e, .., k = v, ..), whatever class o is of -/
def tMtG (P : Program) (w : World) (K : PySem.W.Frag) (mg : Str → Option Value) (base : Heap) (k : Nat) (m : Str) (n : Nat) (ks : List Str) (W : WX) (ta : TE) (t tk : TA) : TE := fun σ H Q => ta σ H fun x H1 => ∃ a C dx fs sp, x = .ref a ∧ H1 a = some (.ins C dx fs) ∧ fs.lookup m = none ∧
  GMt P w K mg base k C m n ks sp ∧ t σ H1 fun vs H2 => tk σ H2 fun zs H3 => vs.length = n ∧ zs.length = ks.length ∧ sp (.ref a :: vs) zs H3 Q (WE W σ)
theorem pe_methG {pl : Sem Bool} (he : PE X o ta) (hr : Room k X.A) (tw : Takes X W) (ha : PA X (e :: es) t) (hkw : PK X kws tk)
    (hall : (backToKw pos (keywordEach kws X.env)).all (·.1.isSome) = true := by rfl) (hks : (backToKw pos (keywordEach kws X.env)).filterMap (·.1) = ks := by rfl)
    (hst : starEach (e :: es) X.env = (false, eval e X.env) :: starEach es X.env := by rfl) (hpl : ((backTo pos (starEach (e :: es) X.env)).any (·.1) || (backToKw pos (keywordEach kws X.env)).any (·.1.isNone)) = false := by rfl)
    (ht : eval (.Call (.Attribute o m apos) (e :: es) kws pos) X.env = (do
      let ov ← eval o X.env
      standAt apos.atName
      let (f, first) ← holding [ov] (getMethod ov m pl)
      callWith pos f first (backTo pos (starEach (e :: es) X.env)) (backToKw pos (keywordEach kws X.env))) := by rfl) :
    PE X (.Call (.Attribute o m apos) (e :: es) kws pos) (tMtG X.prog X.w X.K X.mg X.base k m n ks W ta t tk) := by
  refine ⟨fun pins s σ H Q I h => ?_⟩
  refine PySem.W.methodCall_KW (pl := pl) (thn (he.run pins s σ H _ I h) fun u s1 ⟨x, H1, I1, rx, a, C, dx, fs, sp, ex, ea, l, G, q⟩ => ?_) ht
  subst ex
  obtain rfl : u = Value.ref a := rx
  obtain ⟨f, M, F⟩ := G.ex
  refine getmeth_ok I1 ea G.cl M l ?_
  refine PySem.W.callWith_KW (h₀ := X.base) I.ok.mod.kin M.kp hall (thn (ha.run pos pins s1 σ H1 _ I1 q) fun us s2 ⟨vs, H2, I2, r, q⟩ => ?_) hpl hst
  refine thn (hkw.run pos pins s2 σ H2 _ I2 q) fun ws s3 ⟨zs, H3, I3, rz, l1, l2, q3⟩ => ⟨I3.kIn, ?_⟩
  rw [hks]
  exact wpAny_call (run_cal (us := .ref a :: us) (vs := .ref a :: vs) F hr tw I3 (.cons rfl r) rz (by rw [List.length_cons, l1]) l2 q3)
theorem pe_methG0 {pl : Sem Bool} (he : PE X o ta) (hr : Room k X.A) (tw : Takes X W) (hkw : PK X kws tk)
    (hall : (backToKw pos (keywordEach kws X.env)).all (·.1.isSome) = true := by rfl) (hks : (backToKw pos (keywordEach kws X.env)).filterMap (·.1) = ks := by rfl)
    (hpl : ((backTo pos (starEach [] X.env)).any (·.1) || (backToKw pos (keywordEach kws X.env)).any (·.1.isNone)) = false := by rfl)
    (ht : eval (.Call (.Attribute o m apos) [] kws pos) X.env = (do
      let ov ← eval o X.env
      standAt apos.atName
      let (f, first) ← holding [ov] (getMethod ov m pl)
      callWith pos f first (backTo pos (starEach [] X.env)) (backToKw pos (keywordEach kws X.env))) := by rfl) :
    PE X (.Call (.Attribute o m apos) [] kws pos) (tMtG X.prog X.w X.K X.mg X.base k m n ks W ta tNil tk) := by
  refine ⟨fun pins s σ H Q I h => ?_⟩
  refine PySem.W.methodCall_KW (pl := pl) (thn (he.run pins s σ H _ I h) fun u s1 ⟨x, H1, I1, rx, a, C, dx, fs, sp, ex, ea, l, G, q⟩ => ?_) ht
  subst ex
  obtain rfl : u = Value.ref a := rx
  obtain ⟨f, M, F⟩ := G.ex
  refine getmeth_ok I1 ea G.cl M l ?_
  refine PySem.W.callWith_KW0 (h₀ := X.base) I.ok.mod.kin M.kp hall ?_ hpl
  refine thn (hkw.run pos pins s1 σ H1 _ I1 q) fun ws s3 ⟨zs, H3, I3, rz, l1, l2, q3⟩ => ⟨I3.kIn, ?_⟩
  rw [hks]
  exact wpAny_call (run_cal (us := [.ref a]) (vs := [.ref a]) F hr tw I3 (.cons rfl .nil) rz (by rw [← l1]; rfl) l2 q3)
/-- o.f, a property, whatever class o is of -/
def tPrG (P : Program) (w : World) (K : PySem.W.Frag) (mg : Str → Option Value) (base : Heap) (k : Nat) (m : Str) (ta : TE) : TE := fun σ H Q => ta σ H fun x H1 => ∃ a C dx fs sp, x = .ref a ∧ H1 a = some (.ins C dx fs) ∧
  GPr P w K mg base k C m sp ∧ sp [.ref a] [] H1 Q E0
theorem pe_propG (he : PE X o ta) (hr : Room (k + 1) X.A)
    (hab : attributeBase o m X.env (eval o X.env) = eval o X.env := by rfl) : PE X (.Attribute o m pos) (tPrG X.prog X.w X.K X.mg X.base k m ta) := by
  refine ⟨fun pins s σ H Q I h => ?_⟩
  refine attr_of hab (thn (he.run pins s σ H _ I h) fun u s1 ⟨x, H1, I1, rx, a, C, dx, fs, sp, ex, ea, G, q⟩ => ?_)
  subst ex
  obtain rfl : u = Value.ref a := rx
  obtain ⟨p, g, hp, F⟩ := G.ex
  obtain ⟨mA, O, _, _, _, _⟩ := ins_get I1.hok ea
  obtain ⟨od, J, _⟩ := O.look
  obtain ⟨rest, hrec⟩ := hp.rec_
  have I2 := I1.tok (s1.toks + 1)
  have hc : (PySem.W.clsIn X.K C).isSome = true := by
    obtain ⟨cd, hc, _⟩ := PySem.W.any_some G.cl.hd
    rw [hc]
    rfl
  refine PySem.W.get_bind I1.kIn J (PySem.W.plainGet_of (G.cl.get m)).1 (PySem.W.findObj_data hc hp.at_ hp.get hp.tak) (PySem.W.plainGet_of (G.cl.get m)).2 (wpAny_call (PySem.W.prop_get (s := { s1 with toks := s1.toks + 1 }) I1.kIn hrec ?_))
  refine codeAny_mono (F X.A.in1 X.stack { s1 with toks := s1.toks + 1 } H1 [.ref a] [] [.ref a] [] Q E0 hr.in1 I2.env0.in1 (.cons rfl .nil) .nil rfl rfl q) fun r s' hq => ?_
  cases r with
  | error er => exact False.elim (passL (X := X.nox) pins σ H1 { s1 with toks := s1.toks + 1 } er s' (I2.wish _) hq)
  | ok fl =>
    cases fl with
    | ret u =>
      obtain ⟨v, H', I3, rv, q3⟩ := I2.after hq
      show wpAny _ _ (handedOut u) _ _ _
      rw [PySem.W.handedOut_of (handed_of rv)]
      exact wpAny_pure ⟨v, H', I3, rv, q3⟩
    | next => exact False.elim hq
    | brk => exact False.elim hq
    | cont => exact False.elim hq
end
end Sw

set_option Elab.async false
set_option linter.all false
set_option maxRecDepth 100000
set_option maxHeartbeats 4000000
namespace Sw
open PySem PySem.Spec PyProof.Rows L2

theorem run_sup {X : Cx} {pins : List (Addr × Obj)} {σ : L2.St} {H : Hp} {s : Shared} {a : Addr} {k n : Nat} {g q : Addr} {ks : List Str} {sp : SpC} {W : WX} {Q : VK} {us ws : List Value} {vs zs : List V} (F : Cal X.prog X.w X.K X.mg X.base k g (n + 1) ks sp) (hr : Room k X.A) (tw : Takes X W)
    (I : Inv X ((q, PySem.W.methodObj (.ref g) (.ref a)) :: pins) σ H s) (r : Vals vs us) (rz : Vals zs ws) (l1 : vs.length = n) (l2 : zs.length = ks.length) (h : sp (.ref a :: vs) zs H Q (WE W σ)) : wpAny (model X.prog X.w) X.A (call (.ref q) us (ks.zip ws)) (EP X pins σ Q) X.xe s := by
  have hrun := run_cal (us := .ref a :: us) (vs := .ref a :: vs) F hr tw I (.cons rfl r) rz (by rw [List.length_cons, l1]) l2 h
  have z : wpAny (model X.prog X.w) X.A (call (.ref q) us (ks.zip ws)) (EP X ((q, PySem.W.methodObj (.ref g) (.ref a)) :: pins) σ Q) X.xe s :=
    wpAny_call (PySem.W.method_call (ClX.pin_at I) hrun)
  exact thn z fun _ _ y => ClX.unpinE y

/-- a method call on super(), with keywords too -/
theorem wpAt_superCall {M : Model} {A : Around} {c : Code} {env : Env} {o : Expr} {name : Str} {apos pos : Pos} {args : List Expr} {kws : List Keyword} {pl : Sem Bool} {E : Value → Shared → Prop} {s : Shared} {Q : Value → Shared → Prop}
    (h : _root_.PySem.wpAt M A c (attributeBase o name env (eval o env)) (fun ov s₁ => wpAny M A (getMethod ov name pl) (fun fx s₂ => wpAny M A (callWith pos fx.1 fx.2 (backTo pos (starEach args env)) (backToKw pos (keywordEach kws env))) Q E s₂) E s₁) E s)
    (he : eval (.Call (.Attribute o name apos) args kws pos) env = (do
      let ov ← attributeBase o name env (eval o env)
      standAt apos.atName
      let (f, first) ← holding [ov] (getMethod ov name pl)
      callWith pos f first (backTo pos (starEach args env)) (backToKw pos (keywordEach kws env)))) :
    _root_.PySem.wpAt M A c (eval (.Call (.Attribute o name apos) args kws pos) env) Q E s := by
  rw [he]
  refine PySem.wpAt_bind (ks_wpAt_mono h (fun ov s₁ h₁ => wpAt_of_wpAny (wpAny_bind (wpAny_standAt (wpAny_bind (wpAny_holding (wpAny_mono h₁ (fun fx s₂ h₂ => ?_) fun _ _ x => x)))))) fun _ _ x => x)
  exact h₂

/-- super().m(e, .., k = v, ..) in a method of D called with an instance of C: the def found above D -/
def tSup (C : Addr) (n : Nat) (ks : List Str) (sp : SpC) (W : WX) (t tk : TA) : TE := fun σ H Q => ∃ a dx fs, σ[0]? = some (some (.ref a)) ∧ H a = some (.ins C dx fs) ∧
  t σ H fun vs H1 => tk σ H1 fun zs H2 => vs.length = n ∧ zs.length = ks.length ∧ sp (.ref a :: vs) zs H2 Q (WE W σ)
section
variable {X : Cx} {k n : Nat} {f g C D cda cc : Addr} {ks : List Str} {sp : SpC} {W : WX} {m : Str} {p0 p1 pos apos : Pos} {e : Expr} {es : List Expr} {kws : List Keyword} {t tk : TA} {body : List Stmt} {pl : Sem Bool}
theorem pet_sup (T : SupT X f cda cc D) (M : SupM X.K C D m g) (F : Cal X.prog X.w X.K X.mg X.base k g (n + 1) ks sp) (hr : Room k X.A) (tw : Takes X W) (ha : PA X (e :: es) t) (hkw : PK X kws tk)
    (hall : (backToKw pos (keywordEach kws X.env)).all (·.1.isSome) = true := by rfl) (hks : (backToKw pos (keywordEach kws X.env)).filterMap (·.1) = ks := by rfl)
    (hst : starEach (e :: es) X.env = (false, eval e X.env) :: starEach es X.env := by rfl) (hpl : ((backTo pos (starEach (e :: es) X.env)).any (·.1) || (backToKw pos (keywordEach kws X.env)).any (·.1.isNone)) = false := by rfl)
    (ht : eval (.Call (.Attribute (.Call (.Name "super" p0) [] [] p1) m apos) (e :: es) kws pos) X.env = (do
      let ov ← attributeBase (.Call (.Name "super" p0) [] [] p1) m X.env (eval (.Call (.Name "super" p0) [] [] p1) X.env)
      standAt apos.atName
      let (f, first) ← holding [ov] (getMethod ov m pl)
      callWith pos f first (backTo pos (starEach (e :: es) X.env)) (backToKw pos (keywordEach kws X.env))) := by rfl) :
    PEt X body (.Call (.Attribute (.Call (.Name "super" p0) [] [] p1) m apos) (e :: es) kws pos) (tSup C n ks sp W t tk) := by
  refine ⟨fun pins s σ H Q I h => ?_⟩
  obtain ⟨a, dx, fs, h0, ea, q⟩ := h
  obtain ⟨mA, O, _, _, _, _⟩ := ins_get I.hok ea
  obtain ⟨od, J, _⟩ := O.look
  refine wpAt_superCall (pl := pl) (super_base T I h0 J M.sub M.nc fun s1 I1 k1 => ?_) ht
  obtain ⟨mA1, O1, _, _, _, _⟩ := ins_get I1.hok ea
  obtain ⟨od1, J1, _⟩ := O1.look
  refine super_meth M I1 J1 fun s2 I2 => ?_
  have hq := ClX.pin_at I2
  have hb : X.base.get? s1.heap.objs.size = none := ClX.base_none I1 (Nat.le_refl _)
  refine PySem.W.callWith_of hpl (P := PySem.W.MethP X.K s1.heap.objs.size g (.ref a)) (PySem.W.keeps_M M.fi) (PyProof.Rows.evalArgs_kw2 hall (thn (ha.run pos _ s2 σ H _ I2 q) fun us s3 ⟨vs, H1, I3, r, q⟩ => ?_) hst)
  refine thn (hkw.run pos _ s3 σ H1 _ I3 q) fun ws s4 ⟨zs, H2, I4, rz, l1, l2, q4⟩ => ⟨⟨ClX.pin_at I4, I4.kIn⟩, ?_⟩
  rw [hks]
  exact run_sup F hr tw I4 r rz l1 l2 q4
theorem pet_sup0 (T : SupT X f cda cc D) (M : SupM X.K C D m g) (F : Cal X.prog X.w X.K X.mg X.base k g (n + 1) ks sp) (hr : Room k X.A) (tw : Takes X W) (hkw : PK X kws tk)
    (hall : (backToKw pos (keywordEach kws X.env)).all (·.1.isSome) = true := by rfl) (hks : (backToKw pos (keywordEach kws X.env)).filterMap (·.1) = ks := by rfl)
    (hpl : ((backTo pos (starEach [] X.env)).any (·.1) || (backToKw pos (keywordEach kws X.env)).any (·.1.isNone)) = false := by rfl)
    (ht : eval (.Call (.Attribute (.Call (.Name "super" p0) [] [] p1) m apos) [] kws pos) X.env = (do
      let ov ← attributeBase (.Call (.Name "super" p0) [] [] p1) m X.env (eval (.Call (.Name "super" p0) [] [] p1) X.env)
      standAt apos.atName
      let (f, first) ← holding [ov] (getMethod ov m pl)
      callWith pos f first (backTo pos (starEach [] X.env)) (backToKw pos (keywordEach kws X.env))) := by rfl) :
    PEt X body (.Call (.Attribute (.Call (.Name "super" p0) [] [] p1) m apos) [] kws pos) (tSup C n ks sp W tNil tk) := by
  refine ⟨fun pins s σ H Q I h => ?_⟩
  obtain ⟨a, dx, fs, h0, ea, q⟩ := h
  obtain ⟨mA, O, _, _, _, _⟩ := ins_get I.hok ea
  obtain ⟨od, J, _⟩ := O.look
  refine wpAt_superCall (pl := pl) (super_base T I h0 J M.sub M.nc fun s1 I1 k1 => ?_) ht
  obtain ⟨mA1, O1, _, _, _, _⟩ := ins_get I1.hok ea
  obtain ⟨od1, J1, _⟩ := O1.look
  refine super_meth M I1 J1 fun s2 I2 => ?_
  refine PySem.W.callWith_of hpl (P := PySem.W.MethP X.K s1.heap.objs.size g (.ref a)) (PySem.W.keeps_M M.fi) (PyProof.Rows.evalArgs_kw2_nil hall ?_)
  refine thn (hkw.run pos _ s2 σ H _ I2 q) fun ws s4 ⟨zs, H2, I4, rz, l1, l2, q4⟩ => ⟨⟨ClX.pin_at I4, I4.kIn⟩, ?_⟩
  rw [hks]
  exact run_sup (us := []) (vs := []) F hr tw I4 .nil rz l1 l2 q4
end

/-! ### an own exception's __init__: super().__init__(text), then the fields -/
/-- what the written part says of the class C (over ValueError by own classes), above D its __init__ is ValueError's -/
structure SupE (K : PySem.W.Frag) (C D : Addr) : Prop where
  ox : OexC K C
  any : PySem.W.nsIn K PySem.cStatics "thirdparty.any" = some none
  at_ : PySem.W.ks_superIn K C D "__init__" = some (some (.builtin "ValueError.__init__"))
  sub : PySem.W.mroIn K C (.ref D) = some true
  ve : PySem.W.subIn K (.ref C) (.type "ValueError") = some true
/-- super().__init__(e, ..): nothing of it is told -/
def tSupE (C : Addr) (t : TA) : TE := fun σ H Q => ∃ a, σ[0]? = some (some (.ref a)) ∧ H a = some (exo a C none) ∧ t σ H fun vs H1 => vs.length ≤ 1000 ∧ H1 a = some (exo a C none) ∧ Q .non H1
section
variable {X : Cx} {f C D cda cc : Addr} {p0 p1 pos apos : Pos} {e : Expr} {es : List Expr} {t : TA} {body : List Stmt} {pl : Sem Bool}
theorem call_mw {pins : List (Addr × Obj)} {σ : L2.St} {H : Hp} {s : Shared} {a u : Addr} {rest : List Value} {Q : Value → Shared → Prop} {A : Around} {E : Value → Shared → Prop} (T : OexC X.K C) (I : Inv X ((u, PySem.W.kxs_mw "ValueError.__init__" a) :: pins) σ H s) (e : H a = some (exo a C none)) (hl : rest.length ≤ sizeLine)
    (h : ∀ s', Inv X pins σ H s' → Q .none s') : wpAny (model X.prog X.w) A (call (.ref u) rest) Q E s := by
  obtain ⟨nm, q, N, bs, bm, sn, sub, ab, col, dd, k0, k1, k2, k3, k5, hC, hbm⟩ := T.cls
  have hu := ClX.pin_at I
  have KX := I.kIn
  obtain ⟨t1, ho⟩ := exo_at I.hok e
  have I0 := ClX.unpin I
  obtain ⟨hp, g, d, tk, os⟩ := s
  refine wpAny_call (codeAny_of_tree ?_)
  show wpAny _ A.in1 (callAny (.ref u) ⟨rest, []⟩) _ _ _
  simp only [callAny]
  refine wpAny_bind (wpAny_load hu ?_)
  simp only [PySem.W.kxs_mw, show (Value.type "method-wrapper" == Value.type "method" || Value.type "method-wrapper" == Value.type "builtin_function_or_method" || Value.type "method-wrapper" == Value.type "method-wrapper") = true by decide, if_true]
  refine PySem.W.KFB.if_so (by decide) ?_
  refine wpAny_bind (PySem.W.check_bound_init F.excBase_ValueError.toExcCallFacts (KX _ _ hC) ho rfl ?_)
  refine wpAny_bind (wpAny_pure (wpAny_pure ?_))
  refine ⟨PySem.plainId_quiet F.excBase_ValueError.init.plain _, codeAny_builtin F.excBase_ValueError.initEntry ?_⟩
  refine PySem.W.exc_init_tree (cls := .ref C) (t0 := t1) (dv := none) (c2 := .none) (c3 := .none) (b4 := .bool false) ho hl fun h' k hx _ => ?_
  have J := I0.write (t' := tk) (x := a) (e := a) (o := exo a C none) (by rw [e]; exact True.intro) (.inl rfl) k ⟨_, hx⟩ (exo_ok hx)
  have eu : upd H a (exo a C none) = H := by
    funext b
    by_cases hb : b = a
    · rw [hb, upd_same, e]
    · rw [upd_ne hb]
  rw [eu] at J
  exact h _ J
theorem pet_supE (T : SupT X f cda cc D) (M : SupE X.K C D) (ha : PA X (e :: es) t)
    (hst : starEach (e :: es) X.env = (false, eval e X.env) :: starEach es X.env := by rfl) (hpl : (backTo pos (starEach es X.env)).any (·.1) = false := by rfl)
    (ht : eval (.Call (.Attribute (.Call (.Name "super" p0) [] [] p1) "__init__" apos) (e :: es) [] pos) X.env = (do
      let ov ← attributeBase (.Call (.Name "super" p0) [] [] p1) "__init__" X.env (eval (.Call (.Name "super" p0) [] [] p1) X.env)
      standAt apos.atName
      let (f, first) ← holding [ov] (getMethod ov "__init__" pl)
      callWith pos f first (backTo pos (starEach (e :: es) X.env)) (backToKw pos (keywordEach [] X.env))) := by rfl) :
    PEt X body (.Call (.Attribute (.Call (.Name "super" p0) [] [] p1) "__init__" apos) (e :: es) [] pos) (tSupE C t) := by
  refine ⟨fun pins s σ H Q I h => ?_⟩
  obtain ⟨a, h0, ea, q⟩ := h
  have mk : ∀ {s : Shared} {pins : List (Addr × Obj)} {H : Hp}, Inv X pins σ H s → H a = some (exo a C none) → ∃ ox, PySem.W.InstAt s.heap a ox C none := fun I ea => by
    obtain ⟨t1, ho⟩ := exo_at I.hok ea
    exact ⟨_, ho, rfl, rfl, trivial⟩
  obtain ⟨ox, J⟩ := mk I ea
  refine wpAt_superCall (pl := pl) (super_base T I h0 J M.sub (by decide +kernel) fun s1 I1 k1 => ?_) ht
  obtain ⟨ox1, J1⟩ := mk I1 ea
  have KX : X.K.In s1.heap := I1.kIn
  have hso := ClX.pin_at I1
  have hm := M.at_
  have hI : PySem.W.Looks (model X.prog X.w) s1.heap (isInstance (.ref a) (.type "ValueError")) true := J1.type.andThen (PySem.W.looks_subIn KX M.ve)
  obtain ⟨hh, gg, d, tt, os⟩ := s1
  cases hc : PySem.W.clsIn X.K C with
  | none => unfold PySem.W.ks_superIn at hm; rw [hc] at hm; cases hm
  | some cd =>
    unfold PySem.W.ks_superIn at hm
    rw [hc] at hm
    refine PySem.W.kxs_getMethod PySem.W.kxs_ValueError hso (PySem.W.looks_opaque KX M.any) (l₀ := cd.mro) ?_ rfl KX hm hI (PySem.W.ks_ne KX J1 hc) (by decide +kernel) ?_
    · exact fun A Q E s k q => wpAny_bind ((PySem.W.looks_clsIn KX hc) A _ E s k (wpAny_pure q))
    · have I2 : Inv X ((hh.objs.size, PySem.W.kxs_mw "ValueError.__init__" a) :: pins) σ H ⟨hh.push (PySem.W.kxs_mw "ValueError.__init__" a), gg, d, tt + 1, os⟩ :=
        ClX.pin_new (s := ⟨hh, gg, d, tt, os⟩) (t' := tt + 1) (ClX.unpin I1) (fun b o e => Heap.get?_push_of_some _ e) (Nat.le_refl _) (Heap.get?_push_size hh rfl) (fun v z => nomatch z)
      show wpAny _ _ (callWith pos (.ref hh.objs.size) [] (backTo pos (starEach (e :: es) X.env)) []) _ _ _
      rw [hst]
      refine PySem.W.kxs_callWith (i := "ValueError.__init__") (u := hh.objs.size) (x := a) (first := []) (by show (false || (backTo pos (starEach es X.env)).any (·.1)) = false; rw [hpl]; rfl) ?_
      have hrun := thn (ha.run pos _ _ σ H _ I2 q) (Q' := fun us s3 => PySem.W.KxsAt "ValueError.__init__" hh.objs.size a s3.heap ∧ wpAny (model X.prog X.w) X.A (call (.ref hh.objs.size) us) (EP X pins σ Q) X.xe s3) fun us s3 ⟨vs, H1, I3, r, hl, e3, q3⟩ =>
        ⟨ClX.pin_at I3, call_mw M.ox I3 e3 (by rw [← r.length, sizeLine_eq]; omega) fun s4 I4 => ⟨.non, H1, I4, rfl, q3⟩⟩
      rw [hst] at hrun
      exact PySem.Calls.evalArgs_plain hrun
end
end Sw

set_option Elab.async false
set_option linter.all false
set_option maxRecDepth 100000
set_option maxHeartbeats 4000000
namespace Sw
open PySem PySem.Spec PyProof.Rows L2

/-! ### a def with super() as it stands behind the top -/
structure FunS (P : Program) (K : PySem.W.Frag) (x qual : Str) (st : Stmt) (f cc D cda : Addr) (fd : FuncData) : Prop where
  ex : ∃ (oc : Value) (od : Option Addr) (dV kV doc pm : Value) (an : Option Addr) (ct : Value) (osl : Array (Option Value)), fd = PySem.W.ksFn x qual (defArgs st) (defBody st) (defScope st) dV kV doc pm an (.ref cda) ct cc ∧ K.lookup f = some ⟨oc, od, .func fd, osl⟩
  cd : PySem.W.codeIn K (.ref cda) qual = true
  co : ∃ ccl cdd vs ccs file tf, K.lookup cda = some ⟨ccl, cdd, .fields vs, ccs⟩ ∧ vs[2]? = some (.str file tf) ∧ ((P.main.file : Str) == file) = true
  ce : ∃ cl cld csl, K.lookup cc = some ⟨cl, cld, .cell (some (.ref D)), csl⟩
  dc : ∃ cdD, PySem.W.clsIn K D = some cdD
  kp : PySem.W.keepIn K (.ref f) = true
/-- what the text and the top say of super -/
structure SupTop (P : Program) (mg : Str → Option Value) : Prop where
  su : mg "super" = none
  tp : (P.main.scope.names.lookup ("super" : Str)).isSome = false

section
variable {P : Program} {w : World} {K : PySem.W.Frag} {mg : Str → Option Value} {base : Heap}
theorem FunS.ok {x qual : Str} {st : Stmt} {f cc D cda : Addr} {fd : FuncData} {N ps : List Str} {k : Nat} {sp : Sp} (F : FunS P K x qual st f cc D cda fd) (S : SScope N ps (defScope st)) (U : SupTop P mg)
    (ks : (defScope st).names.lookup ("super" : Str) = some .globalImplicit) (kc : (defScope st).names.lookup ("__class__" : Str) = some .free)
    (hp : ∃ ar, ((defArgs st).posonlyargs ++ (defArgs st).args).head? = some ar ∧ N[0]? = some ar.arg ∧ (defScope st).names.lookup ar.arg = some .local)
    (len : ∀ vs H Q E, sp vs H Q E → vs.length = ps.length)
    (hbody : ∀ (A : Around) (outer : List Env) (s : Shared) (H : Hp) (vs : List V) (Q : VK) (E : XK), Room k (A.deeper (PySem.W.ksEnv qual (defScope st) s.heap.objs.size f (.ref cda) cc)) →
      SupT (cxS (L2.CX P w) P w K mg base N qual (defScope st) f (.ref cda) cc A outer s H E) f cda cc D → Takes (cxS (L2.CX P w) P w K mg base N qual (defScope st) f (.ref cda) cc A outer s H E) (fun cls d _ H => E cls d H) → sp vs H Q E →
      ∃ t, PSst (cxS (L2.CX P w) P w K mg base N qual (defScope st) f (.ref cda) cc A outer s H E) (defBody st) (defBody st) t ∧ t { nx := fun _ H' => Q .non H', rt := Q } (L2.start N vs) H) : FnOk P w K mg base (L2.CX P w) (k + 1) f fd ps sp := by
  obtain ⟨oc, od, dV, kV, doc, pm, an, ct, osl, rfl, lk⟩ := F.ex
  obtain ⟨cl, cld, csl, hcc⟩ := F.ce
  obtain ⟨ar, h1, h2, h3⟩ := hp
  exact fn_sup lk F.cd hcc S len fun A outer s H vs Q E hr hsp => hbody A outer s H vs Q E hr
    ⟨rfl, rfl, ⟨oc, od, _, osl, ar, lk, h1, h2, h3⟩, F.co, F.ce, by show List.lookup ("__class__" : Str) [(("__class__" : Str), cc)] = _; simp [List.lookup], F.dc, U.su, ks, kc, U.tp⟩ (takes_of rfl rfl rfl rfl) hsp
/-- a plain def: its takes and its frame's handing on at hand -/
theorem okT {x qual : Str} {st : Stmt} {f : Addr} {fd : FuncData} {N ps : List Str} {k : Nat} {sp : Sp} (F : Fun K x qual st f fd) (S : FnScope N ps (defScope st)) (len : ∀ vs H Q E, sp vs H Q E → vs.length = ps.length)
    (hbody : ∀ (cdv : Value) (A : Around) (outer : List Env) (s : Shared) (H : Hp) (vs : List V) (Q : VK) (E : XK), Room k (A.deeper (envOfC qual (defScope st) s.heap.objs.size f cdv)) →
      Takes (cxOf (L2.CX P w) P w K mg base N qual (defScope st) f cdv A outer s H E) (fun cls d _ H => E cls d H) →
      PassesOwn (model P w) (A.deeper (envOfC qual (defScope st) s.heap.objs.size f cdv)) (envOfC qual (defScope st) s.heap.objs.size f cdv) (cxOf (L2.CX P w) P w K mg base N qual (defScope st) f cdv A outer s H E).xe → sp vs H Q E →
      ∃ t, PSs (cxOf (L2.CX P w) P w K mg base N qual (defScope st) f cdv A outer s H E) (defBody st) t ∧ t { nx := fun _ H' => Q .non H', rt := Q } (L2.start N vs) H) : FnOk P w K mg base (L2.CX P w) (k + 1) f fd ps sp :=
  F.okX S len fun cdv A outer s H vs Q E hr h => hbody cdv A outer s H vs Q E hr (takes_of rfl rfl rfl rfl) (passes_of (X := cxOf (L2.CX P w) P w K mg base N qual (defScope st) f cdv A outer s H E) rfl) h

/-! ### the __init__ of an exception with one field -/
def spExc1 (C : Addr) (fld : Str) : Sp := fun vs H Q _ => ∃ a v, vs = [.ref a, v] ∧ H a = some (exo a C none) ∧ ∀ d, H d = none → d ≠ a → Q .non (upd (upd H d (exd d [(fld, v)])) a (exo a C (some d)))
theorem ok_exc1 {qual msg fld : Str} {st : Stmt} {f cc C cda : Addr} {fd : FuncData} {p0 p1 p2 p3 p4 p5 q1 q2 q3 q4 : Pos} {j : Nat} (F : FunS P K "__init__" qual st f cc C cda fd) (U : SupTop P mg) (M : SupE K C C) (hno : PySem.W.findIn K (.ref C) fld = some none)
    (S : SScope ["self", fld] ["self", fld] (defScope st))
    (ks : (defScope st).names.lookup ("super" : Str) = some .globalImplicit) (kc : (defScope st).names.lookup ("__class__" : Str) = some .free)
    (hp : ∃ ar, ((defArgs st).posonlyargs ++ (defArgs st).args).head? = some ar ∧ (["self", fld] : List Str)[0]? = some ar.arg ∧ (defScope st).names.lookup ar.arg = some .local)
    (hb : defBody st = [.Expr (.Call (.Attribute (.Call (.Name "super" p0) [] [] p1) "__init__" p2) [.Constant (.str msg) j p3] [] p4) p5, .Assign [.Attribute (.Name "self" q1) fld q2] (.Name fld q3) q4])
    (ht : ∀ env : Env, ∃ pl, eval (.Call (.Attribute (.Call (.Name "super" p0) [] [] p1) "__init__" p2) [.Constant (.str msg) j p3] [] p4) env = (do
      let ov ← attributeBase (.Call (.Name "super" p0) [] [] p1) "__init__" env (eval (.Call (.Name "super" p0) [] [] p1) env)
      standAt p2.atName
      let (f, first) ← holding [ov] (getMethod ov "__init__" pl)
      callWith p4 f first (backTo p4 (starEach [.Constant (.str msg) j p3] env)) (backToKw p4 (keywordEach [] env))))
    (hd : (fld == ("__debug__" : Str)) = false := by decide) (hcd : (fld == ("__classdict__" : Str)) = false := by decide) :
    FnOk P w K mg base (L2.CX P w) 1 f fd ["self", fld] (spExc1 C fld) := by
  refine F.ok S U ks kc hp (fun vs H Q E h => ?_) (fun A outer s H vs Q E hr T tk h => ?_)
  · obtain ⟨a, v, rfl, _⟩ := h
    rfl
  · obtain ⟨a, v, rfl, ha, q⟩ := h
    rw [hb]
    obtain ⟨pl, hte⟩ := ht (PySem.W.ksEnv qual (defScope st) s.heap.objs.size f (.ref cda) cc)
    refine ⟨_, PSst.cons (pst_expr (pet_supE (pl := pl) T M (pa_cons pe_str pa_nil) rfl rfl hte) rfl)
      (PSst.of (pss_one (ps_ost (pe_var (i := 0) rfl (.inl (S.par "self" (List.Mem.head _)))) (pe_var (i := 1) rfl (.inl (S.par fld (List.Mem.tail _ (List.Mem.head _)))) hd hcd) rfl))), ?_⟩
    refine ⟨a, rfl, ha, by show 1 ≤ 1000; decide, ha, v, rfl, .ref a, rfl, a, C, rfl, M.ox, hno, .inl ⟨ha, fun dx n ne => q dx n ne⟩⟩
end

/-! ### X(e), to be raised -/
structure Exc1 (P : Program) (w : World) (K : PySem.W.Frag) (mg : Str → Option Value) (base : Heap) (x : Str) (C : Addr) (fld : Str) : Prop where
  ox : OexC K C
  at_ : mg x = some (.ref C)
  ex : ∃ f, PySem.W.findIn K (.ref C) "__init__" = some (some (.ref f)) ∧ PySem.W.typeIn K (.ref f) = some (.type "function") ∧ Cal P w K mg base 1 f 2 [] (fun vs _ => spExc1 C fld vs)
/-- X(e): its class C, its dict new, the field in it -/
def tExc1 (C : Addr) (fld : Str) (ta : TA) : L2.St → Hp → XK → Prop := fun σ H Q => ta σ H fun vs H1 => ∃ v, vs = [v] ∧ ∀ d, H1 d = none → Q (.ref C) (some d) (upd H1 d (.xd [(fld, v)]))
section
variable {X : Cx} {x fld : Str} {C : Addr} {e : Expr} {p pos : Pos} {ta : TA}
theorem pmk_exc1 (T : Exc1 X.prog X.w X.K X.mg X.base x C fld) (hr : Room 2 X.A) (ha : PA X [e] ta) (hg : Gl X x := by rfl)
    (hdb : (x == ("__debug__" : Str)) = false := by decide) (he : starEach (e :: []) X.env = (false, eval e X.env) :: starEach [] X.env := by rfl) (hpl : (backTo pos (starEach [] X.env)).any (·.1) = false := by rfl) :
    PMk X (.Call (.Name x p) [e] [] pos) (tExc1 C fld ta) := by
  intro pins s σ H Q I h
  obtain ⟨nm, q, N, bs, bm, sn, sub, ab, col, dd, k0, k1, k2, k3, k5, hC, hbm⟩ := T.ox.cls
  obtain ⟨fI, iC, tI, F1⟩ := T.ex
  refine wpAny_Call_Name_kw (ld_glob I hg T.at_ ?_ hdb)
  refine PySem.W.callWith_K (h₀ := X.base) I.ok.mod.kin T.ox.kC (thn (ha.run pos pins s σ H _ I h) fun us s1 ⟨vs, H1, I1, r1, v, ev, q1⟩ => ⟨I1.kIn, ?_⟩) he hpl
  subst ev
  show wpAny _ _ (call (.ref C) us) _ _ _
  obtain ⟨hp, g, dr, tk, os⟩ := s1
  have hsz : hp.objs.size ≤ hp.objs.size + 1 := Nat.le_succ _
  have hn : H1 (hp.objs.size + 1) = none := I1.hok.fresh hsz
  have kk : ∀ b o, hp.get? b = some o → ((hp.push (PySem.W.kdv_tup us)).push (PySem.HandSPX.excO C hp.objs.size)).get? b = some o := fun b o e => Heap.get?_push_of_some _ (Heap.get?_push_of_some _ e)
  have hget : ((hp.push (PySem.W.kdv_tup us)).push (PySem.HandSPX.excO C hp.objs.size)).get? (hp.objs.size + 1) = some (PySem.HandSPX.excO C hp.objs.size) := by heap_get
  have I2 : Inv X pins σ (upd H1 (hp.objs.size + 1) (exo (hp.objs.size + 1) C none)) ⟨(hp.push (PySem.W.kdv_tup us)).push (PySem.HandSPX.excO C hp.objs.size), g, dr, tk, os⟩ :=
    I1.laid (t' := tk) (a := hp.objs.size + 1) (o := exo (hp.objs.size + 1) C none) (h' := (hp.push (PySem.W.kdv_tup us)).push (PySem.HandSPX.excO C hp.objs.size)) kk hsz (exo_ok hget)
  have r2 : Vals [V.ref (hp.objs.size + 1), v] (Value.ref (hp.objs.size + 1) :: us) := .cons rfl r1
  have hus : us.length ≤ sizeLine := by
    rw [← Paired.length r1, sizeLine_eq]
    show 1 ≤ 16777216
    decide
  have hq : spExc1 C fld [V.ref (hp.objs.size + 1), v] (upd H1 (hp.objs.size + 1) (exo (hp.objs.size + 1) C none))
      (fun u H2 => u = .non ∧ ∃ (d : Addr) (fs : List (Str × V)), H2 (hp.objs.size + 1) = some (exo (hp.objs.size + 1) C (some d)) ∧ H2 d = some (exd d fs) ∧ H1 d = none ∧ Q (.ref C) (some d) (upd (del H2 (hp.objs.size + 1)) d (.xd fs))) (fun _ _ _ => False) := by
    refine ⟨_, v, rfl, upd_same, fun d hd hne => ⟨rfl, d, _, upd_same, (upd_ne hne).trans upd_same, ?_, ?_⟩⟩
    · rw [upd_ne hne] at hd
      exact hd
    · have hd1 : H1 d = none := by
        rw [upd_ne hne] at hd
        exact hd
      have e : upd (del (upd (upd (upd H1 (hp.objs.size + 1) (exo (hp.objs.size + 1) C none)) d (exd d [(fld, v)])) (hp.objs.size + 1) (exo (hp.objs.size + 1) C (some d))) (hp.objs.size + 1)) d (.xd [(fld, v)]) = upd H1 d (.xd [(fld, v)]) := by
        funext b
        by_cases hb : b = d
        · rw [hb, upd_same, upd_same]
        · rw [upd_ne hb, upd_ne hb]
          by_cases ha : b = hp.objs.size + 1
          · rw [ha, del_same, hn]
          · rw [del_ne ha, upd_ne ha, upd_ne hb, upd_ne ha]
      rw [e]
      exact q1 d hd1
  refine wpAny_call (PySem.HandSPX.call_own F.excBase_ValueError (fun Y => PySem.HandSPX.refsVE_contains Y bm hbm) (I1.kIn _ _ hC) (PySem.W.looks_findIn I1.kIn iC) (fun self => PySem.W.bind_fn I1.kIn self tI) hus
    (codeAny_mono (F1 _ X.stack _ _ (Value.ref (hp.objs.size + 1) :: us) [] _ [] _ (fun _ _ _ => False) ((hr.mono (by decide : 2 ≤ 2)).make C us []) (I2.env0.make C us []) r2 .nil rfl rfl hq) fun r s' hq' => ?_))
  cases r with
  | error er => exact passL (X := X) pins σ _ _ er s' I2 hq'
  | ok fl =>
    cases fl with
    | ret u =>
      obtain ⟨v, H2, os2, bare2, un2, hok2, rv, ev, d, fs, ea, ed, hd1, q2⟩ := hq'
      subst ev
      obtain ⟨h2, g2, d2, t2, os'⟩ := s'
      exact ⟨rv, mk_end (raises_own T.ox.exC T.ox.tyC) I1 hsz kk un2 hok2 os2 bare2 ea ed hd1 q2⟩
    | next => exact False.elim hq'
    | brk => exact False.elim hq'
    | cont => exact False.elim hq'
end
end Sw

set_option Elab.async false
set_option linter.all false
set_option maxRecDepth 100000
set_option maxHeartbeats 4000000
namespace Sw
open PySem PySem.Spec PyProof.Rows L2

/-! ### worlds: what is known of the heap (G), and a resource that changes (R) -/
structure Res where
  L : List Addr
  S : Hp → Prop
  st : ∀ H H', S H → (∀ b ∈ L, H' b = H b) → S H'
  dm : ∀ H, S H → ∀ b ∈ L, H b ≠ none
structure Wd (G : Hp) (R : Res) (H : Hp) : Prop where
  sub : Same G H
  out : ∀ b ∈ R.L, G b = none
  res : R.S H
def R0 : Res := ⟨[], fun _ => True, fun _ _ _ _ => True.intro, fun _ _ b h => by cases h⟩
section
variable {G G' H H' : Hp} {R : Res} {p : Addr} {o o' : HO}
theorem Wd.get (w : Wd G R H) (h : G p = some o) : H p = some o := w.sub _ _ h
theorem Wd.free (w : Wd G R H) (h : H p = none) : G p = none := Same.free w.sub h
theorem Wd.notin (w : Wd G R H) (h : G p = some o) : p ∉ R.L := fun hp => by
  have := w.out p hp
  rw [h] at this
  cases this
theorem Wd.notin' (w : Wd G R H) (h : H p = none) : p ∉ R.L := fun hp => w.res |> fun r => R.dm H r p hp h
theorem Wd.same (w : Wd G R H) (e : Same H H') : Wd G R H' := ⟨Same.trans w.sub e, w.out, R.st _ _ w.res fun b hb => by
  cases q : H b with
  | none => exact absurd q (R.dm H w.res b hb)
  | some u => exact e b u q⟩
theorem Wd.new (w : Wd G R H) (h : H p = none) : Wd (upd G p o) R (upd H p o) := by
  refine ⟨fun b u e => ?_, fun b hb => ?_, R.st _ _ w.res fun b hb => ?_⟩
  · by_cases hb : b = p
    · subst hb; rw [upd_same] at e ⊢; exact e
    · rw [upd_ne hb] at e ⊢; exact w.sub _ _ e
  · rw [upd_ne (fun e => w.notin' h (by rw [← e]; exact hb))]
    exact w.out b hb
  · rw [upd_ne (fun e => w.notin' h (by rw [← e]; exact hb))]
theorem Wd.set (w : Wd G R H) (h : G p = some o) : Wd (upd G p o') R (upd H p o') := by
  refine ⟨fun b u e => ?_, fun b hb => ?_, R.st _ _ w.res fun b hb => ?_⟩
  · by_cases hb : b = p
    · subst hb; rw [upd_same] at e ⊢; exact e
    · rw [upd_ne hb] at e ⊢; exact w.sub _ _ e
  · rw [upd_ne (fun e => w.notin h (by rw [← e]; exact hb))]
    exact w.out b hb
  · rw [upd_ne (fun e => w.notin h (by rw [← e]; exact hb))]
/-- a new object that stands already -/
theorem Wd.add (w : Wd G R H) (e : Same H H') (h : H p = none) (h' : H' p = some o) : Wd (upd G p o) R H' := by
  have w' := w.same e
  refine ⟨fun b u e => ?_, fun b hb => ?_, w'.res⟩
  · by_cases hb : b = p
    · subst hb; rw [upd_same] at e; cases e; exact h'
    · rw [upd_ne hb] at e; exact w'.sub _ _ e
  · rw [upd_ne (fun e => w.notin' h (by rw [← e]; exact hb))]
    exact w.out b hb
theorem Wd.drop (w : Wd G R H) (e : Same G' G) : Wd G' R H := ⟨Same.trans e w.sub, fun b hb => Same.free e (w.out b hb), w.res⟩
theorem Same.newG (h : G p = none) : Same G (upd G p o) := fun b u e => by
  rw [upd_ne (ne_of_none e h)]
  exact e
theorem Wd.r0 (H : Hp) : Wd H R0 H := ⟨Same.refl H, fun b h => absurd h (by simp [R0]), True.intro⟩
theorem upd_old {a b : Addr} (h : G b = some o) (hn : G a = none) : upd G a o' b = some o := by
  rw [upd_ne (ne_of_none h hn)]
  exact h
theorem upd_oth {a b : Addr} (h : G b = some o) (hn : b ≠ a) : upd G a o' b = some o := by
  rw [upd_ne hn]
  exact h
theorem upd_nonne {a b : Addr} (h : upd G a o b = none) : G b = none ∧ b ≠ a := by
  have : b ≠ a := fun e => by
    subst e
    rw [upd_same] at h
    cases h
  rw [upd_ne this] at h
  exact ⟨h, this⟩
end

/-! ### one step of a reading -/
/-- a new object -/
def NewO (o : HO) (H : Hp) (Q : VK) : Prop := ∀ p, H p = none → Q (.ref p) (upd H p o)
section
variable {σ : L2.St} {H : Hp} {Q : VK} {K : PySem.W.Frag} {i : Nat} {v x y : V} {ta tb te tv to ti tk : TE} {t u c : TT} {D : Ends} {s1 s2 : TS} {g : TG} {tr tq : TA} {QA : List V → Hp → Prop} {QT : Bool → Hp → Prop}
theorem g_var (h : σ[i]? = some (some v)) (k : Q v H) : tVar i σ H Q := ⟨v, h, k⟩
theorem g_c (k : Q v H) : tC v σ H Q := k
theorem g_op {r : R2} (k : ta σ H fun x H1 => tb σ H1 fun y H2 => r x y H2 Q) : tOp r ta tb σ H Q := k
theorem g_un {r : V → Hp → VK → Prop} (k : ta σ H fun x H1 => r x H1 Q) : tUn r ta σ H Q := k
theorem g_I0 {f : Int → Int → V} {a b : Int} (k : Q (f a b) H) : rI0 f (.int a) (.int b) H Q := ⟨a, b, rfl, rfl, k⟩
theorem g_I {C : Int → Int → Prop} {f : Int → Int → V} {a b : Int} (hc : C a b) (k : Q (f a b) H) : rI C f (.int a) (.int b) H Q := ⟨a, b, rfl, rfl, hc, k⟩
theorem g_test {q : TE} (k : q σ H fun x H' => ∃ b, x = .bl b ∧ QT b H') : tTest q σ H QT := k
theorem g_B {q : TE} (k : q σ H fun x H' => ∃ b, x = .bl b ∧ QT b H') : tB q σ H QT := k
theorem g_bl {b : Bool} {P : Bool → Prop} (k : P b) : ∃ c, V.bl b = .bl c ∧ P c := ⟨b, rfl, k⟩
theorem g_and (k : t σ H fun b H1 => if b = true then u σ H1 QT else QT false H1) : tAnd t u σ H QT := k
theorem g_or (k : t σ H fun b H1 => if b = true then QT true H1 else u σ H1 QT) : tOr t u σ H QT := k
theorem g_not (k : t σ H fun b H1 => QT (!b) H1) : tNot t σ H QT := k
theorem g_if (k : c σ H fun b H1 => if b = true then ta σ H1 Q else tb σ H1 Q) : tIf c ta tb σ H Q := k
theorem g_nil (k : QA [] H) : tNil σ H QA := k
theorem g_cons (k : ta σ H fun x H1 => tr σ H1 fun xs H2 => QA (x :: xs) H2) : tCons ta tr σ H QA := k
theorem g_tup (k : tr σ H fun xs H1 => xs.length ≤ sizeLine ∧ NewO (.tup xs) H1 Q) : tTup tr σ H Q := k
theorem g_lst (k : tr σ H fun xs H1 => xs.length ≤ sizeLine ∧ NewO (.lst xs) H1 Q) : tLst tr σ H Q := k
theorem g_seq (k : s1 { D with nx := s2 D } σ H) : tSeq s1 s2 D σ H := k
theorem g_next (k : D.nx σ H) : tNext D σ H := k
theorem g_asg (k : te σ H fun x H1 => g x σ H1 D.nx) : tAsg te g D σ H := k
theorem g_name {P : L2.St → Hp → Prop} (k : P (σ.set i (some v)) H) : gName i v σ H P := k
theorem g_sub {ts : TSet} {P : L2.St → Hp → Prop} (k : to σ H fun o H1 => ti σ H1 fun i H2 => ts o i v H2 fun H3 => P σ H3) : gSub to ti ts v σ H P := k
theorem g_drop (k : te σ H fun _ H1 => D.nx σ H1) : tDrop te D σ H := k
theorem g_ret (k : te σ H D.rt) : tRet te D σ H := k
theorem g_retN (k : D.rt .non H) : tRetN D σ H := k
theorem g_ifS (k : c σ H fun b H1 => if b = true then s1 D σ H1 else s2 D σ H1) : tIfS c s1 s2 D σ H := k
theorem g_callB {r : List V → Hp → VK → Prop} (k : tr σ H fun vs H1 => r vs H1 Q) : tCB r tr σ H Q := k
theorem g_calG {n m : Nat} {sp : SpC} {W : WX} (k : tr σ H fun vs H1 => tq σ H1 fun zs H2 => vs.length = n ∧ zs.length = m ∧ sp vs zs H2 Q (WE W σ)) : tCalG n m sp W tr tq σ H Q := k
theorem g_mkG {n m : Nat} {C : Addr} {sp : SpC} {W : WX} (k : tr σ H fun vs H1 => tq σ H1 fun zs H2 => vs.length = n ∧ zs.length = m ∧ ∀ x dx, H2 x = none → H2 dx = none → dx ≠ x → sp (.ref x :: vs) zs (upd (upd H2 dx (.own x)) x (.ins C dx [])) (fun v H3 => v = .non ∧ Q (.ref x) H3) (WE W σ)) : tMkG C n m sp W tr tq σ H Q := k
theorem iteD {P A B : Prop} [Decidable P] (h1 : P → A) (h2 : ¬ P → B) : if decide P = true then A else B := by
  by_cases h : P
  · rw [decide_eq_true h]; exact iteT (h1 h)
  · rw [decide_eq_false h]; exact iteF (h2 h)
theorem iteN {P A B : Prop} [Decidable P] (h1 : ¬ P → A) (h2 : P → B) : if (!decide P) = true then A else B := by
  by_cases h : P
  · rw [decide_eq_true h]; exact iteF (h2 h)
  · rw [decide_eq_false h]; exact iteT (h1 h)
theorem iteB {b : Bool} {A B : Prop} (h1 : b = true → A) (h2 : b = false → B) : if b = true then A else B := by
  cases b
  · exact iteF (h2 rfl)
  · exact iteT (h1 rfl)
theorem iteNT {A B : Prop} (h : B) : if (!true) = true then A else B := iteF h
theorem iteNF {A B : Prop} (h : A) : if (!false) = true then A else B := iteT h
theorem iteBN {b : Bool} {A B : Prop} (h1 : b = false → A) (h2 : b = true → B) : if (!b) = true then A else B := by
  cases b
  · exact iteT (h1 rfl)
  · exact iteF (h2 rfl)
end
end Sw

set_option Elab.async false
set_option linter.all false
set_option maxRecDepth 100000
set_option maxHeartbeats 4000000
namespace Sw
open PySem PySem.Spec PyProof.Rows L2

/-! ### operators whatever the kinds -/
abbrev rAddI : R2 := rI0 fun i j => .int (i + j)
abbrev rAddS : R2 := fun x y H Q => ∃ i j, x = .str i ∧ y = .str j ∧ i.length + j.length ≤ sizeLine ∧ Q (.str (i ++ j)) H
def aAdd (K : PySem.W.Frag) : R2 := fun x y H Q => rAddI x y H Q ∨ (rAddS x y H Q ∨ (rCat x y H Q ∨ rCatA K x y H Q))
def aMul (K : PySem.W.Frag) : R2 := fun x y H Q => rI CMul (fun i j => .int (i * j)) x y H Q ∨ rRep x y H Q
/-- lists of flat values, item by item -/
def eqVs : List V → List V → Bool
  | [], [] => true
  | x :: xs, y :: ys => eqV x y && eqVs xs ys
  | [], _ :: _ => false
  | _ :: _, [] => false
theorem eqVs_len : ∀ {xs ys : List V}, xs.length ≠ ys.length → eqVs xs ys = false
  | [], [], h => absurd rfl h
  | [], _ :: _, _ => rfl
  | _ :: _, [], _ => rfl
  | x :: xs, y :: ys, h => by
    show (eqV x y && eqVs xs ys) = false
    rw [eqVs_len (xs := xs) (ys := ys) fun e => h (by rw [List.length_cons, List.length_cons, e]), Bool.and_false]
theorem eqVs_all : ∀ {xs ys : List V}, xs.length = ys.length → (List.range xs.length).all (fun j => eqV (xs.getD j .non) (ys.getD j .non)) = eqVs xs ys
  | [], [], _ => rfl
  | [], _ :: _, h => by cases h
  | _ :: _, [], h => by cases h
  | x :: xs, y :: ys, h => by
    rw [List.length_cons, List.range_succ_eq_map, List.all_cons, List.all_map]
    show (eqV x y && (List.range xs.length).all (fun j => eqV (xs.getD j .non) (ys.getD j .non))) = (eqV x y && eqVs xs ys)
    rw [eqVs_all (Nat.succ.inj h)]
def rEqF (K : PySem.W.Frag) : R2 := fun x y H Q => ∃ a b xs ys, x = .ref a ∧ y = .ref b ∧ SqL K H a xs ∧ SqL K H b ys ∧ xs.all flatV = true ∧ ys.all flatV = true ∧ Q (.bl (eqVs xs ys)) H
def rNeF (K : PySem.W.Frag) : R2 := fun x y H Q => ∃ a b xs ys, x = .ref a ∧ y = .ref b ∧ SqL K H a xs ∧ SqL K H b ys ∧ xs.all flatV = true ∧ ys.all flatV = true ∧ Q (.bl (!eqVs xs ys)) H
theorem flat_at {xs : List V} {us : List Value} (r : Vals xs us) (hf : xs.all flatV = true) {j : Nat} (h : j < us.toArray.size) : RelV (xs.getD j .non) us.toArray[j] ∧ flatV (xs.getD j .non) = true := by
  have hl := r.length
  have hj : j < us.length := by simpa using h
  have hx : xs[j]? = some xs[j] := List.getElem?_eq_getElem (by omega)
  have e : xs.getD j .non = xs[j] := by
    rw [List.getD_eq_getElem?_getD, hx]
    rfl
  rw [e]
  refine ⟨?_, List.all_eq_true.mp hf _ (List.getElem_mem _)⟩
  have := r.get hx
  obtain ⟨u, hu, ru⟩ := this
  rw [List.getElem?_eq_getElem hj] at hu
  cases hu
  simpa using ru
theorem op_eqF {X : Cx} (hu : X.A.units + 64 < cLine) : OpR X (compareOp .Eq) (rEqF X.K) := by
  intro pins s σ H x y v u Q I rx ry h
  obtain ⟨a, b, xs, ys, rfl, rfl, ha, hb, fa, fb, q⟩ := h
  cases rx
  cases ry
  obtain ⟨i1, r1, p1, z1⟩ := I.list ha
  obtain ⟨i2, r2, p2, z2⟩ := I.list hb
  have l1 := r1.length
  have l2 := r2.length
  by_cases hl : xs.length = ys.length
  · have := SeqAt.RcAt.lists (A := X.A) (e := fun j => eqV (xs.getD j .non) (ys.getD j .non)) p1.isList p2.isList (by simp; omega) (by omega) (fun j h1 h2 => by
      obtain ⟨a1, a2⟩ := flat_at r1 fa h1
      obtain ⟨b1, b2⟩ := flat_at r2 fb h2
      exact eqAt_V a1 b1 a2 b2) X.prog X.w
    refine this _ _ ?_
    rw [show i1.toArray.size = xs.length by simp; omega, eqVs_all hl]
    exact ⟨.bl _, H, I, rfl, q⟩
  · refine SeqAt.RcAt.lists_lengths (A := X.A) p1.isList p2.isList (by simp; omega) (by omega) X.prog X.w _ _ ?_
    rw [eqVs_len hl] at q
    exact ⟨.bl _, H, I, rfl, q⟩
theorem op_neF {X : Cx} (hu : X.A.units + 64 < cLine) : OpR X (compareOp .NotEq) (rNeF X.K) := by
  intro pins s σ H x y v u Q I rx ry h
  obtain ⟨a, b, xs, ys, rfl, rfl, ha, hb, fa, fb, q⟩ := h
  cases rx
  cases ry
  obtain ⟨i1, r1, p1, z1⟩ := I.list ha
  obtain ⟨i2, r2, p2, z2⟩ := I.list hb
  have l1 := r1.length
  have l2 := r2.length
  by_cases hl : xs.length = ys.length
  · have := SeqAt.RcNeAt.lists (A := X.A) (e := fun j => eqV (xs.getD j .non) (ys.getD j .non)) p1.isList p2.isList (by simp; omega) (by omega) (fun j h1 h2 => by
      obtain ⟨a1, a2⟩ := flat_at r1 fa h1
      obtain ⟨b1, b2⟩ := flat_at r2 fb h2
      exact eqAt_V a1 b1 a2 b2) X.prog X.w
    refine this _ _ ?_
    rw [show i1.toArray.size = xs.length by simp; omega, eqVs_all hl]
    exact ⟨.bl _, H, I, rfl, q⟩
  · refine SeqAt.RcNeAt.lists_lengths (A := X.A) p1.isList p2.isList (by simp; omega) (by omega) X.prog X.w _ _ ?_
    rw [eqVs_len hl] at q
    exact ⟨.bl _, H, I, rfl, q⟩
def aEq (K : PySem.W.Frag) : R2 := fun x y H Q => rEq x y H Q ∨ (rEqD K x y H Q ∨ rEqF K x y H Q)
def aNe (K : PySem.W.Frag) : R2 := fun x y H Q => rNe x y H Q ∨ (rNeD K x y H Q ∨ rNeF K x y H Q)
abbrev rInSg : R2 := fun x y H Q => ∃ (c : Nat) (z : Str), x = .str ⟨#[c]⟩ ∧ y = .str z ∧ Q (.bl (decide (c ∈ z.cps.toList))) H
abbrev rNiSg : R2 := fun x y H Q => ∃ (c : Nat) (z : Str), x = .str ⟨#[c]⟩ ∧ y = .str z ∧ Q (.bl (!decide (c ∈ z.cps.toList))) H
def aIn (K : PySem.W.Frag) : R2 := fun x y H Q => rIn K false x y H Q ∨ rInSg x y H Q
def aNi (K : PySem.W.Frag) : R2 := fun x y H Q => rIn K true x y H Q ∨ rNiSg x y H Q
def aSl (K : PySem.W.Frag) : V → Option Int → Option Int → Hp → VK → Prop := fun x lo hi H Q => rSlL K x lo hi H Q ∨ (rSlS x lo hi H Q ∨ rSlT K x lo hi H Q)
def aLen (K : PySem.W.Frag) : List V → Hp → VK → Prop := fun xs H Q => ∃ x n, xs = [x] ∧ LenV K x H n ∧ Q (.int n) H
section
variable {X : Cx}
theorem oa_add : OpR X (binaryOp .Add) (aAdd X.K) := op_add.or (op_add_str.or (op_cat.or op_catA))
theorem oa_mul : OpR X (binaryOp .Mult) (aMul X.K) := op_mul.or op_rep
theorem oa_eq (hu : X.A.units + 64 < cLine) : OpR X (compareOp .Eq) (aEq X.K) := op_eq.or ((op_eqD hu).or (op_eqF hu))
theorem oa_ne (hu : X.A.units + 64 < cLine) : OpR X (compareOp .NotEq) (aNe X.K) := op_ne.or ((op_neD hu).or (op_neF hu))
theorem oa_in : OpR X (compareOp .In) (aIn X.K) := op_in_seq.or op_in_sign
theorem oa_ni : OpR X (compareOp .NotIn) (aNi X.K) := op_notIn_seq.or op_notIn_sign
theorem sa : SlR X (aSl X.K) := sl_list.or (sl_str.or sl_tup)
theorem ca_len : CallR X (.builtin "len") (aLen X.K) := call_len
end

/-! ### their steps, in a world -/
section
variable {G H : Hp} {R : Res} {K : PySem.W.Frag} {Q : VK} {a b l p : Addr} {xs ys zs : List V} {i j : Int} {x y : Str}
theorem g_addI (k : Q (.int (i + j)) H) : aAdd K (.int i) (.int j) H Q := .inl ⟨i, j, rfl, rfl, k⟩
theorem g_addS (hz : x.length + y.length ≤ sizeLine) (k : Q (.str (x ++ y)) H) : aAdd K (.str x) (.str y) H Q := .inr (.inl ⟨x, y, rfl, rfl, hz, k⟩)
theorem g_addL (w : Wd G R H) (h1 : G a = some (.lst xs)) (h2 : G b = some (.lst ys)) (hz : xs.length + ys.length ≤ sizeLine) (k : ∀ p H', G p = none → Wd (upd G p (.lst (xs ++ ys))) R H' → Q (.ref p) H') : aAdd K (.ref a) (.ref b) H Q :=
  .inr (.inr (.inl ⟨a, b, xs, ys, rfl, rfl, w.get h1, w.get h2, hz, fun p hp => k p _ (w.free hp) (w.new hp)⟩))
theorem g_addT (w : Wd G R H) (h1 : SqT K G a xs) (h2 : SqT K G b ys) (n1 : xs ≠ []) (n2 : ys ≠ []) (hz : xs.length + ys.length ≤ sizeLine) (k : ∀ p H', G p = none → Wd (upd G p (.tup (xs ++ ys))) R H' → Q (.ref p) H') : aAdd K (.ref a) (.ref b) H Q :=
  .inr (.inr (.inr ⟨a, b, xs, ys, rfl, rfl, Evl.ex_t w.sub h1, Evl.ex_t w.sub h2, hz, fun e => absurd e n1, fun _ e => absurd e n2, fun _ _ p hp => k p _ (w.free hp) (w.new hp)⟩))
theorem g_mulI (hc : CMul i j) (k : Q (.int (i * j)) H) : aMul K (.int i) (.int j) H Q := .inl ⟨i, j, rfl, rfl, hc, k⟩
theorem g_mulL (w : Wd G R H) (h1 : G a = some (.lst xs)) (h : -(2 ^ 63) ≤ i) (h' : i < 2 ^ 63) (hz : xs.length * i.toNat ≤ sizeLine) (k : ∀ p H', G p = none → Wd (upd G p (.lst (List.replicate i.toNat xs).flatten)) R H' → Q (.ref p) H') : aMul K (.ref a) (.int i) H Q :=
  .inr ⟨a, i, xs, rfl, rfl, w.get h1, h, h', hz, fun p hp => k p _ (w.free hp) (w.new hp)⟩
theorem g_eqS {u v : V} (hs : scal u v = true) (k : Q (.bl (decide (u = v))) H) : aEq K u v H Q := .inl ⟨hs, k⟩
theorem g_neS {u v : V} (hs : scal u v = true) (k : Q (.bl (!decide (u = v))) H) : aNe K u v H Q := .inl ⟨hs, k⟩
theorem g_eqD {u v : V} {d e : PyData} (h1 : Dp K H u d) (h2 : Dp K H v e) (s1 : SeqAt.shaped d = true) (s2 : SeqAt.shaped e = true) (k : Q (.bl (PyData.eqv d e)) H) : aEq K u v H Q := .inr (.inl ⟨d, e, h1, h2, s1, s2, k⟩)
theorem g_neD {u v : V} {d e : PyData} (h1 : Dp K H u d) (h2 : Dp K H v e) (s1 : SeqAt.shaped d = true) (s2 : SeqAt.shaped e = true) (k : Q (.bl (!PyData.eqv d e)) H) : aNe K u v H Q := .inr (.inl ⟨d, e, h1, h2, s1, s2, k⟩)
theorem g_eqF (w : Wd G R H) (h1 : SqL K G a xs) (h2 : SqL K G b ys) (f1 : xs.all flatV = true) (f2 : ys.all flatV = true) (k : Q (.bl (eqVs xs ys)) H) : aEq K (.ref a) (.ref b) H Q := .inr (.inr ⟨a, b, xs, ys, rfl, rfl, Evl.ex_l w.sub h1, Evl.ex_l w.sub h2, f1, f2, k⟩)
theorem g_neF (w : Wd G R H) (h1 : SqL K G a xs) (h2 : SqL K G b ys) (f1 : xs.all flatV = true) (f2 : ys.all flatV = true) (k : Q (.bl (!eqVs xs ys)) H) : aNe K (.ref a) (.ref b) H Q := .inr (.inr ⟨a, b, xs, ys, rfl, rfl, Evl.ex_l w.sub h1, Evl.ex_l w.sub h2, f1, f2, k⟩)
theorem g_inL (w : Wd G R H) {u : V} (h : SqL K G p xs) (hx : flatV u = true) (ha : xs.all flatV = true) (k : Q (.bl (inV u xs)) H) : aIn K u (.ref p) H Q := .inl ⟨p, xs, rfl, .inl (Evl.ex_l w.sub h), hx, ha, k⟩
theorem g_inT (w : Wd G R H) {u : V} (h : SqT K G p xs) (hx : flatV u = true) (ha : xs.all flatV = true) (k : Q (.bl (inV u xs)) H) : aIn K u (.ref p) H Q := .inl ⟨p, xs, rfl, .inr (Evl.ex_t w.sub h), hx, ha, k⟩
theorem g_niL (w : Wd G R H) {u : V} (h : SqL K G p xs) (hx : flatV u = true) (ha : xs.all flatV = true) (k : Q (.bl (!inV u xs)) H) : aNi K u (.ref p) H Q := .inl ⟨p, xs, rfl, .inl (Evl.ex_l w.sub h), hx, ha, k⟩
theorem g_niT (w : Wd G R H) {u : V} (h : SqT K G p xs) (hx : flatV u = true) (ha : xs.all flatV = true) (k : Q (.bl (!inV u xs)) H) : aNi K u (.ref p) H Q := .inl ⟨p, xs, rfl, .inr (Evl.ex_t w.sub h), hx, ha, k⟩
theorem g_inSg {c : Nat} (k : Q (.bl (decide (c ∈ x.cps.toList))) H) : aIn K (.str ⟨#[c]⟩) (.str x) H Q := .inr ⟨c, x, rfl, rfl, k⟩
theorem g_niSg {c : Nat} (k : Q (.bl (!decide (c ∈ x.cps.toList))) H) : aNi K (.str ⟨#[c]⟩) (.str x) H Q := .inr ⟨c, x, rfl, rfl, k⟩
theorem g_ixL (w : Wd G R H) {v : V} (h : SqL K G p xs) (ha : atI xs i = some v) (k : Q v H) : rIx K (.ref p) (.int i) H Q := .inl ⟨p, xs, i, v, rfl, rfl, Evl.ex_l w.sub h, ha, k⟩
theorem g_ixT (w : Wd G R H) {v : V} (h : SqT K G p xs) (ha : atI xs i = some v) (k : Q v H) : rIx K (.ref p) (.int i) H Q := .inr (.inl ⟨p, xs, i, v, rfl, rfl, Evl.ex_t w.sub h, ha, k⟩)
theorem g_ixS {c : Nat} (hz : x.length ≤ sizeLine) (ha : atI x.cps.toList i = some c) (k : Q (.str ⟨#[c]⟩) H) : rIx K (.str x) (.int i) H Q := .inr (.inr ⟨x, i, c, rfl, rfl, hz, ha, k⟩)
theorem g_slL (w : Wd G R H) {lo hi : Option Int} (h : SqL K G a xs) (k : ∀ p H', G p = none → Wd (upd G p (.lst (cutV xs lo hi))) R H' → Q (.ref p) H') : aSl K (.ref a) lo hi H Q :=
  .inl ⟨a, xs, rfl, Evl.ex_l w.sub h, fun p hp => k p _ (w.free hp) (w.new hp)⟩
theorem g_slS {lo hi : Option Int} (hz : x.length ≤ sizeLine) (k : Q (.str (cutS x lo hi)) H) : aSl K (.str x) lo hi H Q := .inr (.inl ⟨x, rfl, hz, k⟩)
theorem g_slT (w : Wd G R H) {lo hi : Option Int} (h : SqT K G a xs) (hn : ¬ (HT.sIx xs.length 0 lo = 0 ∧ HT.sIx xs.length xs.length hi = xs.length)) (k : ∀ p H', G p = none → Wd (upd G p (.tup (cutV xs lo hi))) R H' → Q (.ref p) H') : aSl K (.ref a) lo hi H Q :=
  .inr (.inr ⟨a, xs, rfl, Evl.ex_t w.sub h, hn, fun p hp => k p _ (w.free hp) (w.new hp)⟩)
theorem g_lenS (hz : x.length ≤ sizeLine) (k : Q (.int x.length) H) : aLen K [.str x] H Q := ⟨.str x, _, rfl, ⟨hz, rfl⟩, k⟩
theorem g_lenL (w : Wd G R H) (h : SqL K G p xs) (k : Q (.int xs.length) H) : aLen K [.ref p] H Q := ⟨.ref p, _, rfl, .inl ⟨xs, Evl.ex_l w.sub h, rfl⟩, k⟩
theorem g_lenT (w : Wd G R H) (h : SqT K G p xs) (k : Q (.int xs.length) H) : aLen K [.ref p] H Q := ⟨.ref p, _, rfl, .inr ⟨xs, Evl.ex_t w.sub h, rfl⟩, k⟩
/-- a new object -/
theorem g_new (w : Wd G R H) {o : HO} (k : ∀ p H', G p = none → Wd (upd G p o) R H' → Q (.ref p) H') : NewO o H Q := fun p hp => k p _ (w.free hp) (w.new hp)
theorem g_newL (w : Wd G R H) {o : HO} {n : Nat} (hz : n ≤ sizeLine) (k : ∀ p H', G p = none → Wd (upd G p o) R H' → Q (.ref p) H') : n ≤ sizeLine ∧ NewO o H Q := ⟨hz, fun p hp => k p _ (w.free hp) (w.new hp)⟩
/-- lists changed -/
theorem g_app (w : Wd G R H) {v : V} (h : G l = some (.lst xs)) (hz : xs.length < sizeLine) (k : ∀ H', Wd (upd G l (.lst (xs ++ [v]))) R H' → Q .non H') : rAppend (.ref l) [v] H Q := ⟨l, xs, v, rfl, rfl, w.get h, hz, k _ (w.set h)⟩
theorem g_popAt (w : Wd G R H) {v : V} {k' : Nat} (h : G l = some (.lst xs)) (h1 : -(2 ^ 63) ≤ i) (h2 : i < 2 ^ 63) (h3 : seqIndex? i xs.length = some k') (h4 : xs[k']? = some v) (k : ∀ H', Wd (upd G l (.lst (xs.eraseIdx k'))) R H' → Q v H') : rPopAt (.ref l) [.int i] H Q :=
  ⟨l, xs, i, k', v, rfl, rfl, w.get h, h1, h2, h3, h4, k _ (w.set h)⟩
theorem g_setL (w : Wd G R H) {v : V} {j' : Nat} {P : Hp → Prop} (h : G l = some (.lst xs)) (hi : ixN xs.length i = some j') (k : ∀ H', Wd (upd G l (.lst (xs.set j' v))) R H' → P H') : rSetL (.ref l) (.int i) v H P := ⟨l, xs, i, j', rfl, rfl, w.get h, hi, k _ (w.set h)⟩
theorem g_tyL (w : Wd G R H) {P : Prop} (h : G l = some (.lst xs)) (k : P) : tyV K "list" (.ref l) H ∧ P := ⟨.inl ⟨rfl, _, SqL.of (w.get h)⟩, k⟩
end
/-! ### the rules with the written part named (within a comprehension's block the reading must not speak of the block) -/
section
variable {X : Cx} {a b e o : Expr} {es : List Expr} {rest : List Expr} {ta tb te to : TE} {t tr : TA} {pos apos : Pos} {f : Str} (K : PySem.W.Frag)
theorem ka_add (hK : X.K = K := by rfl) : OpR X (binaryOp .Add) (aAdd K) := by subst hK; exact oa_add
theorem ka_mul (hK : X.K = K := by rfl) : OpR X (binaryOp .Mult) (aMul K) := by subst hK; exact oa_mul
theorem ka_eq (hu : X.A.units + 64 < cLine) (hK : X.K = K := by rfl) : OpR X (compareOp .Eq) (aEq K) := by subst hK; exact oa_eq hu
theorem ka_ne (hu : X.A.units + 64 < cLine) (hK : X.K = K := by rfl) : OpR X (compareOp .NotEq) (aNe K) := by subst hK; exact oa_ne hu
theorem ka_in (hK : X.K = K := by rfl) : OpR X (compareOp .In) (aIn K) := by subst hK; exact oa_in
theorem ka_ni (hK : X.K = K := by rfl) : OpR X (compareOp .NotIn) (aNi K) := by subst hK; exact oa_ni
theorem ka_sl (hK : X.K = K := by rfl) : SlR X (aSl K) := by subst hK; exact sa
theorem ka_len (hK : X.K = K := by rfl) : CallR X (.builtin "len") (aLen K) := by subst hK; exact ca_len
theorem ka_ix (hK : X.K = K := by rfl) : IxR X (rIx K) := by subst hK; exact ix_seq
theorem ka_isi (hK : X.K = K := by rfl) : CallR X (.builtin "isinstance") (rIsi K) := by subst hK; exact call_isi
theorem ka_all (hc : X.calm = true) (hK : X.K = K := by rfl) : CallR X (.builtin "all") (rAll K) := by subst hK; exact cr_all hc
theorem ka_any (hc : X.calm = true) (hK : X.K = K := by rfl) : CallR X (.builtin "any") (rAny K) := by subst hK; exact cr_any hc
def rListOf (K : PySem.W.Frag) : List V → Hp → VK → Prop := fun xs H Q => ∃ p ys, xs = [.ref p] ∧ (SqL K H p ys ∨ SqT K H p ys) ∧ ∀ l, H l = none → Q (.ref l) (upd H l (.lst ys))
theorem ka_list (hK : X.K = K := by rfl) : CallR X (.type "list") (rListOf K) := by subst hK; exact call_list_of
def tTru (K : PySem.W.Frag) (ta : TE) : TT := fun σ H Q => ta σ H fun x H' => ∃ k, TruV K x H' k ∧ Q k H'
theorem kt_truth (ha : PE X a ta) (he : ∀ whole, isTrue a X.env whole = (do let v ← whole; standAt a.pos; holding [v] (truthy v))) (hK : X.K = K := by rfl) : PT X a (tTru K ta) := by subst hK; exact pt_truth ha he
theorem ke_fld (he : PE X e ta) (hb : attributeBase e f X.env (eval e X.env) = eval e X.env) (hK : X.K = K := by rfl) : PE X (.Attribute e f pos) (tFld K ta f) := by subst hK; exact pe_fld he hb
theorem ke_con (he : PE X e ta) (hb : attributeBase e f X.env (eval e X.env) = eval e X.env) (hK : X.K = K := by rfl) : PE X (.Attribute e f pos) (tCon K ta f) := by subst hK; exact pe_con he hb
theorem ke_orT (ha : PE X a ta) (hb : PE X (.BoolOp .Or (b :: rest) pos) tb) (hK : X.K = K := by rfl) : PE X (.BoolOp .Or (a :: b :: rest) pos) (tOrT K ta tb) := by subst hK; exact pe_orT ha hb
theorem ke_andT (ha : PE X a ta) (hb : PE X (.BoolOp .And (b :: rest) pos) tb) (hK : X.K = K := by rfl) : PE X (.BoolOp .And (a :: b :: rest) pos) (tAndT K ta tb) := by subst hK; exact pe_andT ha hb
def rJoin (K : PySem.W.Frag) : V → List V → Hp → VK → Prop := fun x xs H Q => ∃ a p, ∃ ys : List Str, x = .str a ∧ xs = [.ref p] ∧ (SqL K H p (ys.map V.str) ∨ SqT K H p (ys.map V.str)) ∧ (ys.map (·.length)).sum + ys.length * a.length ≤ 16777216 ∧ Q (.str (Txt.join a ys)) H
theorem ke_join (ho : PE X o to) (he : PE X e te) (hs : starEach [e] X.env = [(false, eval e X.env)] := by rfl) (hbase : attributeBase o "join" X.env (eval o X.env) = eval o X.env := by rfl) (hline : (apos.endLine == pos.line) = true := by rfl) (hK : X.K = K := by rfl) :
    PE X (.Call (.Attribute o "join" apos) [e] [] pos) (tM1 (rJoin K) to te) := by subst hK; exact pe_join ho he hs hbase hline
def rSplit : V → List V → Hp → VK → Prop := fun x xs H Q => ∃ a b, x = .str a ∧ xs = [.str b] ∧ (b.length == 0) = false ∧ a.length + 2 ≤ sizeLine ∧ rNewStrs (Txt.split a b) H Q
theorem ke_split (ho : PE X o to) (he : PE X e te) (hs : starEach [e] X.env = [(false, eval e X.env)] := by rfl) (hbase : attributeBase o "split" X.env (eval o X.env) = eval o X.env := by rfl) (hline : (apos.endLine == pos.line) = true := by rfl) :
    PE X (.Call (.Attribute o "split" apos) [e] [] pos) (tM1 rSplit to te) := pe_split ho he hs hbase hline
theorem ki_list {tg l : Expr} {tl : TE} (hl : PE X l tl) (hK : X.K = K := by rfl) : PI X tg l (iList K tl) := by subst hK; exact pi_list hl
theorem ki_tup {tg l : Expr} {tl : TE} (hl : PE X l tl) (hK : X.K = K := by rfl) : PI X tg l (iTup K tl) := by subst hK; exact pi_tup hl
end
section
variable {G H : Hp} {R : Res} {K : PySem.W.Frag} {Q : VK} {σ : L2.St} {t1 t2 : TE} {QT : Bool → Hp → Prop}
theorem g_tru (k : t1 σ H fun x H' => ∃ k, TruV K x H' k ∧ QT k H') : tTru K t1 σ H QT := k
theorem g_listL (w : Wd G R H) {p : Addr} {xs : List V} (h : SqL K G p xs) (k : ∀ l H', G l = none → Wd (upd G l (.lst xs)) R H' → Q (.ref l) H') : rListOf K [.ref p] H Q := ⟨p, xs, rfl, .inl (Evl.ex_l w.sub h), fun l hl => k l _ (w.free hl) (w.new hl)⟩
theorem g_listT (w : Wd G R H) {p : Addr} {xs : List V} (h : SqT K G p xs) (k : ∀ l H', G l = none → Wd (upd G l (.lst xs)) R H' → Q (.ref l) H') : rListOf K [.ref p] H Q := ⟨p, xs, rfl, .inr (Evl.ex_t w.sub h), fun l hl => k l _ (w.free hl) (w.new hl)⟩
theorem g_join (w : Wd G R H) {a : Str} {p : Addr} {ys : List Str} (h : SqL K G p (ys.map V.str)) (hz : (ys.map (·.length)).sum + ys.length * a.length ≤ 16777216) (k : Q (.str (Txt.join a ys)) H) : rJoin K (.str a) [.ref p] H Q := ⟨a, p, ys, rfl, rfl, .inl (Evl.ex_l w.sub h), hz, k⟩
theorem g_split (w : Wd G R H) {a b : Str} (h1 : (b.length == 0) = false) (h2 : a.length + 2 ≤ sizeLine) (k : ∀ p H', G p = none → Wd (upd G p (.lst ((Txt.split a b).map V.str))) R H' → Q (.ref p) H') : rSplit (.str a) [.str b] H Q := ⟨a, b, rfl, rfl, h1, h2, fun p hp => k p _ (w.free hp) (w.new hp)⟩
theorem g_strM {a : Str} {P : Prop} (k : P) : (∃ b, V.str a = .str b) ∧ P := ⟨⟨a, rfl⟩, k⟩
end
theorem pe_globE {X : Cx} {x : Str} {v : V} {pos : Pos} (hg : Gl X x) (h : ∃ u, X.mg x = some u ∧ RelV v u) (hd : (x == ("__debug__" : Str)) = false := by decide) : PE X (.Name x pos) (tC v) := by
  obtain ⟨u, hm, r⟩ := h
  exact pe_glob hg hm r hd
end Sw

set_option Elab.async false
set_option linter.all false
set_option maxRecDepth 100000
set_option maxHeartbeats 4000000
namespace Sw
open PySem PySem.Spec PyProof.Rows L2

/-! ### what is walked: n turns -/
structure Itf (J : It) (n : Nat) (I : Hp → Prop) (Y : Nat → V → Hp → Hp → Prop) : Prop where
  go : ∀ i H, i < n → I H → J.go i H
  stop : ∀ H, I H → J.stop n H
  yld : ∀ i H x H', i < n → I H → J.yld i H x H' → Y i x H H'
theorem itf_list {K : PySem.W.Frag} {a : Addr} {xs : List V} : Itf (Itl K a) xs.length (fun H => SqL K H a xs) (fun i x H H' => H' = H ∧ xs[i]? = some x) where
  go := fun i H hi h => ⟨xs, xs[i], h, List.getElem?_eq_getElem hi⟩
  stop := fun H h => ⟨xs, h, Nat.le_refl _⟩
  yld := fun i H x H' hi h y => ⟨y.1, y.2 xs h⟩
theorem itf_tup {K : PySem.W.Frag} {a : Addr} {xs : List V} : Itf (Itt K a) xs.length (fun H => SqT K H a xs) (fun i x H H' => H' = H ∧ xs[i]? = some x) where
  go := fun i H hi h => ⟨xs, xs[i], h, List.getElem?_eq_getElem hi⟩
  stop := fun H h => ⟨xs, h, Nat.le_refl _⟩
  yld := fun i H x H' hi h y => ⟨y.1, y.2 xs h⟩
theorem itf_range {lo : Int} {n : Nat} : Itf (Itr lo n) n (fun _ => True) (fun i x H H' => H' = H ∧ x = .int (lo + i)) where
  go := fun i H hi h => hi
  stop := fun H h => Nat.le_refl _
  yld := fun i H x H' hi h y => y
theorem itf_str {z : Str} : Itf (Its z) z.cps.size (fun _ => True) (fun i x H H' => H' = H ∧ ∃ c, z.cps[i]? = some c ∧ x = .str ⟨#[c]⟩) where
  go := fun i H hi h => hi
  stop := fun H h => Nat.le_refl _
  yld := fun i H x H' hi h y => y
theorem itf_enum {K : PySem.W.Frag} {a : Addr} {xs : List V} : Itf (Ite K a) xs.length (fun H => SqL K H a xs) (fun i v H H' => ∃ T x, v = .ref T ∧ H T = none ∧ H' = upd H T (.tup [.int (i : Nat), x]) ∧ xs[i]? = some x) where
  go := fun i H hi h => ⟨xs, xs[i], h, List.getElem?_eq_getElem hi⟩
  stop := fun H h => ⟨xs, h, Nat.le_refl _⟩
  yld := fun i H x H' hi h y => by
    obtain ⟨T, u, e1, e2, e3, e4⟩ := y
    exact ⟨T, u, e1, e2, e3, e4 xs h⟩

def ForW (J : It) (g : TG) (tb : TS) (D : Ends) (σ : L2.St) (H1 : Hp) : Prop := ∃ W : Nat → Nat → L2.St → Hp → Prop, (∃ m, W 0 m σ H1) ∧ ∀ i m σ H, W i m σ H →
  (J.stop i H ∧ D.nx σ H) ∨ (J.go i H ∧ ∃ N : L2.St → Hp → Prop, (∀ σ' H', N σ' H' → ∃ m', m' < m ∧ W (i + 1) m' σ' H') ∧ ∀ x H', J.yld i H x H' → g x σ H' fun σ2 H2 => tb { D with nx := N, ct := N, bk := D.nx } σ2 H2)
theorem for_it {J : It} {n : Nat} {I : Hp → Prop} {Y : Nat → V → Hp → Hp → Prop} (F : Itf J n I Y) {g : TG} {tb : TS} {D : Ends} {σ : L2.St} {H : Hp} (Pv : Nat → L2.St → Hp → Prop) (h0 : Pv 0 σ H) (hI : ∀ i σ H, i ≤ n → Pv i σ H → I H)
    (hs : ∀ i x σ H H', i < n → Pv i σ H → Y i x H H' → g x σ H' fun σ2 H2 => tb { D with nx := Pv (i + 1), ct := Pv (i + 1), bk := D.nx } σ2 H2) (hd : ∀ σ H, Pv n σ H → D.nx σ H) : ForW J g tb D σ H := by
  refine ⟨fun i m σ H => m = n - i ∧ i ≤ n ∧ Pv i σ H, ⟨n, by simp, Nat.zero_le _, h0⟩, ?_⟩
  rintro i m σ H ⟨rfl, hi, p⟩
  have q := hI i σ H hi p
  by_cases hlt : i < n
  · refine .inr ⟨F.go i H hlt q, Pv (i + 1), fun σ' H' p' => ⟨n - (i + 1), by omega, rfl, by omega, p'⟩, fun x H' y => hs i x σ H H' hlt p (F.yld i H x H' hlt q y)⟩
  · have e : i = n := by omega
    subst e
    exact .inl ⟨F.stop H q, hd σ H p⟩

def LcW (J : It) (g : TG) (tt : TT) (te : TE) (vs : List Nat) (σ : L2.St) (Q : VK) (H1 : Hp) : Prop := ∀ D, H1 D = none → ∃ W : Nat → Nat → Hp → Prop, (∃ m, W 0 m (upd H1 D (.lst []))) ∧ ∀ i m H, W i m H →
  (J.stop i H ∧ Q (.ref D) H) ∨ (J.go i H ∧ ∃ Nx : Hp → Prop, (∀ H', Nx H' → ∃ m', m' < m ∧ W (i + 1) m' H') ∧ ∀ x H', J.yld i H x H' → g x (wipe σ vs) H' fun σ2 H2 => wipe σ2 vs = wipe σ vs ∧ tt σ2 H2 fun b H3 =>
    if b = true then te σ2 H3 fun y H4 => ∃ acc, H4 D = some (.lst acc) ∧ acc.length < sizeLine ∧ Nx (upd H4 D (.lst (acc ++ [y]))) else Nx H3)
/-- the readings' ends must be let through: Mono of the parts -/
theorem lc_it {J : It} {n : Nat} {I : Hp → Prop} {Y : Nat → V → Hp → Hp → Prop} (F : Itf J n I Y) {G H1 : Hp} {R : Res} {g : TG} {tt : TT} {te : TE} {vs : List Nat} {σ : L2.St} {Q : VK} (w : Wd G R H1) (hI : ∀ H, Same G H → I H) (hz : n ≤ sizeLine)
    (Pv : Nat → Hp → List V → Prop) (h0 : Pv 0 G [])
    (hs : ∀ i x Gi acc D H H', i < n → Same G Gi → Gi D = none → Pv i Gi acc → acc.length ≤ i → Wd (upd Gi D (.lst acc)) R H → Y i x H H' → g x (wipe σ vs) H' fun σ2 H2 => wipe σ2 vs = wipe σ vs ∧ tt σ2 H2 fun b H3 =>
      if b = true then te σ2 H3 fun y H4 => ∃ acc', H4 D = some (.lst acc') ∧ acc'.length < sizeLine ∧ ((fun H5 => ∃ G4 acc4, Same G G4 ∧ G4 D = none ∧ Pv (i + 1) G4 acc4 ∧ acc4.length ≤ i + 1 ∧ Wd (upd G4 D (.lst acc4)) R H5) (upd H4 D (.lst (acc' ++ [y]))))
      else (fun H5 => ∃ G4 acc4, Same G G4 ∧ G4 D = none ∧ Pv (i + 1) G4 acc4 ∧ acc4.length ≤ i + 1 ∧ Wd (upd G4 D (.lst acc4)) R H5) H3)
    (hd : ∀ D Gn acc H, Same G Gn → Gn D = none → Pv n Gn acc → acc.length ≤ n → Wd (upd Gn D (.lst acc)) R H → Q (.ref D) H) : LcW J g tt te vs σ Q H1 := by
  intro D hD
  refine ⟨fun i m H => m = n - i ∧ i ≤ n ∧ ∃ Gi acc, Same G Gi ∧ Gi D = none ∧ Pv i Gi acc ∧ acc.length ≤ i ∧ Wd (upd Gi D (.lst acc)) R H, ⟨n, by simp, Nat.zero_le _, G, [], Same.refl G, w.free hD, h0, Nat.le_refl _, w.new hD⟩, ?_⟩
  rintro i m H ⟨rfl, hi, Gi, acc, e, nD, p, hl, wi⟩
  have sG : Same G H := Same.trans (Same.trans e (Same.newG nD)) wi.sub
  have q := hI H sG
  by_cases hlt : i < n
  · refine .inr ⟨F.go i H hlt q, fun H5 => ∃ G4 acc4, Same G G4 ∧ G4 D = none ∧ Pv (i + 1) G4 acc4 ∧ acc4.length ≤ i + 1 ∧ Wd (upd G4 D (.lst acc4)) R H5, fun H' p' => ⟨n - (i + 1), by omega, rfl, by omega, p'⟩, fun x H' y => ?_⟩
    exact hs i x Gi acc D H H' hlt e nD p hl wi (F.yld i H x H' hlt q y)
  · have ei : i = n := by omega
    subst ei
    exact .inl ⟨F.stop H q, hd D Gi acc H e nD p hl wi⟩
/-- the turn's end: an item kept -/
theorem lc_keep {G G4 H4 : Hp} {R : Res} {D : Addr} {acc : List V} {y : V} {i n : Nat} {Pv : Nat → Hp → List V → Prop} (w : Wd (upd G4 D (.lst acc)) R H4) (e : Same G G4) (nD : G4 D = none) (hl : acc.length ≤ i) (hi : i < n) (hz : n ≤ sizeLine) (p : Pv (i + 1) G4 (acc ++ [y])) :
    ∃ acc', H4 D = some (.lst acc') ∧ acc'.length < sizeLine ∧ ((fun H5 => ∃ G4 acc4, Same G G4 ∧ G4 D = none ∧ Pv (i + 1) G4 acc4 ∧ acc4.length ≤ i + 1 ∧ Wd (upd G4 D (.lst acc4)) R H5) (upd H4 D (.lst (acc' ++ [y])))) := by
  refine ⟨acc, w.get upd_same, by omega, G4, acc ++ [y], e, nD, p, by rw [List.length_append, List.length_singleton]; omega, ?_⟩
  have := w.set (o' := .lst (acc ++ [y])) upd_same
  rw [upd_upd] at this
  exact this
theorem lc_drop {G G4 H3 : Hp} {R : Res} {D : Addr} {acc : List V} {i : Nat} {Pv : Nat → Hp → List V → Prop} (w : Wd (upd G4 D (.lst acc)) R H3) (e : Same G G4) (nD : G4 D = none) (hl : acc.length ≤ i) (p : Pv (i + 1) G4 acc) :
    (fun H5 => ∃ G4 acc4, Same G G4 ∧ G4 D = none ∧ Pv (i + 1) G4 acc4 ∧ acc4.length ≤ i + 1 ∧ Wd (upd G4 D (.lst acc4)) R H5) H3 := ⟨G4, acc, e, nD, p, by omega, w⟩
theorem upd_comm {G : Hp} {p q : Addr} {o u : HO} (h : q ≠ p) : upd (upd G p o) q u = upd (upd G q u) p o := by
  funext b
  by_cases h1 : b = q
  · subst h1; rw [upd_same, upd_ne h, upd_same]
  · rw [upd_ne h1]
    by_cases h2 : b = p
    · subst h2; rw [upd_same, upd_same]
    · rw [upd_ne h2, upd_ne h2, upd_ne h1]

/-! ### steps -/
section
variable {σ : L2.St} {H : Hp} {Q : VK} {K : PySem.W.Frag} {D : Ends} {tl : TE} {ta : TA} {g : TG} {tb : TS} {tt : TT} {te : TE} {vs : List Nat} {z : Str} {a : Addr} {n lo : Int}
theorem g_forL (k : tl σ H fun x H1 => ∃ a, x = .ref a ∧ (∃ xs, SqL K H1 a xs) ∧ ForW (Itl K a) g tb D σ H1) : tFor (iList K tl) g tb D σ H := k
theorem g_forT (k : tl σ H fun x H1 => ∃ a, x = .ref a ∧ (∃ xs, SqT K H1 a xs) ∧ ForW (Itt K a) g tb D σ H1) : tFor (iTup K tl) g tb D σ H := k
theorem g_forR (k : ta σ H fun vs H1 => ∃ j : Int, vs = [.int j] ∧ -(2 ^ 62) ≤ j ∧ j < 2 ^ 62 ∧ ForW (Itr 0 j.toNat) g tb D σ H1) : tFor (iRng1 ta) g tb D σ H := k
theorem g_forR2 (k : ta σ H fun vs H1 => ∃ i j : Int, vs = [.int i, .int j] ∧ (-(2 ^ 62) ≤ i ∧ i < 2 ^ 62 ∧ -(2 ^ 62) ≤ j ∧ j < 2 ^ 62) ∧ ForW (Itr i (j - i).toNat) g tb D σ H1) : tFor (iRng2 ta) g tb D σ H := k
theorem g_forS (k : tl σ H fun v H1 => ∃ x, v = .str x ∧ ForW (Its x) g tb D σ H1) : tFor (iStr tl) g tb D σ H := k
theorem g_forE (k : ta σ H fun vs H1 => ∃ a xs, vs = [.ref a] ∧ SqL K H1 a xs ∧ ForW (Ite K a) g tb D σ H1) : tFor (iEnum K ta) g tb D σ H := k
theorem g_lcL (k : tl σ H fun x H1 => ∃ a, x = .ref a ∧ (∃ xs, SqL K H1 a xs) ∧ LcW (Itl K a) g tt te vs σ Q H1) : tLc (iList K tl) g tt te vs σ H Q := k
theorem g_lcT (k : tl σ H fun x H1 => ∃ a, x = .ref a ∧ (∃ xs, SqT K H1 a xs) ∧ LcW (Itt K a) g tt te vs σ Q H1) : tLc (iTup K tl) g tt te vs σ H Q := k
theorem g_lcR (k : ta σ H fun us H1 => ∃ j : Int, us = [.int j] ∧ -(2 ^ 62) ≤ j ∧ j < 2 ^ 62 ∧ LcW (Itr 0 j.toNat) g tt te vs σ Q H1) : tLc (iRng1 ta) g tt te vs σ H Q := k
theorem g_lcS (k : tl σ H fun v H1 => ∃ x, v = .str x ∧ LcW (Its x) g tt te vs σ Q H1) : tLc (iStr tl) g tt te vs σ H Q := k
theorem g_lcE (k : ta σ H fun us H1 => ∃ a xs, us = [.ref a] ∧ SqL K H1 a xs ∧ LcW (Ite K a) g tt te vs σ Q H1) : tLc (iEnum K ta) g tt te vs σ H Q := k
theorem g_orT {t1 t2 : TE} (k : t1 σ H fun x H1 => ∃ b, TruV K x H1 b ∧ if b = true then Q x H1 else t2 σ H1 Q) : tOrT K t1 t2 σ H Q := k
theorem g_slc {r : V → Option Int → Option Int → Hp → VK → Prop} {t1 : TE} {tlo thi : TO} (k : t1 σ H fun x H1 => tlo σ H1 fun l H2 => thi σ H2 fun u H3 => r x l u H3 Q) : L2.tSl r t1 tlo thi σ H Q := k
theorem g_noPart {P : Option Int → Hp → Prop} (k : P none H) : tNoPart σ H P := k
theorem g_part {t1 : TE} {P : Option Int → Hp → Prop} (k : t1 σ H fun x H1 => ∃ i, x = .int i ∧ P (some i) H1) : tPart t1 σ H P := k
theorem g_bm {T : String} {r : V → List V → Hp → VK → Prop} {t1 : TE} {tr : TA} (k : t1 σ H fun x H1 => tyV K T x H1 ∧ tr σ H1 fun xs H2 => r x xs H2 Q) : tBM K T r t1 tr σ H Q := k
theorem g_par {i j : Nat} {tr : TA} (k : tr σ H fun vs H1 => ∃ v w, vs = [v, w] ∧ D.nx ((σ.set i (some v)).set j (some w)) H1) : tPar i j tr D σ H := k
theorem g_yes {P : Bool → Hp → Prop} (k : P true H) : tYes σ H P := k
theorem g_tupG {m : Nat} {v : V} {t : TGs} {P : L2.St → Hp → Prop} (k : ∃ a xs, v = .ref a ∧ SqT K H a xs ∧ xs.length = m ∧ t xs σ H P) : gTup K m t v σ H P := k
theorem g_gcons {t : TG} {u : TGs} {v : V} {r : List V} {P : L2.St → Hp → Prop} (k : t v σ H fun σ' H' => u r σ' H' P) : gCons t u (v :: r) σ H P := ⟨v, r, rfl, k⟩
theorem g_gnil {P : L2.St → Hp → Prop} (k : P σ H) : gNil [] σ H P := ⟨rfl, k⟩
theorem g_chain {r r' : R2} {t1 t2 t3 : TE} (k : t1 σ H fun x H1 => t2 σ H1 fun y H2 => r x y H2 fun z H3 => ∃ k, z = .bl k ∧ (if k = true then t3 σ H3 fun w' H4 => r' y w' H4 Q else Q (.bl false) H3)) : tChain r r' t1 t2 t3 σ H Q := k
theorem g_truB {b : Bool} {P : Bool → Prop} (k : P b) : ∃ c, TruV K (.bl b) H c ∧ P c := ⟨b, rfl, k⟩
theorem g_truN {P : Bool → Prop} (k : P false) : ∃ c, TruV K .non H c ∧ P c := ⟨false, rfl, k⟩
theorem g_truI {i : Int} {P : Bool → Prop} (k : P (i != 0)) : ∃ c, TruV K (.int i) H c ∧ P c := ⟨_, rfl, k⟩
theorem g_truS {y : Str} {P : Bool → Prop} (hz : y.length ≤ sizeLine) (k : P ((y.length : Int) != 0)) : ∃ c, TruV K (.str y) H c ∧ P c := ⟨_, ⟨hz, rfl⟩, k⟩
theorem g_truL {G : Hp} {R : Res} {xs : List V} {P : Bool → Prop} (w : Wd G R H) (h : SqL K G a xs) (k : P (!xs.isEmpty)) : ∃ c, TruV K (.ref a) H c ∧ P c := ⟨_, .inl ⟨xs, Evl.ex_l w.sub h, rfl⟩, k⟩
theorem g_truT {G : Hp} {R : Res} {xs : List V} {P : Bool → Prop} (w : Wd G R H) (h : SqT K G a xs) (k : P (!xs.isEmpty)) : ∃ c, TruV K (.ref a) H c ∧ P c := ⟨_, .inr (.inl ⟨xs, Evl.ex_t w.sub h, rfl⟩), k⟩
theorem g_isi {x c : V} {t u : Value} {b : Bool} (hc : ClsV c u) (ht : TyX K H x t) (hk : PySem.W.kitOne K t u = some b) (k : Q (.bl b) H) : rIsi K [x, c] H Q := ⟨x, c, t, u, b, rfl, hc, ht, hk, k⟩
theorem g_isN {x : V} (k : Q (.bl (decide (x = .non))) H) : (fun x y H Q => y = V.non ∧ Q (.bl (decide (x = .non))) H : R2) x .non H Q := ⟨rfl, k⟩
theorem g_isnN {x : V} (k : Q (.bl (!decide (x = .non))) H) : (fun x y H Q => y = V.non ∧ Q (.bl (!decide (x = .non))) H : R2) x .non H Q := ⟨rfl, k⟩
theorem g_all {G : Hp} {R : Res} {bs : List Bool} (w : Wd G R H) (h : SqL K G a (bs.map V.bl)) (k : Q (.bl (bs.all id)) H) : rAll K [.ref a] H Q := ⟨a, bs, rfl, Evl.ex_l w.sub h, k⟩
theorem g_m1 {r : V → List V → Hp → VK → Prop} {t1 t2 : TE} (k : t1 σ H fun x H1 => (∃ a, x = .str a) ∧ t2 σ H1 fun y H2 => r x [y] H2 Q) : tM1 r t1 t2 σ H Q := k
theorem g_fld {t1 : TE} {f : Str} (k : t1 σ H fun x H1 => ∃ a C dx fs v, x = .ref a ∧ H1 a = some (.ins C dx fs) ∧ Cls K C ∧ NoAttr K C f ∧ fs.lookup f = some v ∧ Q v H1) : tFld K t1 f σ H Q := k
theorem g_con {t1 : TE} {f : Str} (k : t1 σ H fun x H1 => ∃ a C dx fs v u, x = .ref a ∧ H1 a = some (.ins C dx fs) ∧ Cls K C ∧ Con K C f v u ∧ fs.lookup f = none ∧ Q v H1) : tCon K t1 f σ H Q := k
/-- a list comprehension of values: each item gives one or is left out, no new object is kept -/
def FmStep (f : V → Option V) (x : V) (g : TG) (tt : TT) (te : TE) (vs : List Nat) (σ : L2.St) (G' : Hp) (R : Res) (H : Hp) : Prop :=
  g x (wipe σ vs) H fun σ2 H2 => wipe σ2 vs = wipe σ vs ∧ tt σ2 H2 fun b H3 => if b = true then te σ2 H3 fun y H4 => f x = some y ∧ Wd G' R H4 else f x = none ∧ Wd G' R H3
theorem filterMap_take {f : V → Option V} {xs : List V} {i : Nat} {x : V} (h : xs[i]? = some x) : (xs.take (i + 1)).filterMap f = (xs.take i).filterMap f ++ (match f x with | some y => [y] | none => []) := by
  rw [List.take_succ, h, List.filterMap_append]
  congr 1
  simp only [Option.toList_some, List.filterMap_cons, List.filterMap_nil]
  cases f x <;> rfl
end
/-- readings that pass on what is wanted (all of ours do) -/
def MonG (g : TG) : Prop := ∀ (v : V) (σ : L2.St) (H : Hp) (P P' : L2.St → Hp → Prop), (∀ σ H, P σ H → P' σ H) → g v σ H P → g v σ H P'
def MonT (t : TT) : Prop := ∀ (σ : L2.St) (H : Hp) (P P' : Bool → Hp → Prop), (∀ b H, P b H → P' b H) → t σ H P → t σ H P'
def MonE (t : TE) : Prop := ∀ (σ : L2.St) (H : Hp) (P P' : VK), (∀ v H, P v H → P' v H) → t σ H P → t σ H P'
end Sw

set_option Elab.async false
set_option linter.all false
set_option maxRecDepth 100000
set_option maxHeartbeats 4000000
namespace Sw
open PySem PySem.Spec PyProof.Rows L2

/-! ### a, b, *c = e, e a list -/
section
variable {X : Cx} {pos : Pos}
theorem pgs_star {e : Expr} {es : List Expr} {t : TG} {u : TGs} {p : Pos} (h1 : PG X e t) (h2 : PGs X es u) (hs : (assignEach (.Starred e p :: es) X.env).map (·.2) = assign e X.env :: (assignEach es X.env).map (·.2) := by rfl) : PGs X (.Starred e p :: es) (gCons t u) := by
  refine ⟨fun pins s σ H vs us Q I r h => ?_⟩
  obtain ⟨v, vr, e1, h⟩ := h
  subst e1
  cases r with
  | cons r rr =>
    rw [hs]
    refine assignInOrder_cons (thn (h1.run pins s σ H _ _ _ I r h) fun _ s1 ⟨σ1, H1, I1, q1⟩ => ?_)
    exact h2.run pins s1 σ1 H1 _ _ Q I1 rr q1
/-- the list's items: the first i, a new list of the middle ones, the last ones (n targets) -/
def gStarL (K : PySem.W.Frag) (n i : Nat) (t : TGs) : TG := fun v σ H Q => ∃ a xs, v = .ref a ∧ SqL K H a xs ∧ n ≤ xs.length + 1 ∧ xs.length ≤ 16384 ∧ ∀ p, H p = none → t (xs.take i ++ [.ref p] ++ (xs.drop i).drop (xs.length + 1 - n)) σ (upd H p (.lst ((xs.drop i).take (xs.length + 1 - n)))) Q
theorem vals_take {vs : List V} {us : List Value} (h : Vals vs us) : ∀ n, Vals (vs.take n) (us.take n) := by
  induction h with
  | nil => intro n; simp only [List.take_nil]; exact .nil
  | cons r _ ih =>
    intro n
    cases n with
    | zero => exact .nil
    | succ n => exact .cons r (ih n)
theorem vals_drop {vs : List V} {us : List Value} (h : Vals vs us) : ∀ n, Vals (vs.drop n) (us.drop n) := by
  induction h with
  | nil => intro n; simp only [List.drop_nil]; exact .nil
  | cons r h ih =>
    intro n
    cases n with
    | zero => exact .cons r h
    | succ n => exact ih n
theorem pg_starL {es : List Expr} {k : Nat} {t : TGs} {n i : Nat} (hc : X.calm = true) (h : PGs X es t) (hi : i < n)
    (hn : (assignEach es X.env).length = n := by rfl) (hst : (assignEach es X.env).findIdx? (·.1) = some i := by rfl) : PG X (.Tuple es k pos) (gStarL X.K n i t) := by
  refine ⟨fun pins s σ H v u Q I r hw => ?_⟩
  obtain ⟨a, xs, e1, hq, hl, hm, hw⟩ := hw
  subst e1
  cases r
  obtain ⟨its, rv, pl, hz⟩ := I.list hq
  have hlen : its.length = xs.length := rv.length.symm
  rw [PyProof.Rows.assign_Tuple]
  refine wpAny_bind (wpAny_standAt ?_)
  unfold unpack
  rw [hn, hst]
  have hl0 := pl.isList
  have hlt : a ≠ s.heap.objs.size := by obtain ⟨o, ho, _⟩ := hl0; exact Nat.ne_of_lt (Heap.lt_size ho)
  refine wpAny_bind (wpAny_holding ?_)
  have hsz : its.toArray.size = its.length := by simp
  unfold unpackItems
  refine wpAny_bind ?_
  unfold notIterableAtAll
  refine wpAny_bind (wpAny_specialOf hl0.typeIs PySem.F.slot_list_iter.lookup ?_)
  refine wpAny_pure ?_
  simp only [Bool.false_eq_true, if_false]
  refine wpAny_bind (wpAny_holding (wpAny_pyIter_list hl0 ?_))
  refine wpAny_bind (wpAny_holding (PySem.W.kun_draw hlt i 0 _ _ ⟨_, Heap.get?_push_size _ rfl, rfl, rfl⟩ (hl0.push _) (by rw [hsz]; omega) fun h₁ hit₁ hs₁ => ?_))
  have hl₁ : h₁.IsList a its.toArray := (hl0.push _).extBut hs₁.extBut hlt
  rw [Nat.zero_add] at hit₁
  have hit₁' := hit₁
  obtain ⟨oi, hoi, _⟩ := hit₁'
  have hl₁' := hl₁
  obtain ⟨ol, hol, _⟩ := hl₁'
  rw [List.drop_zero]
  have hfl : (its.toArray.toList.take i).length = i := by rw [List.length_take, Array.length_toList]; omega
  rw [if_neg (show ¬ ((its.toArray.toList.take i).length < i) by rw [hfl]; omega)]
  refine wpAny_bind (wpAny_holding (PySem.W.kun_collect (s := { s with heap := h₁ }) (T := "list_iterator") (.inr (.inr (.inl rfl))) (Walks.list (A := X.A.in1) (I.ok.hd hc) s.heap.objs.size a hlt its.toArray) (fun j u st => st.1.typeIs) (k := i) (by omega) ⟨hit₁, hl₁⟩ (Heap.lt_size hoi) (Heap.lt_size hol) (fun h₂ tk hk => ?_) (by rw [sizeLine_eq, hsz]; omega)))
  have hrl : (its.toArray.toList.drop i).length = its.length - i := by rw [List.length_drop, Array.length_toList, hsz]
  have hmid : (its.toArray.toList.drop i).length - (n - 1 - i) = xs.length + 1 - n := by rw [hrl]; omega
  show wpAny _ _ (if (its.toArray.toList.drop i).length < n - 1 - i then _ else _) _ _ _
  rw [if_neg (by rw [hrl]; omega)]
  show wpAny _ _ (newList ((its.toArray.toList.drop i).take ((its.toArray.toList.drop i).length - (n - 1 - i))) >>= fun d => pure (its.toArray.toList.take i ++ [d] ++ (its.toArray.toList.drop i).drop ((its.toArray.toList.drop i).length - (n - 1 - i)))) _ _ _
  rw [hmid]
  have hto : its.toArray.toList = its := by simp
  rw [hto]
  have I2 : Inv X pins σ H { s with heap := h₂, toks := tk } := I.kept (t' := tk) fun b o e => hk b o (Nat.ne_of_lt (Heap.lt_size e)) (hs₁.extBut b o (Nat.ne_of_lt (Heap.lt_size e)) (Heap.get?_push_of_some _ e))
  have rmid : Vals ((xs.drop i).take (xs.length + 1 - n)) ((its.drop i).take (xs.length + 1 - n)) := vals_take (vals_drop rv i) _
  have zmid : ((its.drop i).take (xs.length + 1 - n)).length ≤ sizeLine := by rw [List.length_take, List.length_drop, sizeLine_eq]; omega
  refine wpAny_bind (wpAny_newList (s := { s with heap := h₂, toks := tk }) (wpAny_pure ?_) zmid)
  have hf : H h₂.objs.size = none := I2.hok.fresh (Nat.le_refl _)
  have I3 : Inv X pins σ (upd H h₂.objs.size (.lst ((xs.drop i).take (xs.length + 1 - n)))) ⟨h₂.push { cls := .type "list", data := .seq ((its.drop i).take (xs.length + 1 - n)).toArray }, s.gens, s.drawn, tk, s.os⟩ :=
    Inv.laid (s := { s with heap := h₂, toks := tk }) (t' := tk) I2 (fun b u e => Heap.get?_push_of_some _ e) (Nat.le_refl _) ⟨by rw [List.length_take, List.length_drop, sizeLine_eq]; omega, _, 0, rmid, Heap.get?_push_size _ rfl⟩
  exact h.run pins _ σ _ _ _ Q I3 (((vals_take rv i).append (show Vals [V.ref h₂.objs.size] [Value.ref h₂.objs.size] from .cons rfl .nil)).append (vals_drop (vals_drop rv i) _)) (hw _ hf)
theorem kg_starL {es : List Expr} {k : Nat} {t : TGs} {n i : Nat} (K : PySem.W.Frag) (hc : X.calm = true) (h : PGs X es t) (hi : i < n) (hK : X.K = K := by rfl)
    (hn : (assignEach es X.env).length = n := by rfl) (hst : (assignEach es X.env).findIdx? (·.1) = some i := by rfl) : PG X (.Tuple es k pos) (gStarL K n i t) := by subst hK; exact pg_starL hc h hi hn hst
end

theorem kg_tup {X : Cx} {pos : Pos} {es : List Expr} {k : Nat} {t : TGs} {n : Nat} (K : PySem.W.Frag) (hc : X.calm = true) (h : PGs X es t) (hK : X.K = K := by rfl)
    (hn : (assignEach es X.env).length = n := by rfl) (hst : (assignEach es X.env).findIdx? (·.1) = none := by rfl) : PG X (.Tuple es k pos) (gTup K n t) := by subst hK; exact pg_tup hc h hn hst

/-! ### except (A, B): -/
theorem flyingZ_keeps {B : Heap} {l : List Env} {e : Addr} {Z : Obj → Prop} {h h' : Heap} (R : HandSPX.FlyingZ B l e Z h) (k : ∀ b o, h.get? b = some o → h'.get? b = some o) : HandSPX.FlyingZ B l e Z h' := by
  obtain ⟨f1, f2, f3, oe, ws, T, oT, ts, he, hc, hd, h1, hn, hne, hT, hdT, h3⟩ := R
  exact ⟨fun b o q => k b o (f1 b o q), f2, f3.of_keeps fun b o q _ => ⟨o, k b o q, rfl⟩, oe, ws, T, oT, ts, k _ _ he, hc, hd, h1, hn, hne, k _ _ hT, hdT, h3⟩
def wTwo (K : PySem.W.Frag) (c1 c2 : Value) (ts : Addr → Value → Option Addr → TS) (Wout : WX) (D : Ends) : WX := fun cls d σ H =>
  ∃ b, PySem.W.exmAny K cls [c1, c2] = some b ∧ (b = true → ∀ a, H a = none → ts a cls d D σ H) ∧ (b = false → Wout cls d σ H)
section
variable {X : Cx} {x y : Str} {c c' : Value} {body suite : List Stmt} {b₀ : Stmt} {np np' tp pos pos' : Pos} {kx : Nat} {tb : WX → TS} {ts : Addr → Value → Option Addr → TS} {Wout : WX}
theorem ps_try_two (hs : X.stack = X.env :: X.outer) (hf : X.env.frame = some X.env.locals) (hc : Names X x c) (hc' : Names X y c') (tk : Takes X Wout)
    (hb : ∀ (W : WX) (pn : List (Addr × Obj)) (xe : Value → Shared → Prop), Takes (X.tr pn xe) W → PassesOwn (model X.prog X.w) X.A X.env xe → PSs (X.tr pn xe) body (tb W))
    (hsu : ∀ (a : Addr) (oe : Obj) (cls : Value) (d : Option Addr) (pn : List (Addr × Obj)), Zc cls d oe → (∃ vs, oe.data = .fields vs) → PSs (X.suite a ((a, oe) :: pn)) (b₀ :: suite) (ts a cls d)) :
    PS X (.Try body [.ExceptHandler (some (.Tuple [.Name x np, .Name y np'] kx tp)) none (b₀ :: suite) pos'] [] [] pos) (fun D σ H => tb (wTwo X.K c c' ts Wout D) D σ H) := by
  refine ⟨fun pins s σ H D I h => ?_⟩
  have ok := I.ok
  have hfr : X.A.frames = some (X.env :: X.outer) := by rw [ok.frames, hs]
  refine wpAny_Try_except ?_
  refine wpAny_mono ((hb (wTwo X.K c c' ts Wout D) (X.pn ++ pins) (fun e s₁ => wpAny (model X.prog X.w) X.A (noteFrame e X.env) (fun _ s₂ => wpAny (model X.prog X.w) X.A (setFlight e none) (fun _ s₃ =>
    wpAny (model X.prog X.w) X.A (handleBy e X.env [.ExceptHandler (some (.Tuple [.Name x np, .Name y np'] kx tp)) none (b₀ :: suite) pos']) (SP X pins D) X.xe s₃) X.xe s₂) X.xe s₁) (fun u s' xx => ?_) PassesOwn.looking).run [] s σ H D (I.toTry _) h) (fun f s1 hsp => ?_) (fun e s1 he => he)
  · obtain ⟨a, B, sI, pins', σ', H', cls, d, rfl, J', nb, up, sky, na, os, ag, b, hb1, hyes, hno⟩ := xx
    have J : Inv X pins σ' H' sI := J'.ofTry ok
    have sky' : Sky B (X.env :: X.outer) a (Zc cls d) X.env.locals s'.heap := by rw [← hs]; exact sky
    show wpAny (model X.prog X.w) X.A (noteFrame (.ref a) X.env) _ _ _
    refine Sky.land Zc.steady hfr hf sky' fun h3 fl3 up3 => ?_
    have J3 : Inv X pins σ' H' { s' with heap := h3 } := J.landed nb fl3.1 (up.trans up3) os ag
    obtain ⟨oe3, vs3, he3, hz3, hd3⟩ := fl3.there
    have notFr : ∀ {h : Heap} {o : Obj} {vs : Array Value}, h.FunFrames B (X.env :: X.outer) → h.get? a = some o → o.data = .fields vs → a ∉ frs (X.env :: X.outer) := fun {h o vs} ff e dd hm => by
      obtain ⟨_, o', e', hnf⟩ := ff.mem hm
      rw [e] at e'; cases e'
      exact hnf _ dd
    have nfr := notFr fl3.2.2.1 he3 hd3
    have nL : a ≠ X.env.locals := fun z => nfr (List.mem_filterMap.mpr ⟨X.env, List.mem_cons_self, by rw [hf, z]⟩)
    have nF : a ∉ X.fs := fun hm => by
      obtain ⟨e, he, q⟩ := List.mem_filterMap.mp hm
      exact nfr (List.mem_filterMap.mpr ⟨e, List.mem_cons_of_mem _ he, q⟩)
    have S3 := J3.suite he3 hd3 na nL nF
    refine wpAny_handleBy_cons (codeAny_handlers_test ?_) (by intro q; cases q)
    have test : ∀ {x : Str} {c : Value} {np : Pos} {Q : Value → Shared → Prop} {E : Value → Shared → Prop}, Names X x c → Q c { s' with heap := h3 } → wpAny (model X.prog X.w) (X.A.mark (some (.ref a))) (eval (.Name x np) X.env) Q E { s' with heap := h3 } := fun {x c np Q E} hc q => by
      obtain ⟨hg, hdbg, hm | ⟨hm, hv, hnn⟩⟩ := hc
      · exact ld_glob (X := X.suite a ((a, oe3) :: (X.pn ++ pins))) S3 hg hm q hdbg
      · exact ld_blt (X := X.suite a ((a, oe3) :: (X.pn ++ pins))) S3 hg hm hv q hnn hdbg
    have e1 : starEach [.Name x np, .Name y np'] X.env = (false, eval (.Name x np) X.env) :: starEach [.Name y np'] X.env := rfl
    have e2 : starEach [.Name y np'] X.env = (false, eval (.Name y np') X.env) :: starEach [] X.env := rfl
    refine wpAny_Tuple_spliced (args_cons (test hc (args_cons (test hc' (args_nil ⟨by rw [sizeLine_eq]; show 2 ≤ 16777216; decide, ?_⟩)) e2)) e1)
    have k3 : ∀ b o, h3.get? b = some o → (h3.push ({ cls := .type "tuple", data := .seq [c, c'].toArray } : Obj)).get? b = some o := fun b o e => Heap.get?_push_of_some _ e
    have hp : (h3.push ({ cls := .type "tuple", data := .seq [c, c'].toArray } : Obj)).get? h3.objs.size = some ({ cls := .type "tuple", data := .seq [c, c'].toArray } : Obj) := Heap.get?_push_size _ rfl
    have fl3' := flyingZ_keeps fl3 k3
    have up3' := up3.trans (Heap.UpToSlots.of_keeps k3)
    have J3' : Inv X pins σ' H' { s' with heap := h3.push ({ cls := .type "tuple", data := .seq [c, c'].toArray } : Obj) } := J.landed nb fl3'.1 (up.trans up3') os ag
    show wpAny _ _ (excMatches (.ref a) (.ref h3.objs.size)) _ _ { s' with heap := h3.push ({ cls := .type "tuple", data := .seq [c, c'].toArray } : Obj) }
    generalize h3.push ({ cls := .type "tuple", data := .seq [c, c'].toArray } : Obj) = h5 at *
    have LT : PySem.W.Looks (model X.prog X.w) h5 (typeOf (.ref a)) cls := fun A Q E s k q => wpAny_typeOf_ref (k _ _ (k3 _ _ he3)) (by rw [hz3.1]; exact q)
    have LM := PySem.W.exm_tup2 (M := model X.prog X.w) (J3'.kIn) LT hp hb1
    refine LM.here ?_
    cases b with
    | true =>
      refine codeAny_handlers_suite ?_
      refine HandSPX.lands_againZ fl3' fun h4 fl4 up4 => ?_
      have J4 : Inv X pins σ' H' { s' with heap := h4 } := J.landed nb fl4.1 ((up.trans up3').trans up4) os ag
      obtain ⟨oe4, vs4, he4, hz4, hd4⟩ := fl4.there
      have S4 := J4.suite he4 hd4 na nL nF
      refine wpAny_mono ((hsu a oe4 cls d (X.pn ++ pins) hz4 ⟨_, hd4⟩).run [] _ _ H' _ S4 (hyes rfl a na)) (fun f s6 hsp => ?_) (fun _ _ z => False.elim z)
      cases f with
      | next =>
        obtain ⟨σ6, H6, S6, q6⟩ := hsp
        exact ⟨_, _, S6.unsuite ok, q6⟩
      | brk =>
        obtain ⟨σ6, H6, S6, q6⟩ := hsp
        exact ⟨_, _, S6.unsuite ok, q6⟩
      | cont =>
        obtain ⟨σ6, H6, S6, q6⟩ := hsp
        exact ⟨_, _, S6.unsuite ok, q6⟩
      | ret u =>
        obtain ⟨v6, σ6, H6, S6, r6, q6⟩ := hsp
        exact ⟨_, _, _, S6.unsuite ok, r6, q6⟩
    | false =>
      show wpAny _ X.A (handleBy (.ref a) X.env []) _ _ _
      refine wpAny_handleBy_nil ?_
      obtain ⟨k1, k2, k4, oe, vs, T, oT, ts', he, hz, hd, h1, hr⟩ := id fl3'
      unfold PySem.passOn
      refine wpAny_bind (wpAny_field he hd h1 ?_)
      rw [if_neg (show ¬ ((Value.ref T == Value.none) = true) from by simp)]
      have fin : wpAny (model X.prog X.w) X.A (setFlight (.ref a) X.env.frame) (fun _ s4 => wpAny (model X.prog X.w) X.A (throw (.ref a) : Sem Flow) (SP X pins D) X.xe s4) X.xe { s' with heap := h5 } := by
        rw [hf]
        refine HandSPX.setFlight_upZ fl3' fun h4 hh4 up4 => wpAny_throw (tk _ _ ?_)
        exact ⟨a, B, sI, pins, σ', H', cls, d, rfl, J, nb, (up.trans up3').trans up4, .inr (.inr (by rw [hs]; exact hh4)), na, os, ag, hno rfl⟩
      first
        | exact wpAny_bind (wpAny_pure (wpAny_bind fin))
        | exact wpAny_bind fin
  · cases f with
    | next =>
      obtain ⟨σ', H', J', q⟩ := hsp
      exact wpAny_execs_nil ⟨σ', H', J'.ofTry ok, q⟩
    | brk =>
      obtain ⟨σ', H', J', q⟩ := hsp
      exact ⟨σ', H', J'.ofTry ok, q⟩
    | cont =>
      obtain ⟨σ', H', J', q⟩ := hsp
      exact ⟨σ', H', J'.ofTry ok, q⟩
    | ret u =>
      obtain ⟨v, σ', H', J', r, q⟩ := hsp
      exact ⟨v, σ', H', J'.ofTry ok, r, q⟩
end

/-! ### C.m(..), m a staticmethod -/
structure CStat (K : PySem.W.Frag) (C : Addr) (mc : Value) (m : Str) (p g : Addr) : Prop where
  at_ : PySem.W.findCls K (.ref C) mc m = some (.get (.builtin "staticmethod.__get__") (.ref p) .none (.ref C))
  rc : ∃ rest, PySem.W.recIn K p "staticmethod" = some (.ref g :: rest)
  fi : PySem.W.keepIn K (.ref g) = true
/-- a static method of the class whose global name is x -/
structure GSt (P : Program) (w : World) (K : PySem.W.Frag) (mg : Str → Option Value) (base : Heap) (k : Nat) (x : Str) (m : Str) (n : Nat) (ks : List Str) (sp : SpC) : Prop where
  ex : ∃ C mc p g, mg x = some (.ref C) ∧ ClX.CRead K C mc ∧ CStat K C mc m p g ∧ Cal P w K mg base k g n ks sp
section
variable {X : Cx} {k n : Nat} {ks : List Str} {sp : SpC} {W : WX} {x m : Str} {np pos apos : Pos} {e : Expr} {es : List Expr} {kws : List Keyword} {t tk : TA} {pl : Sem Bool}
theorem pe_static (G : GSt X.prog X.w X.K X.mg X.base k x m n ks sp) (hr : Room k X.A) (tw : Takes X W) (ha : PA X (e :: es) t) (hkw : PK X kws tk) (hg : Gl X x := by rfl)
    (hall : (backToKw pos (keywordEach kws X.env)).all (·.1.isSome) = true := by rfl) (hks : (backToKw pos (keywordEach kws X.env)).filterMap (·.1) = ks := by rfl) (hdb : (x == ("__debug__" : Str)) = false := by decide)
    (hst : starEach (e :: es) X.env = (false, eval e X.env) :: starEach es X.env := by rfl) (hpl : ((backTo pos (starEach (e :: es) X.env)).any (·.1) || (backToKw pos (keywordEach kws X.env)).any (·.1.isNone)) = false := by rfl)
    (ht : eval (.Call (.Attribute (.Name x np) m apos) (e :: es) kws pos) X.env = (do
      let ov ← eval (.Name x np) X.env
      standAt apos.atName
      let (f, first) ← holding [ov] (getMethod ov m pl)
      callWith pos f first (backTo pos (starEach (e :: es) X.env)) (backToKw pos (keywordEach kws X.env))) := by rfl) :
    PE X (.Call (.Attribute (.Name x np) m apos) (e :: es) kws pos) (tCalG n ks.length sp W t tk) := by
  refine ⟨fun pins s σ H Q I h => ?_⟩
  obtain ⟨C, mc, p, g, hm, r, c, F⟩ := G.ex
  obtain ⟨rest, hp⟩ := c.rc
  refine PySem.W.methodCall_KW (pl := pl) (ld_glob I hg hm ?_ hdb) ht
  refine PySem.W.method_cls I.kIn r.ga (PySem.W.cls_bind I.kIn r.rd c.at_ (wpAny_call (PySem.W.sm_get (s := { s with toks := s.toks + 1 }) I.kIn hp (PySem.W.handed_on (s := { s with toks := s.toks + 1 }) rfl ?_))))
  have I2 := I.tok (s.toks + 1)
  refine PySem.W.callWith_KW (h₀ := X.base) I.ok.mod.kin c.fi hall (thn (ha.run pos pins _ σ H _ I2 h) fun us s2 ⟨vs, H2, I2, r, q⟩ => ?_) hpl hst
  refine thn (hkw.run pos pins s2 σ H2 _ I2 q) fun ws s3 ⟨zs, H3, I3, rz, l1, l2, q3⟩ => ⟨I3.kIn, ?_⟩
  rw [hks]
  exact wpAny_call (run_cal F hr tw I3 r rz l1 l2 q3)
end

/-! ### target = e, e with super() -/
section
variable {X : Cx} {body : List Stmt} {pos : Pos}
theorem pst_asg {tg e : Expr} {te : TE} {g : TG} (he : PEt X body e te) (hg : PG X tg g) (hs : swapsWithSole [tg] e pos.line X.env = pure false := by rfl) (hw : swappedStores [tg] e X.env = pure none := by rfl)
    (h1 : (assignEach [tg] X.env).map (·.2) = [assign tg X.env] := by rfl) : PSt X body (.Assign [tg] e pos) (tAsg te g) := by
  refine ⟨fun pins s σ H D I h => ?_⟩
  rw [exec_Assign_arm]
  refine PySem.wpAt_bind (wpAt_of_wpAny (wpAny_standAt ?_))
  rw [hs]
  refine PySem.wpAt_bind (wpAt_of_wpAny (wpAny_pure ?_))
  rw [if_neg (by decide)]
  refine PySem.wpAt_bind (ks_wpAt_mono (he.run pins s σ H _ I h) (fun v s1 ⟨x, H1, I1, r1, q1⟩ => ?_) fun _ _ x => x)
  rw [hw]
  refine wpAt_of_wpAny (wpAny_bind (wpAny_pure ?_))
  show wpAny _ _ (do assignAll v ((assignEach [tg] X.env).map (·.2)); pure Flow.next) _ _ _
  refine wpAny_bind ?_
  rw [h1]
  exact thn (hg.run pins s1 σ H1 x v _ I1 r1 q1) fun _ s2 q => wpAny_pure q
end

/-! ### o.f = e; steps -/
section
variable {G H : Hp} {R : Res} {K : PySem.W.Frag} {f : Str} {v : V} {a C dx : Addr} {fs : List (Str × V)}
/-- the end of o.f = e -/
theorem g_sf {P : Hp → Prop} (w : Wd G R H) (h : G a = some (.ins C dx fs)) (hc : Cls K C) (hn : NoAttr K C f) (hl : fs.length < 1000) (k : ∀ H', Wd (upd G a (.ins C dx (putF f v fs))) R H' → P H') :
    ∃ a' C' dx' fs', V.ref a = .ref a' ∧ H a' = some (.ins C' dx' fs') ∧ Cls K C' ∧ NoAttr K C' f ∧ fs'.length < 1000 ∧ P (upd H a' (.ins C' dx' (putF f v fs'))) :=
  ⟨a, C, dx, fs, rfl, w.get h, hc, hn, hl, k _ (w.set h)⟩
/-- the end of o.f -/
theorem g_gf {P : V → Prop} (w : Wd G R H) (h : G a = some (.ins C dx fs)) (hc : Cls K C) (hn : NoAttr K C f) (hf : fs.lookup f = some v) (k : P v) :
    ∃ a' C' dx' fs' v', V.ref a = .ref a' ∧ H a' = some (.ins C' dx' fs') ∧ Cls K C' ∧ NoAttr K C' f ∧ fs'.lookup f = some v' ∧ P v' := ⟨a, C, dx, fs, v, rfl, w.get h, hc, hn, hf, k⟩
/-- the end of o.f, a constant of its class -/
theorem g_gc {P : V → Prop} {u : Value} (w : Wd G R H) (h : G a = some (.ins C dx fs)) (hc : Cls K C) (hn : Con K C f v u) (hf : fs.lookup f = none) (k : P v) :
    ∃ a' C' dx' fs' v' u', V.ref a = .ref a' ∧ H a' = some (.ins C' dx' fs') ∧ Cls K C' ∧ Con K C' f v' u' ∧ fs'.lookup f = none ∧ P v' := ⟨a, C, dx, fs, v, u, rfl, w.get h, hc, hn, hf, k⟩
end
def rInt1 : List V → Hp → VK → Prop := fun xs H Q => (∃ i, xs = [.int i] ∧ Q (.int i) H) ∨ ∃ k, xs = [.bl k] ∧ Q (.int (if k = true then 1 else 0)) H
theorem ka_int {X : Cx} : CallR X (.type "int") rInt1 := call_int1
theorem g_intB {H : Hp} {Q : VK} {b : Bool} (k : Q (.int (if b = true then 1 else 0)) H) : rInt1 [.bl b] H Q := .inr ⟨b, rfl, k⟩
theorem g_intI {H : Hp} {Q : VK} {i : Int} (k : Q (.int i) H) : rInt1 [.int i] H Q := .inl ⟨i, rfl, k⟩
theorem putF_nil {f : Str} {v : V} : putF f v [] = [(f, v)] := rfl
section
variable {σ : L2.St} {H : Hp} {Q : VK} {K : PySem.W.Frag} {D : Ends} {G : Hp} {R : Res} {te to : TE} {ta tk : TA} {f m : Str} {a C dx : Addr} {fs : List (Str × V)} {v : V} {W : WX} {n k : Nat} {ks : List Str} {sp : SpC} {P : Program} {wo : World} {mg : Str → Option Value} {base : Heap}
theorem g_meth {t : TA} (k0 : te σ H fun x H1 => ∃ a C dx fs sp, x = .ref a ∧ H1 a = some (.ins C dx fs) ∧ fs.lookup m = none ∧ GMt P wo K mg base k C m n ks sp ∧ t σ H1 fun vs H2 => tk σ H2 fun zs H3 => vs.length = n ∧ zs.length = ks.length ∧ sp (.ref a :: vs) zs H3 Q (WE W σ)) :
    tMtG P wo K mg base k m n ks W te t tk σ H Q := k0
theorem g_prop (k0 : te σ H fun x H1 => ∃ a C dx fs sp, x = .ref a ∧ H1 a = some (.ins C dx fs) ∧ GPr P wo K mg base k C m sp ∧ sp [.ref a] [] H1 Q E0) : tPrG P wo K mg base k m te σ H Q := k0
theorem g_exc1 {C : Addr} {fld : Str} {E : XK} (k0 : ta σ H fun vs H1 => ∃ v, vs = [v] ∧ ∀ d, H1 d = none → E (.ref C) (some d) (upd H1 d (.xd [(fld, v)]))) : tExc1 C fld ta σ H E := k0
theorem g_setF (k0 : te σ H fun y H1 => to σ H1 fun x H2 => ∃ a C dx fs, x = .ref a ∧ H2 a = some (.ins C dx fs) ∧ Cls K C ∧ NoAttr K C f ∧ fs.length < 1000 ∧ D.nx σ (upd H2 a (.ins C dx (putF f y fs)))) : sFld K to te f D σ H := k0
theorem g_andT {t1 t2 : TE} (k0 : t1 σ H fun x H1 => ∃ b, TruV K x H1 b ∧ if b = true then t2 σ H1 Q else Q x H1) : tAndT K t1 t2 σ H Q := k0
theorem g_exI {a : Int} {P : Int → Prop} (k0 : P a) : ∃ i, V.int a = V.int i ∧ P i := ⟨a, rfl, k0⟩
theorem g_dnew (k0 : NewO (.dK []) H Q) : tDNewK σ H Q := k0
theorem g_U {g : Int → V} {i : Int} (k0 : Q (g i) H) : rU g (.int i) H Q := ⟨i, rfl, k0⟩
theorem g_asgF {ts : TS} (k0 : ts D σ H) : ts D σ H := k0
theorem g_star {tr : TA} {QA : List V → Hp → Prop} (k0 : te σ H fun x H1 => ∃ p xs, x = V.ref p ∧ (SqT K H1 p xs ∨ SqL K H1 p xs) ∧ tr σ H1 fun ys H2 => QA (xs ++ ys) H2) : StX.tStar K te tr σ H QA := k0
end
end Sw

set_option Elab.async false
set_option linter.all false
set_option maxRecDepth 100000
set_option maxHeartbeats 4000000
namespace Sw
open PySem PySem.Spec PySem.Calls PyProof.Rows PySem.W
section
variable {prog : Program} {w : World} {A : Around} {E : Value → Shared → Prop} {s : Shared} {K : Frag} {x D : Addr} {ox od : Obj}
theorem sw_classE {Q : Option Value → Shared → Prop} (hga : findIn K (.ref D) "__getattribute__" = some (some (.builtin "BaseException.__getattribute__"))) (hgt : findIn K (.ref D) "__getattr__" = some none) (hsub : subIn K (.ref D) (.type "BaseException") = some true)
    (hdct : hasDictIn K D = true) (ha : findIn K (.ref D) "__class__" = some (some (.builtin "object.__class__")))
    (hn : specialIn K (.builtin "object.__class__") "__get__" = some (some (.builtin "getset_descriptor.__get__"))) (htk : takesIn K (.builtin "object.__class__") = some true) (hm : mroIn K D (.type "object") = some true)
    (X : K.In s.heap) (I : InstAt s.heap x ox D (some od)) (h : Q (some (.ref D)) { s with toks := s.toks + 1 }) : wpAny (model prog w) A (getAttr? (.ref x) "__class__") Q E s := by
  have hf : findObj K D (some od) "__class__" = some (.bind (.builtin "getset_descriptor.__get__") (.builtin "object.__class__")) := findObj_data (by obtain ⟨cd, hc, _⟩ := any_some hdct; rw [hc]; rfl) ha hn htk
  obtain ⟨hp, g, d, t, os⟩ := s
  have L0 := I.type (M := model prog w)
  have L1 := looks_findIn (M := model prog w) X hga
  have L2 := looks_findIn (M := model prog w) X hgt
  have L3 := looks_find (M := model prog w) X I hf
  have sub : Looks (model prog w) hp (isInstance (.ref x) (.type "BaseException")) true := L0.andThen (looks_subIn X hsub)
  have hx0 : (false && onTheHeap (Value.builtin "BaseException.__getattribute__")) = false := rfl
  have hx2 : (Value.builtin "BaseException.__getattribute__" == Value.builtin "object.__getattribute__") = false := by decide +kernel
  have hx1 : (onTheHeap (Value.ref D) && Value.builtin "BaseException.__getattribute__" == Value.builtin "object.__getattribute__") = false := by rw [hx2]; rfl
  unfold getAttr? getAttrBy? getAttrBy
  refine wpAny_bind (wpAny_mkText (wpAny_bind (wpAny_attempt (wpAny_holding (wpAny_bind (L0.at (wpAny_bind (L1.at ?_))))))))
  show wpAny _ _ (if (onTheHeap (Value.ref D) && Value.builtin "BaseException.__getattribute__" == Value.builtin "object.__getattribute__") = true then _ else _) _ _ _
  rw [hx1, if_neg Bool.false_ne_true]
  unfold getAttrByItsOwn hookBefore
  refine wpAny_bind ?_
  rw [if_pos (show onTheHeap (Value.ref D) = true from rfl)]
  refine L2.at ?_
  refine wpAny_bind (wpAny_attempt (wpAny_holding ?_))
  unfold callGetattribute
  rw [hx0, if_neg Bool.false_ne_true]
  unfold boundAndCalled
  rw [PySem.F.excAttr_ValueError.ga.bind (.ref x)]
  refine wpAny_bind (wpAny_pure ?_)
  show wpAny _ _ (call (.builtin "BaseException.__getattribute__") [.ref x, .str "__class__" t]) _ _ _
  refine wpAny_call (codeAny_call_builtin PySem.F.excAttr_ValueError.ga.plain PySem.F.entry_bexc_ga ?_)
  refine @check_slot (model prog w) _ _ ⟨hp, g, d, t + 1, os⟩ "BaseException.__getattribute__" "BaseException" "__getattribute__" (.ref x) [.str "__class__" t] [] _ (by decide +kernel) (by decide +kernel) sub (PySem.F.args_bexc_ga (.ref x) (.str "__class__" t)) ?_
  unfold Builtin.«object.__getattribute__»
  refine wpAny_bind (wpAny_of_eq (a := ((Value.ref x : Value), [Value.str "__class__" t])) (by first | rfl | (simp only [slotArgs]; rfl)) ?_)
  refine wpAny_bind (wpAny_pure (wpAny_bind (L0.at (wpAny_bind (L3.at ?_)))))
  show wpAny _ _ (holding [Value.builtin "object.__class__"] (call (.builtin "getset_descriptor.__get__") [.builtin "object.__class__", .ref x, .ref D]) >>= ret) _ _ _
  refine wpAny_bind (wpAny_holding (wpAny_call (class_get (s := ⟨hp, g, d, t + 1, os⟩) (ox := ox) (od := some od) X I hm ?_)))
  refine wpAny_pure ?_
  show wpAny _ _ (handedOut (.ref D)) _ _ _
  rw [handedOut_of (v := .ref D) rfl]
  first
    | exact wpAny_pure (wpAny_pure h)
    | exact wpAny_pure h
    | exact wpAny_pure (wpAny_bind (wpAny_pure (wpAny_pure h)))
theorem sw_kitx (hga : findIn K (.ref D) "__getattribute__" = some (some (.builtin "BaseException.__getattribute__"))) (hgt : findIn K (.ref D) "__getattr__" = some none) (hsub : subIn K (.ref D) (.type "BaseException") = some true) (hdct : hasDictIn K D = true) (ha : findIn K (.ref D) "__class__" = some (some (.builtin "object.__class__")))
    (hn : specialIn K (.builtin "object.__class__") "__get__" = some (some (.builtin "getset_descriptor.__get__"))) (htk : takesIn K (.builtin "object.__class__") = some true) (hm : mroIn K D (.type "object") = some true) :
    KitX K (.ref x) (.ref D) (fun h => InstAt h x ox D (some od)) where
  ty := fun _ _ _ I => I.type
  it := fun _ _ X _ => by
    obtain ⟨cdD, hcD, _⟩ := any_some hdct
    unfold clsIn at hcD
    split at hcD
    · rename_i c' d' cd' sl' ho
      intro A' Q' E' s' k q
      unfold isType loadHead
      exact wpAny_bind (wpAny_loadPart (k _ _ (X _ _ ho)) (wpAny_pure q))
    · cases hcD
  ne := fun h tp dd its n sl X htp => by
    obtain ⟨cdD, hcD, _⟩ := any_some hdct
    refine Bool.eq_false_iff.mpr fun q => ?_
    have e : D = tp := Value.ref.inj (beq_iff_eq.mp q)
    subst e
    unfold clsIn at hcD
    split at hcD
    · rename_i c' d' cd' sl' ho
      have z := (X _ _ ho).symm.trans htp
      cases z
    · cases hcD
  ca := fun X I k => sw_classE hga hgt hsub hdct ha hn htk hm X I k
end
end Sw
namespace Sw
open PySem PySem.Spec PyProof.Rows L2
/-! ### isinstance(e, c), e a caught own exception with a dict -/
def rIsX (K : PySem.W.Frag) (a : Addr) (cls : Value) (d : Option Addr) : List V → Hp → VK → Prop := fun xs H Q => ∃ (c : V) (cv : Value) (b : Bool) (D dd : Addr) (fs : List (Str × V)), xs = [.ref a, c] ∧ cls = .ref D ∧ d = some dd ∧ H dd = some (.xd fs) ∧ ExcC K D ∧ (∀ u, RelV c u → u = cv) ∧ PySem.W.kitOne K (.ref D) cv = some b ∧ Q (.bl b) H
theorem call_isX {X : Cx} {a : Addr} {cls : Value} {d : Option Addr} {oe : Obj} {pn : List (Addr × Obj)} (K : PySem.W.Frag) (hz : Zc cls d oe) (hf : ∃ vs, oe.data = .fields vs) (hK : X.K = K := by rfl) : CallR (X.suite a ((a, oe) :: pn)) (.builtin "isinstance") (rIsX K a cls d) := by
  subst hK
  intro pins s σ H xs us Q I r h
  obtain ⟨c, cv, b, D, dd, fs, rfl, ec, ed, ea, C, hcv, e, q⟩ := h
  subst ec ed
  cases r with
  | cons rx rr =>
    cases rr with
    | cons rt rr =>
      cases rr
      cases rx
      have ec := hcv _ rt
      subst ec
      obtain ⟨hget, _⟩ := I.pin (a, oe) (List.mem_append.mpr (.inl List.mem_cons_self))
      obtain ⟨vs, hv⟩ := hf
      have hx : ObjOk X.prog X.w H s.heap dd (.xd fs) := I.hok dd _ ea
      obtain ⟨mA, hns, hr⟩ := hx
      obtain ⟨od, ho, hl⟩ := lookIn_ns hns
      have J : PySem.W.InstAt s.heap a oe D (some od) := ⟨hget, hz.1, by unfold PySem.W.notCls; rw [hv] <;> rfl, by rw [hz.2]; exact ho⟩
      exact PySem.W.kia_one (sw_kitx C.hg C.hk C.hs C.hd C.ha C.hn C.ht C.hm) I.kIn J e (fun z => nomatch z) fun tk => ⟨.bl b, H, I.kept (t' := tk) fun _ _ z => z, rfl, q⟩
/-- e.f, whatever own class e is of -/
def tXg (K : PySem.W.Frag) (a : Addr) (cls : Value) (d : Option Addr) (f : Str) (te : TE) : TE := fun σ H Q => te σ H fun x H1 => x = .ref a ∧ ∃ (C dd : Addr) (fs : List (Str × V)) (v : V), cls = .ref C ∧ d = some dd ∧ XfC K C ∧ PySem.W.findIn K (.ref C) f = some none ∧ H1 dd = some (.xd fs) ∧ fs.lookup f = some v ∧ Q v H1
theorem g_xg {K : PySem.W.Frag} {a : Addr} {cls : Value} {d : Option Addr} {f : Str} {te : TE} {σ : L2.St} {H : Hp} {Q : VK} (k : te σ H fun x H1 => x = .ref a ∧ ∃ (C dd : Addr) (fs : List (Str × V)) (v : V), cls = .ref C ∧ d = some dd ∧ XfC K C ∧ PySem.W.findIn K (.ref C) f = some none ∧ H1 dd = some (.xd fs) ∧ fs.lookup f = some v ∧ Q v H1) : tXg K a cls d f te σ H Q := k
theorem pe_xg {X : Cx} {a : Addr} {oe : Obj} {cls : Value} {d : Option Addr} {pn : List (Addr × Obj)} {e : Expr} {te : TE} {pos : Pos} {n : Str} (K : PySem.W.Frag)
    (hz : Zc cls d oe) (hf : ∃ vs, oe.data = .fields vs) (he : PE (X.suite a ((a, oe) :: pn)) e te) (hK : X.K = K := by rfl) (hb : attributeBase e n X.env (eval e X.env) = eval e X.env := by rfl) :
    PE (X.suite a ((a, oe) :: pn)) (.Attribute e n pos) (tXg K a cls d n te) := by
  subst hK
  refine ⟨fun pins s σ H Q I h => ?_⟩
  refine attr_of hb (thn (he.run pins s σ H _ I h) fun u s1 hh => ?_)
  obtain ⟨x, H1, I1, rx, ex, C, dd, fs, v, ec, ed, T, hno, ea, l, q⟩ := hh
  subst ex
  obtain rfl : u = Value.ref a := rx
  subst ec
  subst ed
  obtain ⟨ha, _⟩ := I1.pin (a, oe) (List.mem_append_left _ List.mem_cons_self)
  obtain ⟨vs, hd⟩ := hf
  have hx : ObjOk X.prog X.w H1 s1.heap dd (.xd fs) := I1.hok dd _ ea
  obtain ⟨mA, hns, hr⟩ := hx
  obtain ⟨od, ho, hl⟩ := lookIn_ns hns
  obtain ⟨u, hu, ru⟩ := RelO.some_of (v := v) (o := mA n) (by rw [← l]; exact hr n)
  have J : PySem.W.InstAt s1.heap a oe C (some od) := ⟨ha, hz.1, by unfold PySem.W.notCls; rw [hd] <;> rfl, by rw [hz.2]; exact ho⟩
  exact HandSPX.exc_get I1.kIn J T.ga T.gg T.exC (PySem.W.findObj_own T.hdC hno rfl (by rw [hl, hu])) (handed_of ru) ⟨v, H1, I1.tok _, ru, q⟩
/-- names in an except clause -/
theorem names_of {X : Cx} {x : Str} {a : Addr} (hg : Gl X x) (h : ∃ u, X.mg x = some u ∧ RelV (.ref a) u) (hd : (x == ("__debug__" : Str)) = false := by decide) : Names X x (.ref a) := by
  obtain ⟨u, hm, r⟩ := h
  have r' : u = Value.ref a := r
  subst r'
  exact ⟨hg, hd, .inl hm⟩

/-- a plain def with defaults: its takes at hand -/
theorem okTD {P : Program} {w : World} {K : PySem.W.Frag} {mg : Str → Option Value} {base : Heap} {x qual : Str} {st : Stmt} {f : Addr} {fd : FuncData} {N ps : List Str} {k : Nat} {sp : Sp} {dvs : List V} {kws : List (Str × V)} (F : FunD K x qual (defArgs st) (defBody st) (defScope st) dvs kws f fd) (S : FnScope N ps (defScope st)) (len : ∀ vs H Q E, sp vs H Q E → vs.length = ps.length)
    (hbody : ∀ (cdv : Value) (A : Around) (outer : List Env) (s : Shared) (H : Hp) (vs : List V) (Q : VK) (E : XK), Room k (A.deeper (envOfC qual (defScope st) s.heap.objs.size f cdv)) →
      Takes (cxOf (L2.CX P w) P w K mg base N qual (defScope st) f cdv A outer s H E) (fun cls d _ H => E cls d H) →
      PassesOwn (model P w) (A.deeper (envOfC qual (defScope st) s.heap.objs.size f cdv)) (envOfC qual (defScope st) s.heap.objs.size f cdv) (cxOf (L2.CX P w) P w K mg base N qual (defScope st) f cdv A outer s H E).xe → sp vs H Q E →
      ∃ t, PSs (cxOf (L2.CX P w) P w K mg base N qual (defScope st) f cdv A outer s H E) (defBody st) t ∧ t { nx := fun _ H' => Q .non H', rt := Q } (L2.start N vs) H) : FnOk P w K mg base (L2.CX P w) (k + 1) f fd ps sp :=
  F.ok S len fun cdv A outer s H vs Q E hr h => hbody cdv A outer s H vs Q E hr (takes_of rfl rfl rfl rfl) (passes_of (X := cxOf (L2.CX P w) P w K mg base N qual (defScope st) f cdv A outer s H E) rfl) h
section
variable {K : PySem.W.Frag} {G H G' : Hp} {R : Res} {p x : Addr} {o : HO} {v : V} {t : Value}
theorem Same.upd2 (e : Same G G') : Same (upd G p o) (upd G' p o) := fun b u h => by
  by_cases hb : b = p
  · subst hb; rw [upd_same] at h ⊢; exact h
  · rw [upd_ne hb] at h ⊢; exact e b u h
theorem tyX_same (e : Same G H) (h : TyX K G v t) : TyX K H v t := by
  cases h with
  | base h =>
    cases h with
    | non => exact .base .non
    | bl b => exact .base (.bl b)
    | int i => exact .base (.int i)
    | str s => exact .base (.str s)
    | flt s => exact .base (.flt s)
    | lst q => exact .base (.lst (e _ _ q))
    | frz q => exact .base (.frz (e _ _ q))
    | tup q => exact .base (.tup (e _ _ q))
    | dK q => exact .base (.dK (e _ _ q))
    | dT q => exact .base (.dT (e _ _ q))
    | ins q z1 z2 z3 z4 z5 => exact .base (.ins (e _ _ q) z1 z2 z3 z4 z5)
  | byt b => exact .byt b
  | set q => exact .set (e _ _ q)
  | kList q c => exact .kList q c
  | kTuple q c => exact .kTuple q c
  | kDict q c => exact .kDict q c
  | fTuple q => exact .fTuple (e _ _ q)
  | fDict q => exact .fDict (e _ _ q)
theorem tyX_ins {C dx : Addr} {fs fs' : List (Str × V)} (hx : G x = some (.ins C dx fs)) (h : TyX K G v t) : TyX K (upd G x (.ins C dx fs')) v t := by
  have key : ∀ {a : Addr} {o : HO}, G a = some o → (∀ C dx fs, o ≠ .ins C dx fs) → upd G x (.ins C dx fs') a = some o := fun {a o} q n => by
    have : a ≠ x := fun z => by
      subst z
      rw [hx] at q
      cases q
      exact n _ _ _ rfl
    rw [upd_ne this]
    exact q
  cases h with
  | base h =>
    cases h with
    | non => exact .base .non
    | bl b => exact .base (.bl b)
    | int i => exact .base (.int i)
    | str s => exact .base (.str s)
    | flt s => exact .base (.flt s)
    | lst q => exact .base (.lst (key q (by intros; simp)))
    | frz q => exact .base (.frz (key q (by intros; simp)))
    | tup q => exact .base (.tup (key q (by intros; simp)))
    | dK q => exact .base (.dK (key q (by intros; simp)))
    | dT q => exact .base (.dT (key q (by intros; simp)))
    | @ins a C' dx' fs2 q h1 h2 h3 h4 h5 =>
      by_cases z : a = x
      · subst z
        rw [hx] at q
        cases q
        exact .base (.ins upd_same h1 h2 h3 h4 h5)
      · exact .base (.ins (show upd G x (.ins C dx fs') a = some (.ins C' dx' fs2) by rw [upd_ne z]; exact q) h1 h2 h3 h4 h5)
  | byt b => exact .byt b
  | set q => exact .set (key q (by intros; simp))
  | kList q c => exact .kList q c
  | kTuple q c => exact .kTuple q c
  | kDict q c => exact .kDict q c
  | fTuple q => exact .fTuple (key q (by intros; simp))
  | fDict q => exact .fDict (key q (by intros; simp))
end
end Sw

set_option Elab.async false
set_option linter.all false
set_option maxRecDepth 100000
set_option maxHeartbeats 4000000
namespace Sw
open PySem PySem.Spec PyProof.Rows L2
/-! ### an exception kept as a value -/
/-- an exception object of the class cls with the dict d stands at a (raised or not) -/
def exv (a : Addr) (cls : Value) (d : Option Addr) : HO := .ext fun h => ∃ (oe : Obj) (vs : Array Value), h.get? a = some oe ∧ Zc cls d oe ∧ oe.data = .fields vs
section
variable {X : Cx} {pins : List (Addr × Obj)} {σ : L2.St} {H : Hp} {s : Shared} {a : Addr} {oe : Obj} {cls : Value} {d : Option Addr}
theorem exv_ok {P : Program} {w : World} {h : Heap} (e : h.get? a = some oe) (z : Zc cls d oe) (hf : ∃ vs, oe.data = .fields vs) : ObjOk P w H h a (exv a cls d) := by
  obtain ⟨vs, hd⟩ := hf
  exact ⟨⟨oe, vs, e, z, hd⟩, ⟨_, e⟩, fun h1 h2 ⟨o, us, q1, q2, q3⟩ k => ⟨o, us, k _ q1, q2, q3⟩⟩
theorem exv_at {P : Program} {w : World} {h : Heap} (hok : HOk P w H h) (e : H a = some (exv a cls d)) : ∃ (oe : Obj) (vs : Array Value), h.get? a = some oe ∧ Zc cls d oe ∧ oe.data = .fields vs := by
  have x : ObjOk P w H h a (.ext fun h => ∃ (oe : Obj) (vs : Array Value), h.get? a = some oe ∧ Zc cls d oe ∧ oe.data = .fields vs) := hok a _ e
  exact x.1
/-- what was pinned in the suite stays pinned behind it -/
theorem unsuiteK {q : Addr × Obj} {pn' : List (Addr × Obj)} (I : Inv (X.suite a (q :: (X.pn ++ pins))) pn' σ H s) (ok : X.Ok) : Inv X (q :: pins) σ H s :=
  ⟨ok, I.os, I.bare, I.base, I.loc, I.cell, I.free, I.freeC, fun p hp => by
    refine I.pin p (List.mem_append_left _ ?_)
    rcases List.mem_append.mp hp with h | h
    · exact List.mem_cons_of_mem _ (List.mem_append_left _ h)
    · rcases List.mem_cons.mp h with h | h
      · rw [h]; exact List.mem_cons_self
      · exact List.mem_cons_of_mem _ (List.mem_append_right _ h), I.hok, I.len⟩
/-- an object new since the entry, pinned, is tracked -/
theorem Inv.track (I : Inv X ((a, oe) :: pins) σ H s) (z : Zc cls d oe) (hf : ∃ vs, oe.data = .fields vs) (hS : X.s_0.heap.get? a = none) (hx : X.ex = []) (hp : ∀ p ∈ X.pn ++ pins, p.1 ≠ a) : Inv X pins σ (upd H a (exv a cls d)) s := by
  obtain ⟨ha, na, nL, nF, nc⟩ := I.pin (a, oe) (List.mem_append_right _ List.mem_cons_self)
  refine ⟨I.ok, I.os, I.bare, ⟨I.base.keep, I.base.slot, fun b o e n hx' => ?_, I.base.there, fun b xs e => ?_, fun b o u e => ?_, fun b ps e => ?_⟩, I.loc, I.cell, ?_, fun x c e => ?_, fun p hp' => ?_, HOk.laidN I.hok (fun _ _ q => q) na (exv_ok ha z hf), I.len⟩
  · rw [upd_ne (fun q => by rw [q, hS] at e; cases e)]
    exact I.base.free b o e n hx'
  · have := I.base.tups b xs e
    rw [upd_ne (ne_of_none this na)]
    exact this
  · have := I.base.frzs b o u e
    rw [upd_ne (ne_of_none this na)]
    exact this
  · obtain ⟨more, q⟩ := I.base.tbls b ps e
    exact ⟨more, by rw [upd_ne (ne_of_none q na)]; exact q⟩
  · rw [upd_ne (Ne.symm nL)]
    exact I.free
  · rw [upd_ne (fun q => ?_)]
    · exact I.freeC x c e
    · obtain ⟨v, o, q1, q2⟩ := I.cell x c e
      rw [q, ha] at q1
      cases q1
      exact nc _ q2
  · obtain ⟨p1, p2, p3⟩ := I.pin p (List.mem_append.mpr ((List.mem_append.mp hp').imp id (List.mem_cons_of_mem _)))
    exact ⟨p1, by rw [upd_ne (hp p hp')]; exact p2, p3⟩
end
/-- what the clause 'except x as n' wishes of an exception of the body: slot i is n's, the exception is kept behind the suite -/
def wKeep (K : PySem.W.Frag) (c : Value) (i : Nat) (ts : Addr → Value → Option Addr → TS) (Wout : WX) (D : Ends) : WX := fun cls d σ H =>
  ∃ b, PySem.W.exmOne K cls c = some b ∧ (b = true → ∀ a, H a = none → ts a cls d { nx := fun σ' H' => D.nx (σ'.set i none) (upd H' a (exv a cls d)), rt := D.rt, bk := fun σ' H' => D.bk (σ'.set i none) (upd H' a (exv a cls d)), ct := fun σ' H' => D.ct (σ'.set i none) (upd H' a (exv a cls d)) } (σ.set i (some (.ref a))) H) ∧
    (b = false → Wout cls d σ H)
section
variable {X : Cx} {x n : Str} {c : Value} {i : Nat} {body suite : List Stmt} {b₀ : Stmt} {np pos pos' : Pos} {tb : WX → TS} {ts : Addr → Value → Option Addr → TS} {Wout : WX}
theorem ps_try_keep (hs : X.stack = X.env :: X.outer) (hf : X.env.frame = some X.env.locals) (hN : X.N.Nodup) (hi : X.N[i]? = some n) (hln : X.env.kindOf n = some .local) (hc : Names X x c) (tk : Takes X Wout) (hx0 : X.ex = [])
    (hb : ∀ (W : WX) (pn : List (Addr × Obj)) (xe : Value → Shared → Prop), Takes (X.tr pn xe) W → PassesOwn (model X.prog X.w) X.A X.env xe → PSs (X.tr pn xe) body (tb W))
    (hsu : ∀ (a : Addr) (oe : Obj) (cls : Value) (d : Option Addr) (pn : List (Addr × Obj)), Zc cls d oe → (∃ vs, oe.data = .fields vs) → PSs (X.suite a ((a, oe) :: pn)) (b₀ :: suite) (ts a cls d)) :
    PS X (.Try body [.ExceptHandler (some (.Name x np)) (some n) (b₀ :: suite) pos'] [] [] pos) (fun D σ H => tb (wKeep X.K c i ts Wout D) D σ H) := by
  refine ⟨fun pins s σ H D I h => ?_⟩
  have ok := I.ok
  have hfr : X.A.frames = some (X.env :: X.outer) := by rw [ok.frames, hs]
  have hloc : Loc X.env.scope n := .inl hln
  refine wpAny_Try_except ?_
  refine wpAny_mono ((hb (wKeep X.K c i ts Wout D) (X.pn ++ pins) (fun e s₁ => wpAny (model X.prog X.w) X.A (noteFrame e X.env) (fun _ s₂ => wpAny (model X.prog X.w) X.A (setFlight e none) (fun _ s₃ =>
    wpAny (model X.prog X.w) X.A (handleBy e X.env [.ExceptHandler (some (.Name x np)) (some n) (b₀ :: suite) pos']) (SP X pins D) X.xe s₃) X.xe s₂) X.xe s₁) (fun u s' xx => ?_) PassesOwn.looking).run [] s σ H D (I.toTry _) h) (fun f s1 hsp => ?_) (fun e s1 he => he)
  · -- the catch
    obtain ⟨a, B, sI, pins', σ', H', cls, d, rfl, J', nb, up, sky, na, os, ag, b, hb1, hyes, hno⟩ := xx
    have J : Inv X pins σ' H' sI := J'.ofTry ok
    have sky' : Sky B (X.env :: X.outer) a (Zc cls d) X.env.locals s'.heap := by rw [← hs]; exact sky
    show wpAny (model X.prog X.w) X.A (noteFrame (.ref a) X.env) _ _ _
    refine Sky.land Zc.steady hfr hf sky' fun h3 fl3 up3 => ?_
    have J3 : Inv X pins σ' H' { s' with heap := h3 } := J.landed nb fl3.1 (up.trans up3) os ag
    obtain ⟨oe3, vs3, he3, hz3, hd3⟩ := fl3.there
    have notFr : ∀ {h : Heap} {o : Obj} {vs : Array Value}, h.FunFrames B (X.env :: X.outer) → h.get? a = some o → o.data = .fields vs → a ∉ frs (X.env :: X.outer) := fun {h o vs} ff e dd hm => by
      obtain ⟨_, o', e', hnf⟩ := ff.mem hm
      rw [e] at e'; cases e'
      exact hnf _ dd
    have nfr := notFr fl3.2.2.1 he3 hd3
    have nL : a ≠ X.env.locals := fun z => nfr (List.mem_filterMap.mpr ⟨X.env, List.mem_cons_self, by rw [hf, z]⟩)
    have nF : a ∉ X.fs := fun hm => by
      obtain ⟨e, he, q⟩ := List.mem_filterMap.mp hm
      exact nfr (List.mem_filterMap.mpr ⟨e, List.mem_cons_of_mem _ he, q⟩)
    have nB : B.get? a = none := fl3.2.1
    have nfs : a ∉ frs X.stack := by rw [hs]; exact nfr
    have nI : sI.heap.get? a = none := by
      cases e : sI.heap.get? a with
      | none => rfl
      | some o => exact absurd (nb a o e nfs) (by rw [nB]; exact fun z => nomatch z)
    have nS : X.s_0.heap.get? a = none := by
      cases e : X.s_0.heap.get? a with
      | none => rfl
      | some o =>
        obtain ⟨o', e'⟩ := J.base.there a o e (by rw [hx0]; exact fun z => nomatch z)
        rw [nI] at e'
        cases e'
    have nP : ∀ p ∈ X.pn ++ pins, p.1 ≠ a := fun p hp z => by
      have := (J.pin p hp).1
      rw [z, nI] at this
      cases this
    have S3 := J3.suite he3 hd3 na nL nF
    refine wpAny_handleBy_cons (codeAny_handlers_test ?_) (by intro q; cases q)
    have LT : PySem.W.Looks (model X.prog X.w) h3 (typeOf (.ref a)) cls := fun A Q E s k q => wpAny_typeOf_ref (k _ _ he3) (by rw [hz3.1]; exact q)
    have LM := PySem.W.exm_one (M := model X.prog X.w) (J3.kIn) LT hb1
    have test : ∀ {Q : Value → Shared → Prop} {E : Value → Shared → Prop}, Q c { s' with heap := h3 } → wpAny (model X.prog X.w) (X.A.mark (some (.ref a))) (eval (.Name x np) X.env) Q E { s' with heap := h3 } := fun {Q E} q => by
      obtain ⟨hg, hdbg, hm | ⟨hm, hv, hnn⟩⟩ := hc
      · exact ld_glob (X := X.suite a ((a, oe3) :: (X.pn ++ pins))) S3 hg hm q hdbg
      · exact ld_blt (X := X.suite a ((a, oe3) :: (X.pn ++ pins))) S3 hg hm hv q hnn hdbg
    refine test (LM.here ?_)
    cases b with
    | true =>
      refine codeAny_handlers_suite_as ?_
      refine HandSPX.lands_againZ fl3 fun h4 fl4 up4 => ?_
      have J4 : Inv X pins σ' H' { s' with heap := h4 } := J.landed nb fl4.1 ((up.trans up3).trans up4) os ag
      obtain ⟨oe4, vs4, he4, hz4, hd4⟩ := fl4.there
      have S4 := J4.suite he4 hd4 na nL nF
      refine store_ok (X := X.suite a ((a, oe4) :: (X.pn ++ pins))) (v := .ref a) S4 hN hi hloc rfl (fun s5 S5 => ?_) (.inr hln)
      refine wpAny_mono ((hsu a oe4 cls d (X.pn ++ pins) hz4 ⟨_, hd4⟩).run [] s5 _ H' _ S5 (hyes rfl a na)) (fun f s6 hsp => ?_) (fun _ _ z => False.elim z)
      have end_ : ∀ {σ6 : L2.St} {H6 : Hp} {Q : Shared → Prop}, Inv (X.suite a ((a, oe4) :: (X.pn ++ pins))) [] σ6 H6 s6 → (∀ s7, Inv X pins (σ6.set i none) (upd H6 a (exv a cls d)) s7 → Q s7) →
          wpAny (model X.prog X.w) X.A (do bindName X.env n .none; unbindBehindTheSuite X.env n pos') (fun _ s7 => Q s7) X.xe s6 := fun {σ6 H6 Q} S6 hq => gone_ok (unsuiteK S6 ok) hN hi hln fun s7 J7 => hq s7 (Inv.track J7 hz4 ⟨_, hd4⟩ nS hx0 nP)
      have endR : ∀ {σ6 : L2.St} {H6 : Hp} {Q : Shared → Prop}, Inv (X.suite a ((a, oe4) :: (X.pn ++ pins))) [] σ6 H6 s6 → (∀ s7, Inv X pins (σ6.set i none) H6 s7 → Q s7) →
          wpAny (model X.prog X.w) X.A (do bindName X.env n .none; unbindBehindTheSuite X.env n pos') (fun _ s7 => Q s7) X.xe s6 := fun {σ6 H6 Q} S6 hq => gone_ok (S6.unsuite ok) hN hi hln hq
      cases f with
      | next =>
        obtain ⟨σ6, H6, S6, q6⟩ := hsp
        exact end_ S6 fun s7 J7 => ⟨_, _, J7, q6⟩
      | brk =>
        obtain ⟨σ6, H6, S6, q6⟩ := hsp
        exact end_ S6 fun s7 J7 => ⟨_, _, J7, q6⟩
      | cont =>
        obtain ⟨σ6, H6, S6, q6⟩ := hsp
        exact end_ S6 fun s7 J7 => ⟨_, _, J7, q6⟩
      | ret u =>
        obtain ⟨v6, σ6, H6, S6, r6, q6⟩ := hsp
        exact endR S6 fun s7 J7 => ⟨_, _, _, J7, r6, q6⟩
    | false =>
      show wpAny _ X.A (handleBy (.ref a) X.env []) _ _ _
      refine wpAny_handleBy_nil ?_
      obtain ⟨k1, k2, k3, oe, vs, T, oT, ts', he, hz, hd, h1, hr⟩ := id fl3
      unfold PySem.passOn
      refine wpAny_bind (wpAny_field he hd h1 ?_)
      rw [if_neg (show ¬ ((Value.ref T == Value.none) = true) from by simp)]
      have fin : wpAny (model X.prog X.w) X.A (setFlight (.ref a) X.env.frame) (fun _ s4 => wpAny (model X.prog X.w) X.A (throw (.ref a) : Sem Flow) (SP X pins D) X.xe s4) X.xe { s' with heap := h3 } := by
        rw [hf]
        refine HandSPX.setFlight_upZ fl3 fun h4 hh4 up4 => wpAny_throw (tk _ _ ?_)
        exact ⟨a, B, sI, pins, σ', H', cls, d, rfl, J, nb, (up.trans up3).trans up4, .inr (.inr (by rw [hs]; exact hh4)), na, os, ag, hno rfl⟩
      first
        | exact wpAny_bind (wpAny_pure (wpAny_bind fin))
        | exact wpAny_bind fin
  · cases f with
    | next =>
      obtain ⟨σ', H', J', q⟩ := hsp
      exact wpAny_execs_nil ⟨σ', H', J'.ofTry ok, q⟩
    | brk =>
      obtain ⟨σ', H', J', q⟩ := hsp
      exact ⟨σ', H', J'.ofTry ok, q⟩
    | cont =>
      obtain ⟨σ', H', J', q⟩ := hsp
      exact ⟨σ', H', J'.ofTry ok, q⟩
    | ret u =>
      obtain ⟨v, σ', H', J', r, q⟩ := hsp
      exact ⟨v, σ', H', J'.ofTry ok, r, q⟩
end
end Sw

set_option Elab.async false
set_option linter.all false
set_option maxRecDepth 100000
set_option maxHeartbeats 4000000
namespace Sw
open PySem PySem.Spec PyProof.Rows L2
/-! ### promises for calls with no repr open (guards) -/
structure FnG (P : Program) (w : World) (K : PySem.W.Frag) (mg : Str → Option Value) (base : Heap) (CX : CXT) (k : Nat) (f : Addr) (fd : FuncData) (ps : List Str) (sp : Sp) : Prop where
  len : ∀ vs H Q E, sp vs H Q E → vs.length = ps.length
  run : ∀ (A : Around) (outer : List Env) (s : Shared) (H : Hp) (args : Args) (us : List Value) (vs : List V) (Q : VK) (E : XK), Room k A → A.guards = some [] → Env0 P w K mg base A outer s H → BindsTo s fd args (ps.zip us) → Vals vs us → sp vs H Q E →
    codeAny (model P w) A (.call (.ref f) args) (CR CX outer P w H s Q E) s
theorem fnG_of {CX : CXT} {P : Program} {w : World} {K : PySem.W.Frag} {mg : Str → Option Value} {base : Heap} {k : Nat} {f : Addr} {name qual : Str} {params : Arguments} {body : List Stmt} {scope : Scope} {dV kV doc pm cdv ct oc : Value} {an od : Option Addr}
    {osl : Array (Option Value)} {N ps : List Str} {sp : Sp} (lk : K.lookup f = some ⟨oc, od, .func (PySem.W.fnOf name qual params body scope dV kV doc pm an cdv ct), osl⟩) (hcd : PySem.W.codeIn K cdv qual = true) (S : FnScope N ps scope)
    (len : ∀ vs H Q E, sp vs H Q E → vs.length = ps.length)
    (hbody : ∀ (A : Around) (outer : List Env) (s : Shared) (H : Hp) (vs : List V) (Q : VK) (E : XK), Room k (A.deeper (envOfC qual scope s.heap.objs.size f cdv)) → A.guards = some [] → sp vs H Q E →
      ∃ t, PSs (cxOf CX P w K mg base N qual scope f cdv A outer s H E) body t ∧ t { nx := fun _ H' => Q .non H', rt := Q } (L2.start N vs) H) :
    FnG P w K mg base CX (k + 1) f (PySem.W.fnOf name qual params body scope dV kV doc pm an cdv ct) ps sp := by
  refine ⟨len, fun A outer s H args us vs Q E hr hgd e0 hb r hsp => ?_⟩
  have hl := len _ _ _ _ hsp
  have KX : K.In s.heap := e0.mod.kin.keeps fun b o e => (e0.bs b o e).1
  have lim : s.heap.NoLimit := e0.mod.nolimit.keeps fun b o e => (e0.bs b o e).1
  have hkind : ∀ y ∈ ps.zip us, scope.names.lookup y.1 = some .local ∨ (scope.names.lookup y.1 = some .cell ∧ ((cellsFrom (s.heap.objs.size + 1) scope.names []).lookup y.1).isSome = true) := fun ⟨n, v⟩ hy => by
    rcases S.par n (List.of_mem_zip hy).1 with q | q
    · exact .inl q
    · exact .inr ⟨q, PySem.W.cellsFrom_some _ _ _ (.inl q)⟩
  refine codeAny_call_function hr.depth (KX _ _ lk) rfl S.co S.gen rfl (PySem.W.codeRec_of KX hcd) (hb _ _ _ _ ?_)
  refine wpAny_newFunctionEnv_cells S.kind hkind fun env he s1 x => ?_
  subst he
  refine ⟨lim.keeps x.toInCall.keep, codeAny_func ?_⟩
  obtain ⟨t, ht, hq⟩ := hbody A outer s H vs Q E (hr.deeper _) hgd hsp
  have I : Inv (cxOf CX P w K mg base N qual scope f cdv A outer s H E) [] (L2.start N vs) H s1 := inv_start S hr.hd e0 hl r x
  refine wpAny_mono (ht.run [] s1 (L2.start N vs) H _ I hq) (fun fl s' hs => ?_) fun e s' hs => hs
  have fin : ∀ {σ' : L2.St} {H' : Hp} {v : V} {u : Value}, Inv (cxOf CX P w K mg base N qual scope f cdv A outer s H E) [] σ' H' s' → RelV v u → Q v H' → CE outer P w H s Q u s' :=
    fun {σ' H' v u} J rv q => ⟨v, H', J.os, J.bare, J.base, J.hok, rv, q⟩
  cases fl with
  | ret u =>
    obtain ⟨v, σ', H', J, rv, q⟩ := hs
    exact fin J rv q
  | next =>
    obtain ⟨σ', H', J, q⟩ := hs
    exact fin (v := V.non) (u := Value.none) J rfl q
  | brk =>
    obtain ⟨_, _, _, q⟩ := hs
    exact False.elim q
  | cont =>
    obtain ⟨_, _, _, q⟩ := hs
    exact False.elim q
theorem law_callG {P : Program} {w : World} {K : PySem.W.Frag} {mg mb : Str → Option Value} {CX : CXT} {k : Nat} {fa a : Addr} {fd : FuncData} {x : Str} {sp : Sp} {s₁ : Shared} {vs : List Value} {ns : List Int}
    (KX : K.In s₁.heap) (hns : s₁.heap.Ns mainGlobals mg) (hb : s₁.heap.Ns builtinsNs mb) (hbb : ∀ x : Str, x ≠ "__name__" → mb x = bootBuiltins x) (hlim : s₁.heap.NoLimit) (hg : s₁.gens = #[])
    (ha : s₁.heap.get? a = some { cls := .type "list", data := .seq vs.toArray }) (hi : IntsAre vs ns) (hl : ns.length ≤ sizeLine) (hr : Room k callerA)
    (F : ∀ base : Heap, K.In base → base.Ns mainGlobals mg → FnG P w K mg base CX k fa fd [x] sp) (hbind : ∀ (s : Shared) (u : Value), BindsTo s fd ⟨[u], []⟩ [(x, u)])
    (hsp : ∀ H : Hp, Only H → SqL K H a (ns.map V.int) → sp [.ref a] H (fun v _ => v = .bl true) fun _ _ _ => False)
    (hCX : ∀ H e s', CX [] H s₁ (fun _ _ _ => False) e s' → False) :
    codeAny (model P w) callerA (.call (.ref fa) ⟨[.ref a], []⟩) (fun r s' => r = .ok (.ret (.bool true)) ∧ OldK s₁.heap s'.heap ∧ s'.os = s₁.os ∧ AllBare s'.gens) s₁ := by
  have rv := vals_ints hi
  have lenV := hi.length
  -- from an abstract heap in which nothing but the script may be tracked
  have core : ∀ H : Hp, Only H → SqL K H a (ns.map V.int) → HOk P w H s₁.heap → (∀ b, H b ≠ none → b = a) → (H a ≠ none → K.lookup a = none) →
      codeAny (model P w) callerA (.call (.ref fa) ⟨[.ref a], []⟩) (fun r s' => r = .ok (.ret (.bool true)) ∧ OldK s₁.heap s'.heap ∧ s'.os = s₁.os ∧ AllBare s'.gens) s₁ := by
    intro H hO hS hok hA hK
    have base_of : ∀ {b : Addr} {o : Obj}, s₁.heap.get? b = some o → H b = none → (hidT s₁.heap H).get? b = some o := fun e n => hidT_get e n
    have noA : ∀ {b : Addr} {o : Obj} {es : Array DictEntry} {ep : Nat}, s₁.heap.get? b = some o → o.data = .dict es ep → H b = none := fun {b o es ep} e d => by
      cases q : H b with
      | none => rfl
      | some u =>
        have e' : b = a := hA b (by rw [q]; simp)
        subst e'
        rw [ha] at e; cases e
        have d' : Data.seq vs.toArray _ = Data.dict es ep := d
        cases d'
    have nsK : ∀ {b : Addr} {m : Str → Option Value}, s₁.heap.Ns b m → (hidT s₁.heap H).Ns b m := fun {b m} ⟨o, es, ep, e, d, r⟩ => ⟨o, es, ep, base_of e (noA e d), d, r⟩
    have hKb : K.In (hidT s₁.heap H) := fun b o e => base_of (KX b o e) (by
      cases q : H b with
      | none => rfl
      | some u =>
        have e' : b = a := hA b (by rw [q]; simp)
        subst e'
        rw [hK (by rw [q]; simp)] at e; cases e)
    have hM : Mod K mg (hidT s₁.heap H) := ⟨hKb, nsK hns, ⟨mb, nsK hb, hbb⟩, let ⟨mc, h1, h2⟩ := hlim; ⟨mc, nsK h1, h2⟩⟩
    have e0 : Env0 P w K mg (hidT s₁.heap H) callerA [] s₁ H := ⟨rfl, hM, fun b o e => of_hidT e, Nat.le_of_eq (hidT_size _ _), trivial, fun b hb => absurd (show b ∈ ([] : List Addr) from hb) (by simp), hok, .of_eq hg⟩
    refine codeAny_mono ((F _ hKb (nsK hns)).run callerA [] s₁ H ⟨[.ref a], []⟩ [.ref a] [.ref a] _ _ hr rfl e0 (hbind s₁ (.ref a)) (.cons rfl .nil) (hsp H hO hS)) fun r s' h => ?_
    cases r with
    | error e => exact (hCX H e s' h).elim
    | ok fl =>
      cases fl with
      | next => exact False.elim h
      | brk => exact False.elim h
      | cont => exact False.elim h
      | ret u =>
        obtain ⟨v, H', os, bare, un, hok', r', q⟩ := h
        have q' : v = .bl true := q
        subst q'
        obtain rfl : u = Value.bool true := r'
        refine ⟨rfl, OldK.of_keep fun b o e => ?_, os, bare⟩
        cases q : H b with
        | none => exact un.keep b o e q (by intro z; exact absurd (show b ∈ ([] : List Addr) from z) (by simp)) (by simp)
        | some u =>
          rcases hO b with z | ⟨ob, xs, z⟩
          · rw [q] at z; cases z
          · have z2 := un.frzs b ob _ z
            obtain ⟨e1, _⟩ := hok b _ z
            obtain ⟨e2, _⟩ := hok' b _ z2
            rw [e] at e1; cases e1
            exact e2
  cases hk : K.lookup a with
  | some o =>
    -- the script is one of the module's own objects
    have e := KX a o hk
    rw [ha] at e
    cases e
    refine core (fun _ => none) (fun _ => .inl rfl) (.inr ⟨_, vs.toArray, _, hk, rfl, rfl, rfl, by rw [List.size_toArray, lenV]; exact hl, by simpa using rv⟩) (fun b u z => by have z' : (none : Option HO) = some u := z; cases z') (fun b z => absurd rfl z) fun z => absurd rfl z
  | none =>
    refine core (fun b => if b = a then some (.frz { cls := .type "list", data := .seq vs.toArray } (.lst (ns.map V.int))) else none) (fun b => ?_) (.inl (.inr ⟨{ cls := .type "list", data := .seq vs.toArray }, if_pos rfl⟩)) (fun b u z => ?_) (fun b z => ?_) fun _ => hk
    · by_cases hb : b = a
      · exact .inr ⟨_, _, if_pos hb⟩
      · exact .inl (if_neg hb)
    · by_cases hb : b = a
      · have z' := (if_pos hb).symm.trans z
        cases z'
        subst hb
        exact ⟨ha, by rw [List.length_map]; exact hl, vs, _, rv, ha⟩
      · have z' := (if_neg hb).symm.trans z
        cases z'
    · by_cases hb : b = a
      · exact hb
      · exact absurd (if_neg hb) z
theorem walk_ofG {l : PySem.W.OpenLaw} {n k : Nat} {q : Program} {loose : List Str} {XP : (Str → Option Value) → Heap → Prop} {YP : World → Heap → Prop} {d : DefRec} {K : Params → PySem.W.Frag} {CX : World → CXT} {sp : World → Sp} {x : Str}
    (hn : l.most = some n) (hn2 : n ≤ sizeLine) (hdf : d.params.defaults = []) (hr : Room k callerA)
    (hY : ∀ (w : World) (h : Heap), YP w h → (K w.params).In h)
    (F : ∀ (w : World) (mg : Str → Option Value) (fa : Addr) (h : Heap), (K w.params).In h → h.Ns mainGlobals mg → mg d.name = some (.ref fa) →
      ∃ fd : FuncData, (∀ (s : Shared) (u : Value), BindsTo s fd ⟨[u], []⟩ [(x, u)]) ∧
        ∀ base : Heap, (K w.params).In base → base.Ns mainGlobals mg → FnG l.prog w (K w.params) mg base (CX w) k fa fd [x] (sp w))
    (hsp : ∀ (w : World) (H : Hp) (a : Addr) (ns : List Int), ns.length ≤ n → Only H → SqL (K w.params) H a (ns.map V.int) → sp w [.ref a] H (fun v _ => v = .bl true) fun _ _ _ => False)
    (hCX : ∀ (w : World) (H : Hp) (s : Shared) (e : Value) (s' : Shared), CX w [] H s (fun _ _ _ => False) e s' → False) :
    PySem.W.WalkO q loose XP YP l.row.toRowW d [] (fun f vs => PySem.call f vs) := by
  refine Att.attach_call hn hdf fun w s₀ s₁ mg mb fa o pm cd doc a vs ns G Y ho hd hcd hmg hobj hints hlen hg => ?_
  have KX := hY w _ Y
  obtain ⟨fd, hb, hF⟩ := F w mg fa _ KX G.T.g hmg
  exact law_callG KX G.T.g G.T.b G.T.builtins G.T.nolimit hg hobj hints (Nat.le_trans hlen hn2) hr hF hb (fun H hO hS => hsp w H a ns hlen hO hS) fun H e s' => hCX w H s₁ e s'
end Sw

set_option Elab.async false
set_option linter.all false
set_option maxRecDepth 100000
set_option maxHeartbeats 4000000
namespace Sw
open PySem PySem.Spec PyProof.Rows L2
section
variable {P : Program} {w : World} {K : PySem.W.Frag} {mg : Str → Option Value} {base : Heap} {j k n : Nat} {f : Addr} {fd : FuncData} {ps ks : List Str} {sp : Sp} {spc : SpC}
theorem FnG.of (F : FnOk P w K mg base (L2.CX P w) k f fd ps sp) : FnG P w K mg base (L2.CX P w) k f fd ps sp := ⟨F.len, fun A outer s H args us vs Q E hr _ => F.run A outer s H args us vs Q E hr⟩
theorem okG {x qual : Str} {st : Stmt} {N : List Str} (F : Fun K x qual st f fd) (S : FnScope N ps (defScope st)) (len : ∀ vs H Q E, sp vs H Q E → vs.length = ps.length)
    (hbody : ∀ (cdv : Value) (A : Around) (outer : List Env) (s : Shared) (H : Hp) (vs : List V) (Q : VK) (E : XK), Room k (A.deeper (envOfC qual (defScope st) s.heap.objs.size f cdv)) → A.guards = some [] →
      Takes (cxOf (L2.CX P w) P w K mg base N qual (defScope st) f cdv A outer s H E) (fun cls d _ H => E cls d H) →
      PassesOwn (model P w) (A.deeper (envOfC qual (defScope st) s.heap.objs.size f cdv)) (envOfC qual (defScope st) s.heap.objs.size f cdv) (cxOf (L2.CX P w) P w K mg base N qual (defScope st) f cdv A outer s H E).xe → sp vs H Q E →
      ∃ t, PSs (cxOf (L2.CX P w) P w K mg base N qual (defScope st) f cdv A outer s H E) (defBody st) t ∧ t { nx := fun _ H' => Q .non H', rt := Q } (L2.start N vs) H) : FnG P w K mg base (L2.CX P w) (k + 1) f fd ps sp := by
  obtain ⟨⟨oc, od, kV, doc, pm, an, cdv, ct, osl, rfl, lk, hcd⟩, kp⟩ := F
  exact fnG_of lk hcd S len fun A outer s H vs Q E hr hg h => hbody cdv A outer s H vs Q E hr hg (takes_of rfl rfl rfl rfl) (passes_of (X := cxOf (L2.CX P w) P w K mg base N qual (defScope st) f cdv A outer s H E) rfl) h
/-- a callee by its convention, no repr open -/
def CalG (P : Program) (w : World) (K : PySem.W.Frag) (mg : Str → Option Value) (base : Heap) (k : Nat) (f : Addr) (n : Nat) (ks : List Str) (sp : SpC) : Prop :=
  ∀ (A : Around) (outer : List Env) (s : Shared) (H : Hp) (us ws : List Value) (vs zs : List V) (Q : VK) (E : XK), Room k A → A.guards = some [] → Env0 P w K mg base A outer s H → Vals vs us → Vals zs ws → vs.length = n → zs.length = ks.length → sp vs zs H Q E →
    codeAny (model P w) A (.call (.ref f) ⟨us, ks.zip ws⟩) (CR (L2.CX P w) outer P w H s Q E) s
theorem calG0 (F : FnG P w K mg base (L2.CX P w) k f fd ps sp) (hb : Binds K fd ps []) (hn : n = ps.length) : CalG P w K mg base k f n [] (fun vs _ => sp vs) :=
  fun A outer s H us ws vs zs Q E hr hg e0 r rz l1 l2 h => by
    have e : (⟨us, ([] : List Str).zip ws⟩ : Args) = ⟨us, []⟩ := by rw [List.zip_nil_left]
    rw [e]
    have hl : (us ++ []).length = ps.length := by rw [List.append_nil, ← r.length, l1, hn]
    have hb' := hb s us (e0.mod.kin.keeps fun b o e => (e0.bs b o e).1) hl
    rw [List.append_nil] at hb'
    exact F.run A outer s H ⟨us, []⟩ us vs Q E hr hg e0 hb' r h
structure GFg (P : Program) (w : World) (K : PySem.W.Frag) (mg : Str → Option Value) (base : Heap) (k : Nat) (x : Str) (n : Nat) (ks : List Str) (sp : SpC) : Prop where
  ex : ∃ f, mg x = some (.ref f) ∧ PySem.W.keepIn K (.ref f) = true ∧ CalG P w K mg base k f n ks sp
end
section
variable {X : Cx} {k n : Nat} {f C : Addr} {ks : List Str} {sp : SpC} {W : WX} {x : Str} {p pos : Pos} {e : Expr} {es : List Expr} {kws : List Keyword} {t tk : TA}
theorem run_calG {pins : List (Addr × Obj)} {σ : L2.St} {H : Hp} {s : Shared} {Q : VK} {us ws : List Value} {vs zs : List V} (F : CalG X.prog X.w X.K X.mg X.base k f n ks sp) (hr : Room k X.A) (hg : X.A.guards = some []) (tw : Takes X W) (I : Inv X pins σ H s) (r : Vals vs us) (rz : Vals zs ws)
    (l1 : vs.length = n) (l2 : zs.length = ks.length) (h : sp vs zs H Q (WE W σ)) :
    codeAny (model X.prog X.w) X.A (.call (.ref f) ⟨us, ks.zip ws⟩) (fun r s' => match r with | .ok (.ret v) => EP X pins σ Q v s' | .ok _ => False | .error e => X.xe e s') s := by
  refine codeAny_mono (F X.A X.stack s H us ws vs zs Q (WE W σ) hr hg I.env0 r rz l1 l2 h) fun r s' hq => ?_
  cases r with
  | error e => exact passAt tw σ pins H s e s' I hq
  | ok fl =>
    cases fl with
    | ret u => exact I.after hq
    | next => exact False.elim hq
    | brk => exact False.elim hq
    | cont => exact False.elim hq
theorem pe_callGg (G : GFg X.prog X.w X.K X.mg X.base k x n ks sp) (hr : Room k X.A) (hgd : X.A.guards = some []) (tw : Takes X W) (ha : PA X (e :: es) t) (hkw : PK X kws tk) (hg : Gl X x := by rfl)
    (hall : (backToKw pos (keywordEach kws X.env)).all (·.1.isSome) = true := by rfl) (hks : (backToKw pos (keywordEach kws X.env)).filterMap (·.1) = ks := by rfl) (hdb : (x == ("__debug__" : Str)) = false := by decide)
    (he : starEach (e :: es) X.env = (false, eval e X.env) :: starEach es X.env := by rfl)
    (hpl : ((backTo pos (starEach (e :: es) X.env)).any (·.1) || (backToKw pos (keywordEach kws X.env)).any (·.1.isNone)) = false := by rfl) :
    PE X (.Call (.Name x p) (e :: es) kws pos) (tCalG n ks.length sp W t tk) := by
  refine ⟨fun pins s σ H Q I h => ?_⟩
  obtain ⟨f, hm, hk, F⟩ := G.ex
  refine wpAny_Call_Name_kw (ld_glob I hg hm ?_ hdb)
  refine PySem.W.callWith_KW (h₀ := X.base) I.ok.mod.kin hk hall (thn (ha.run pos pins s σ H _ I h) fun us s1 ⟨vs, H1, I1, r, q⟩ => ?_) hpl he
  refine thn (hkw.run pos pins s1 σ H1 _ I1 q) fun ws s2 ⟨zs, H2, I2, rz, l1, l2, q2⟩ => ⟨I2.kIn, ?_⟩
  rw [hks]
  exact wpAny_call (run_calG F hr hgd tw I2 r rz l1 l2 q2)
end

/-! ### repr -/
mutual
theorem Dp.noDict {K : PySem.W.Frag} {H : Hp} : ∀ (d : PyData) (v : V), Dp K H v d → d.hasDict = false
  | .none, _, _ => rfl
  | .bool _, _, _ => rfl
  | .int _, _, _ => rfl
  | .str _, _, _ => rfl
  | .list ds, _, h => by
    cases h with
    | lst _ q => exact Dp.noDictAll ds _ q
  | .tuple ds, _, h => by
    cases h with
    | tup _ q => exact Dp.noDictAll ds _ q
  | .dict _, _, h => by cases h
theorem Dp.noDictAll {K : PySem.W.Frag} {H : Hp} : ∀ (ds : List PyData) (vs : List V), DpAll K H vs ds → PyData.hasDictAll ds = false
  | [], _, _ => rfl
  | d :: ds, _, h => by
    cases h with
    | cons h1 h2 =>
      show (d.hasDict || PyData.hasDictAll ds) = false
      rw [Dp.noDict d _ h1, Dp.noDictAll ds _ h2]
      rfl
end
def rRepr (K : PySem.W.Frag) : List V → Hp → VK → Prop := fun xs H Q => ∃ v d, xs = [v] ∧ Dp K H v d ∧ d.showable = true ∧ d.depth ≤ 100 ∧ d.shown.length ≤ sizeLine ∧ Q (.str d.shown) H
theorem ka_repr {X : Cx} (K : PySem.W.Frag) (hgd : X.A.guards = some []) (hu : X.A.units + 120 < cLine) (hK : X.K = K := by rfl) : CallR X (.builtin "repr") (rRepr K) := by
  subst hK
  intro pins s σ H xs us Q I r h
  obtain ⟨v, d, rfl, hd, hs, hdp, hl, q⟩ := h
  cases r with
  | cons rx rr =>
    cases rr
    have kept : ∀ h' tk, (∀ b o, s.heap.get? b = some o → h'.get? b = some o) → Inv X pins σ H { s with heap := h', toks := tk } := fun h' tk k => I.kept (t' := tk) k
    have refs : ∀ {a : Addr} {u : Value}, v = .ref a → RelV v u → wpAny (model X.prog X.w) X.A (call (.builtin "repr") [u]) (EP X pins σ Q) X.xe s := fun {a u} ev ru => by
      subst ev
      obtain ⟨as, rd⟩ := Dp.reads I d _ u hd ru
      obtain rfl : u = Value.ref a := ru
      exact repr_of_reads' rd hs (fun z => absurd z (by rw [Dp.noDict d _ hd]; exact Bool.false_ne_true)) hgd (by omega) (fun b o e => e) (fun h' u tk k => ⟨.str d.shown, H, kept h' tk k, ⟨_, rfl⟩, q⟩) hl
    cases hd with
    | non =>
      cases rx
      exact P.repr_of_none ⟨.str _, H, I.kept (t' := s.toks + 1) (fun _ _ e => e), ⟨_, rfl⟩, q⟩
    | bl b =>
      cases rx
      exact P.repr_of_bool ⟨.str _, H, I.kept (t' := s.toks + 1) (fun _ _ e => e), ⟨_, rfl⟩, q⟩
    | int i =>
      obtain ⟨t, rfl⟩ := rx
      exact P.repr_of_int (of_decide_eq_true hs) ⟨.str _, H, I.kept (t' := s.toks + 1) (fun _ _ e => e), ⟨_, rfl⟩, q⟩
    | str x =>
      obtain ⟨t, rfl⟩ := rx
      exact P.repr_of_str ⟨.str _, H, I.kept (t' := s.toks + 1) (fun _ _ e => e), ⟨_, rfl⟩, q⟩ hl
    | lst _ _ => exact refs rfl rx
    | tup _ _ => exact refs rfl rx
end Sw

set_option Elab.async false
set_option linter.all false
set_option maxRecDepth 100000
set_option maxHeartbeats 4000000
namespace Sw
open PySem PySem.Spec PyProof.Rows L2
/-! ### calls with a starred argument and keywords -/
theorem callWith_SK {M : Model} {A : Around} {E : Value → Shared → Prop} {s : Shared} {f : Value} {first : List Value} {pos : Pos} {Q : Value → Shared → Prop} {P : Heap → Prop} {args : List (Bool × Sem Value)} {keywords : List (Option Str × Sem Value)} (hst : (args.any (·.1) || keywords.any (·.1.isNone)) = true)
    (hk : ∀ h, P h → ∃ k, (k = Keeper.frame ∨ k = Keeper.machine ∨ k = Keeper.boundFrame) ∧ PySem.W.Looks M h (keeperOf f) k)
    (h : wpAny M A (evalArgs f true args keywords) (fun a s₁ => P s₁.heap ∧ wpAny M A (call f (first ++ a.pos) a.kw) Q E s₁) E s) : wpAny M A (callWith pos f first args keywords) Q E s := by
  unfold callWith
  refine wpAny_bind (wpAny_holding (wpAny_mono h (fun a s₁ h₁ => wpAny_bind (wpAny_standAt ?_)) fun _ _ x => x))
  obtain ⟨k, hk', L⟩ := hk _ h₁.1
  simp only [hst]
  refine wpAny_bind (L.here ?_)
  have tail : ∀ {t : Sem Value}, wpAny M A t Q E s₁ → wpAny M A (t >>= fun r => holding [r] point >>= fun _ => pure r) Q E s₁ :=
    fun ht => wpAny_bind (wpAny_mono ht (fun r s₂ hr => wpAny_bind (wpAny_holding (wpAny_point (wpAny_pure hr)))) fun _ _ x => x)
  have marked (mk : Value) : wpAny M A (callMarked mk f (first ++ a.pos) a.kw) Q E s₁ := by unfold callMarked; exact Calls.wpAny_keep h₁.2
  rcases hk' with rfl | rfl | rfl <;> dsimp only <;> first | exact tail (marked _) | exact tail (wpAny_operating h₁.2)
/-- a callee of n positional values at least, keywords ks -/
def CalV (P : Program) (w : World) (K : PySem.W.Frag) (mg : Str → Option Value) (base : Heap) (k : Nat) (f : Addr) (n : Nat) (ks : List Str) (sp : SpC) : Prop :=
  ∀ (A : Around) (outer : List Env) (s : Shared) (H : Hp) (us ws : List Value) (vs zs : List V) (Q : VK) (E : XK), Room k A → Env0 P w K mg base A outer s H → Vals vs us → Vals zs ws → n ≤ vs.length → zs.length = ks.length → sp vs zs H Q E →
    codeAny (model P w) A (.call (.ref f) ⟨us, ks.zip ws⟩) (CR (L2.CX P w) outer P w H s Q E) s
structure GMkV (P : Program) (w : World) (K : PySem.W.Frag) (mg : Str → Option Value) (base : Heap) (k : Nat) (x : Str) (C : Addr) (n : Nat) (ks : List Str) (sp : SpC) : Prop where
  at_ : mg x = some (.ref C)
  ex : ∃ f, Mk K C f ∧ CalV P w K mg base k f (n + 1) ks sp
section
variable {X : Cx} {k n : Nat} {f C : Addr} {ks : List Str} {sp : SpC} {W : WX} {x : Str} {p pos : Pos} {e : Expr} {es : List Expr} {kws : List Keyword} {t tk : TA}
theorem run_mkV {pins : List (Addr × Obj)} {σ : L2.St} {H : Hp} {s : Shared} {Q : VK} {us ws : List Value} {vs zs : List V} (M : Mk X.K C f) (F : CalV X.prog X.w X.K X.mg X.base k f (n + 1) ks sp) (hr : Room (k + 1) X.A) (tw : Takes X W)
    (I : Inv X pins σ H s) (r : Vals vs us) (rz : Vals zs ws) (l1 : n ≤ vs.length) (l2 : zs.length = ks.length)
    (h : ∀ x dx, H x = none → H dx = none → dx ≠ x → sp (.ref x :: vs) zs (upd (upd H dx (.own x)) x (.ins C dx [])) (fun v H2 => v = .non ∧ Q (.ref x) H2) (WE W σ)) :
    wpAny (model X.prog X.w) X.A (call (.ref C) us (ks.zip ws)) (EP X pins σ Q) X.xe s := by
  have hq := h (s.heap.objs.size + 1) s.heap.objs.size (I.hok.fresh (Nat.le_succ _)) (I.hok.fresh (Nat.le_refl _)) (Nat.ne_of_lt (Nat.lt_succ_self _))
  have I2 := Inv.made (C := C) I
  have r1 : Vals (V.ref (s.heap.objs.size + 1) :: vs) (Value.ref (s.heap.objs.size + 1) :: us) := .cons rfl r
  have n1 : n + 1 ≤ (V.ref (s.heap.objs.size + 1) :: vs).length := by
    rw [List.length_cons]
    omega
  refine wpAny_call (make_map (f := f) I.kIn M.makes M.init (beq_iff_eq.mp M.fn) (codeAny_mono (F _ X.stack _ _ (Value.ref (s.heap.objs.size + 1) :: us) ws _ _ _ (WE W σ) (hr.make C us (ks.zip ws))
    (I2.env0.make C us (ks.zip ws)) r1 rz n1 l2 hq) fun r s' hq' => ?_))
  cases r with
  | error e => exact passAt tw σ pins _ _ e s' I2 hq'
  | ok fl =>
    cases fl with
    | ret u =>
      obtain ⟨v, H', I3, rv, ev, q3⟩ := I2.after hq'
      subst ev
      exact ⟨rv, ⟨V.ref (s.heap.objs.size + 1), H', I3, rfl, q3⟩⟩
    | next => exact False.elim hq'
    | brk => exact False.elim hq'
    | cont => exact False.elim hq'
/-- C(e, *y, .., k = v) -/
def tMkV (C : Addr) (n m : Nat) (sp : SpC) (W : WX) (t tk : TA) : TE := fun σ H Q => t σ H fun vs H1 => tk σ H1 fun zs H2 => n ≤ vs.length ∧ zs.length = m ∧ ∀ x dx, H2 x = none → H2 dx = none → dx ≠ x →
  sp (.ref x :: vs) zs (upd (upd H2 dx (.own x)) x (.ins C dx [])) (fun v H3 => v = .non ∧ Q (.ref x) H3) (WE W σ)
theorem pe_makeV (G : GMkV X.prog X.w X.K X.mg X.base k x C n ks sp) (hr : Room (k + 1) X.A) (tw : Takes X W) (ha : PA X (e :: es) t) (hkw : PK X kws tk) (hg : Gl X x := by rfl)
    (hall : (backToKw pos (keywordEach kws X.env)).all (·.1.isSome) = true := by rfl) (hks : (backToKw pos (keywordEach kws X.env)).filterMap (·.1) = ks := by rfl) (hdb : (x == ("__debug__" : Str)) = false := by decide)
    (he : starEach (e :: es) X.env = (false, eval e X.env) :: starEach es X.env := by rfl) (hpl : ((backTo pos (starEach (e :: es) X.env)).any (·.1) || (backToKw pos (keywordEach kws X.env)).any (·.1.isNone)) = true := by rfl) :
    PE X (.Call (.Name x p) (e :: es) kws pos) (tMkV C n ks.length sp W t tk) := by
  refine ⟨fun pins s σ H Q I h => ?_⟩
  obtain ⟨f, M, F⟩ := G.ex
  refine wpAny_Call_Name_kw (ld_glob I hg G.at_ ?_ hdb)
  refine callWith_SK (first := []) hpl (PySem.W.keeps_K M.kp) (PyProof.Rows.evalArgs_kw2 hall (thn (ha.run pos pins s σ H _ I h) fun us s1 ⟨vs, H1, I1, r, q⟩ => ?_) he)
  refine thn (hkw.run pos pins s1 σ H1 _ I1 q) fun ws s2 ⟨zs, H2, I2, rz, l1, l2, q2⟩ => ⟨I2.kIn, ?_⟩
  rw [hks]
  exact run_mkV M F hr tw I2 r rz l1 l2 q2
/-- C(*y) -/
def tMkV1 (K : PySem.W.Frag) (C : Addr) (n : Nat) (sp : SpC) (W : WX) (te : TE) : TE := fun σ H Q => te σ H fun y H1 => ∃ a xs, y = V.ref a ∧ (SqT K H1 a xs ∨ SqL K H1 a xs) ∧ n ≤ xs.length ∧ ∀ x dx, H1 x = none → H1 dx = none → dx ≠ x →
  sp (.ref x :: xs) [] (upd (upd H1 dx (.own x)) x (.ins C dx [])) (fun v H3 => v = .non ∧ Q (.ref x) H3) (WE W σ)
theorem pe_makeV1 {te : TE} {sp_ : Pos} (G : GMkV X.prog X.w X.K X.mg X.base k x C n [] sp) (hr : Room (k + 1) X.A) (tw : Takes X W) (he : PE X e te) (hg : Gl X x := by rfl) (hdb : (x == ("__debug__" : Str)) = false := by decide)
    (hst : starEach [.Starred e sp_] X.env = [(true, eval e X.env)] := by rfl) : PE X (.Call (.Name x p) [.Starred e sp_] [] pos) (tMkV1 X.K C n sp W te) := by
  refine ⟨fun pins s σ H Q I h => ?_⟩
  obtain ⟨f, M, F⟩ := G.ex
  refine wpAny_Call_Name_kw (ld_glob I hg G.at_ ?_ hdb)
  refine PySem.W.callWith_S (h₀ := X.base) I.ok.mod.kin M.kp (thn (he.run pins s σ H _ I h) fun v s1 ⟨y, H1, I1, ry, a, xs, ey, hxs, l1, q⟩ => ?_) hst
  subst ey
  obtain rfl : v = Value.ref a := ry
  refine StX.star_any I1 hxs fun us s2 I2 rv => ⟨I2.kIn, ?_⟩
  have z := run_mkV (ks := []) (ws := []) (zs := []) M F hr tw I2 rv .nil l1 rfl q
  rw [List.zip_nil_left] at z
  exact z
end
/-! ### defs with a star parameter (and keyword-only ones, all given) -/
section
variable {P : Program} {w : World} {K : PySem.W.Frag} {mg : Str → Option Value} {base : Heap} {k n : Nat} {f : Addr} {name qual : Str} {params : Arguments} {body : List Stmt} {scope : Scope} {dV kV doc pm cdv ct oc : Value} {an od : Option Addr} {osl : Array (Option Value)} {N ps ks : List Str} {sp : Sp}
/-- what it binds: the positional ones, the tuple of the rest, the keyword-only ones, in the order g -/
theorem fn_starK (g : {α : Type} → List α → α → List α → List α) (grel : ∀ {ws : List V} {us : List Value} {t : V} {u : Value} {zs : List V} {vs : List Value}, Vals ws us → RelV t u → Vals zs vs → Vals (g ws t zs) (g us u vs)) (glen : ∀ {ws : List V} {t : V} {zs : List V}, ws.length = n → zs.length = ks.length → (g ws t zs).length = ps.length)
    (lk : K.lookup f = some ⟨oc, od, .func (PySem.W.fnOf name qual params body scope dV kV doc pm an cdv ct), osl⟩) (hcd : PySem.W.codeIn K cdv qual = true) (S : FnScope N ps scope)
    (hb : ∀ us rest ws : List Value, us.length = n → ws.length = ks.length → bindArgs (PySem.W.fnOf name qual params body scope dV kV doc pm an cdv ct) ⟨us ++ rest, ks.zip ws⟩ = (newTuple rest >>= fun t => pure (ps.zip (g us t ws))))
    (hbody : ∀ (A : Around) (outer : List Env) (s : Shared) (H : Hp) (vs : List V) (Q : VK) (E : XK), Room k (A.deeper (envOfC qual scope s.heap.objs.size f cdv)) →
      Takes (cxOf (L2.CX P w) P w K mg base N qual scope f cdv A outer s H E) (fun cls d _ H => E cls d H) →
      PassesOwn (model P w) (A.deeper (envOfC qual scope s.heap.objs.size f cdv)) (envOfC qual scope s.heap.objs.size f cdv) (cxOf (L2.CX P w) P w K mg base N qual scope f cdv A outer s H E).xe → sp vs H Q E →
      ∃ t, PSs (cxOf (L2.CX P w) P w K mg base N qual scope f cdv A outer s H E) body t ∧ t { nx := fun _ H' => Q .non H', rt := Q } (L2.start N vs) H) :
    CalV P w K mg base (k + 1) f n ks (fun vs zs H Q E => ∃ ws rest, vs = ws ++ rest ∧ ws.length = n ∧ rest.length ≤ sizeLine ∧ ∀ p, H p = none → sp (g ws (V.ref p) zs) (upd H p (.tup rest)) Q E) := by
  intro A outer s H us ws0 vs zs Q E hr e0 r rz _ l2 hsp
  obtain ⟨ws, rest, ev, hl, hz, hq⟩ := hsp
  subst ev
  obtain ⟨u1, u2, eu, r1, r2⟩ := StX.vals_split r
  subst eu
  have hn : H s.heap.objs.size = Option.none := e0.hok.fresh (Nat.le_refl _)
  have hl1 : u1.length = n := by rw [← r1.length]; exact hl
  have hl2 : u2.length ≤ sizeLine := by rw [← r2.length]; exact hz
  refine StX.run_bnd lk hcd S hr e0 (G := fun xs H2 => ∃ p, H p = Option.none ∧ xs = g ws (V.ref p) zs ∧ H2 = upd H p (.tup rest)) (fun A' Ex Q' h => ?_) fun s2 H2 xs ⟨p, hp, ex, eH⟩ hr' => ?_
  · rw [hb u1 u2 ws0 hl1 (rz.length.symm.trans l2)]
    refine wpAny_bind (wpAny_newTuple (wpAny_pure ?_) hl2)
    have new : ObjOk P w (upd H s.heap.objs.size (.tup rest)) (s.heap.push ({ cls := .type "tuple", data := .seq u2.toArray } : Obj)) s.heap.objs.size (.tup rest) := ⟨hz, u2, r2, ⟨_, Heap.get?_push_size _ rfl, rfl, _, rfl⟩⟩
    have un := StX.un_laid (fs := frs outer) (s := s) (o := ({ cls := .type "tuple", data := .seq u2.toArray } : Obj)) (u := .tup rest) hn
    exact h _ _ (g ws (V.ref s.heap.objs.size) zs) (g u1 (Value.ref s.heap.objs.size) ws0) (StX.env0_laid e0 new) un rfl (fun e s' => StX.cxUp outer s H _ _ E e s' un (fun b o q => Heap.get?_push_of_some _ q) rfl) (grel r1 rfl rz) (glen hl l2) ⟨_, hn, rfl, rfl⟩
  · subst ex eH
    exact hbody A outer s2 _ _ Q E hr' (takes_of rfl rfl rfl rfl) (passes_of (X := cxOf (L2.CX P w) P w K mg base N qual scope f cdv A outer s2 (upd H p (.tup rest)) E) rfl) (hq p hp)
end
end Sw

set_option Elab.async false
set_option linter.all false
set_option maxRecDepth 100000
set_option maxHeartbeats 4000000
namespace Sw
open PySem PySem.Spec PyProof.Rows L2
/-! ### list(d.values()) -/
def tLVals (td : TE) : TE := fun σ H Q => td σ H fun x H1 => ∃ d kvs, x = .ref d ∧ H1 d = some (.dK kvs) ∧ NewO (.lst (kvs.map (·.2))) H1 Q
section
variable {X : Cx} {o : Expr} {td : TE} {p pos apos cpos : Pos}
theorem pe_listVals (hc : X.calm = true) (hg : Gl X "list") (hm : X.mg "list" = none) (hv : bootBuiltins "list" = some (.type "list")) (hd : PE X o td) (hbase : attributeBase o "values" X.env (eval o X.env) = eval o X.env := by rfl) (hline : (apos.endLine == cpos.line) = true := by rfl)
    (he : starEach [.Call (.Attribute o "values" apos) [] [] cpos] X.env = (false, eval (.Call (.Attribute o "values" apos) [] [] cpos) X.env) :: starEach [] X.env := by rfl) (hpl : (backTo pos (starEach [] X.env)).any (·.1) = false := by rfl) :
    PE X (.Call (.Name "list" p) [.Call (.Attribute o "values" apos) [] [] cpos] [] pos) (tLVals td) := by
  refine ⟨fun pins s σ H Q I h => ?_⟩
  refine wpAny_Call_Name_kw (ld_blt I hg hm hv ?_ (by decide) (by decide))
  refine PyProof.Rows.callWith_type1 (args_cons ?_ he) he hpl
  refine wpAny_Call_method (T := "dict") (id := "dict.values") hbase rfl hline F.plainAttrs_dict F.slot_dict_values F.type_dict_values (thn (hd.run pins s σ H _ I h) fun u s1 ⟨x, H1, I1, rx, d, kvs, ex, ea, q⟩ => ?_)
  subst ex
  obtain rfl : u = Value.ref d := rx
  have hx : ObjOk X.prog X.w H1 s1.heap d (.dK kvs) := I1.hok d _ ea
  obtain ⟨hz, hs, vs, kv, hD⟩ := hx
  have hl : kvs.length = vs.length := Paired.length kv
  refine ⟨hD.typeIs, hD.mapOf.noDict, ?_⟩
  have I2 : Inv X pins σ H1 { s1 with heap := s1.heap.push { cls := .type "dict_values", data := .fields #[.ref d] } } := I1.kept (t' := s1.toks) fun b ob q => Heap.get?_push_of_some _ q
  have hD2 : (s1.heap.push { cls := .type "dict_values", data := .fields #[.ref d] }).DictOf (mixKind X.prog X.w) d vs := by
    have hx2 : ObjOk X.prog X.w H1 (s1.heap.push { cls := .type "dict_values", data := .fields #[.ref d] }) d (.dK kvs) := I2.hok d _ ea
    have hx1 : ObjOk X.prog X.w H1 s1.heap d (.dK kvs) := I1.hok d _ ea
    obtain ⟨od, es, ep, e1, e2⟩ := hD
    exact ⟨od, es, ep, Heap.get?_push_of_some _ e1, e2⟩
  have rvals : Vals (kvs.map (·.2)) (vs.map (·.2)) := by
    clear h q hD hD2 hl I2 I1 hz hs ea
    induction kv with
    | nil => exact .nil
    | cons r _ ih => exact .cons r.2 ih
  have fin : wpAny (model X.prog X.w) X.A (spliced (backTo pos (starEach [] X.env))) (fun us s2 => wpAny (model X.prog X.w) X.A (call (.type "list") (Value.ref s1.heap.objs.size :: us)) (EP X pins σ Q) X.xe s2) X.xe { s1 with heap := s1.heap.push { cls := .type "dict_values", data := .fields #[.ref d] } } := by
    refine args_nil ?_
    obtain ⟨ep, hat⟩ := hD2.dictAt
    refine PySem.W.kdl_call (PySem.W.kdl_values (knd := mixKind X.prog X.w) (kvs := vs) (ep := ep)) (I.ok.hd hc) ⟨⟨_, Heap.get?_push_size _ rfl, rfl, rfl⟩, hat⟩ (by rw [← hl]; exact hz) fun h' tk acc c' kp hB hacc => ?_
    have eacc : acc.toList = vs.map (·.2) := PySem.W.kdl_vals_eq acc.toList (by rw [Array.length_toList]; exact hacc.1) fun j v e => hacc.2 j v (by rw [← Array.getElem?_toList]; exact e)
    have hn : H1 (s1.heap.objs.size + 1) = none := I1.hok.fresh (Nat.le_succ _)
    have sz : (s1.heap.push ({ cls := .type "dict_values", data := .fields #[.ref d] } : Obj)).objs.size = s1.heap.objs.size + 1 := Heap.size_push _ _
    have I3 : Inv X pins σ (upd H1 (s1.heap.objs.size + 1) (.lst (kvs.map (·.2)))) { s1 with heap := h', toks := tk } := by
      refine I1.laid (t' := tk) (fun b ob e => kp b ob (Heap.get?_push_of_some _ e)) (Nat.le_succ _) ⟨by rw [List.length_map]; exact hz, vs.map (·.2), c', rvals, ?_⟩
      show h'.get? (s1.heap.objs.size + 1) = _
      rw [← eacc, Array.toArray_toList]
      have := hB
      rw [sz] at this
      exact this
    show EP X pins σ Q (.ref (s1.heap.push ({ cls := .type "dict_values", data := .fields #[.ref d] } : Obj)).objs.size) _
    rw [sz]
    exact ⟨.ref (s1.heap.objs.size + 1), _, I3, rfl, q _ hn⟩
  show wpAny _ _ (callWith cpos (.builtin "dict.values") [.ref d] [] []) _ X.xe s1
  exact method_meetsIn F.slot_dict_values F.entry_dict_values rfl (PySem.evalArgs_none ⟨rfl, hD.typeIs, F.args_dict_values_1 _, _, meets_dict_values (mixKind X.prog X.w) d hs, ⟨vs, hD⟩, fin⟩)
end

/-! ### dicts by text: in, not in, == {} -/
def rInDk : R2 := fun x y H Q => ∃ a o, y = .ref a ∧ DGet H a x o ∧ Q (.bl o.isSome) H
def rNiDk : R2 := fun x y H Q => ∃ a o, y = .ref a ∧ DGet H a x o ∧ Q (.bl (!o.isSome)) H
def rEqDE : R2 := fun x y H Q => ∃ a b kvs, x = .ref a ∧ y = .ref b ∧ H a = some (.dK kvs) ∧ H b = some (.dK []) ∧ Q (.bl kvs.isEmpty) H
section
variable {X : Cx}
theorem op_inDk (hu : X.A.units + 1 < cLine) : OpR X (compareOp .In) rInDk := by
  intro pins s σ H x y v u Q I rx ry h
  obtain ⟨a, o, rfl, g, q⟩ := h
  obtain rfl : u = Value.ref a := ry
  exact d_in hu I g rx fun s3 I3 => ⟨.bl o.isSome, H, I3, rfl, q⟩
theorem op_niDk (hu : X.A.units + 1 < cLine) : OpR X (compareOp .NotIn) rNiDk := by
  intro pins s σ H x y v u Q I rx ry h
  obtain ⟨a, o, rfl, g, q⟩ := h
  obtain rfl : u = Value.ref a := ry
  exact d_notIn hu I g rx fun s3 I3 => ⟨.bl (!o.isSome), H, I3, rfl, q⟩
theorem op_eqDE (hu : X.A.units < cLine) : OpR X (compareOp .Eq) rEqDE := by
  intro pins s σ H x y v u Q I rx ry h
  obtain ⟨a, b, kvs, rfl, rfl, ea, eb, q⟩ := h
  obtain rfl : v = Value.ref a := rx
  obtain rfl : u = Value.ref b := ry
  obtain ⟨_, ya, va, ra, da⟩ := (show ObjOk X.prog X.w H s.heap a (.dK kvs) from I.hok a _ ea)
  obtain ⟨_, yb, vb, rb, db⟩ := (show ObjOk X.prog X.w H s.heap b (.dK []) from I.hok b _ eb)
  cases rb
  refine PySem.W.keq_eq (knd := mixKind X.prog X.w) (r := true) ya yb da db hu (fun e => ?_) (fin_bl I q ?_)
  · rw [List.length_eq_zero_iff.mp e]
    exact .nil
  · have hl := Paired.length ra
    cases kvs with
    | nil =>
      cases ra
      rfl
    | cons p r =>
      cases ra
      rfl
end
/-! ### their steps -/
section
variable {G H : Hp} {R : Res} {Q : VK} {a b : Addr} {kvs : List (Key × V)} {z : Str} {σ : L2.St} {td ty : TE}
theorem g_inDk (w : Wd G R H) (h : G a = some (.dK kvs)) (k : Q (.bl (valV kvs (.inr z)).isSome) H) : rInDk (.str z) (.ref a) H Q := ⟨a, _, rfl, DGet.k (k := .inr z) (w.get h), k⟩
theorem g_niDk (w : Wd G R H) (h : G a = some (.dK kvs)) (k : Q (.bl (!(valV kvs (.inr z)).isSome)) H) : rNiDk (.str z) (.ref a) H Q := ⟨a, _, rfl, DGet.k (k := .inr z) (w.get h), k⟩
theorem g_eqDE (w : Wd G R H) (h : G a = some (.dK kvs)) (h2 : G b = some (.dK [])) (k : Q (.bl kvs.isEmpty) H) : rEqDE (.ref a) (.ref b) H Q := ⟨a, b, kvs, rfl, rfl, w.get h, w.get h2, k⟩
theorem g_dget (k : td σ H fun x H1 => ty σ H1 fun y H2 => ∃ a v, x = .ref a ∧ DGet H2 a y (some v) ∧ Q v H2) : tDGet td ty σ H Q := k
theorem g_dgetE {P : V → Prop} {v : V} (w : Wd G R H) (h : G a = some (.dK kvs)) (hv : valV kvs (.inr z) = some v) (k : P v) : ∃ a' v', V.ref a = .ref a' ∧ DGet H a' (.str z) (some v') ∧ P v' := ⟨a, v, rfl, by rw [← hv]; exact DGet.k (k := .inr z) (w.get h), k⟩
theorem g_lvals (k : td σ H fun x H1 => ∃ d kvs, x = .ref d ∧ H1 d = some (.dK kvs) ∧ NewO (.lst (kvs.map (·.2))) H1 Q) : tLVals td σ H Q := k
end
end Sw

set_option Elab.async false
set_option linter.all false
set_option maxRecDepth 100000
set_option maxHeartbeats 4000000
namespace PySem.HandSPX
namespace KW
open PySem PySem.Spec PySem.Calls PyProof.Rows
section
variable {prog : Program} {w : World} {M : Model} {A : Around} {E : Value → Shared → Prop} {R : Result → Shared → Prop} {h : Heap} {g : Array GenState} {d : Drawn} {t : Nat} {os : OsState}
variable {nm q : Str} {C N : Addr} {bs bm bmB : List Value} {hdct : Bool} {sn : List Str} {sub : List Value} {ab : Bool} {col : Option Bool} {dd : Option Addr} {k0 k1 k2 k3 k5 : Option Value} {B newId initId : String}
theorem check_new_own (F : ExcBaseFacts B newId initId bmB) (hT : ∀ X : String, bm.contains (.type X) = bmB.contains (.type X)) {rest : List Value} {kw : List (Str × Value)} {Q : Unit → Shared → Prop}
    (hC : h.get? C = some (excClassObj nm q C N bs bm hdct sn sub ab col dd k0 k1 k2 k3 k5 newId)) (hq : Q () ⟨h, g, d, t, os⟩) : wpAny M A (checkBuiltinCall newId ⟨.ref C :: rest, kw⟩) Q E ⟨h, g, d, t, os⟩ := by
  have hcont : (Value.ref C :: bm).contains (.type B) = true := by rw [List.contains_cons, hT, F.hasB, Bool.or_true]
  have hstar := F.noStar
  simp only [checkBuiltinCall, F.newKind, F.newSplit, F.newRow]
  repeat (first | refine wpAny_loadPart_at hC ?_ | (refine wpAny_isSubtype_exc hC ?_; rw [hcont]) | refine wpAny_staticBase_exc hC ?_ | refine wpAny_madeBy_exc hC ?_ | simp only [bne_self_eq_false, Bool.false_eq_true, if_false] | wp_step)
  exact hq
theorem new_own (F : ExcBaseFacts B newId initId bmB) (hT : ∀ X : String, bm.contains (.type X) = bmB.contains (.type X)) {rest : List Value} {kw : List (Str × Value)}
    (hC : h.get? C = some (excClassObj nm q C N bs bm hdct sn sub ab col dd k0 k1 k2 k3 k5 newId))
    (hq : R (.ok (.ret (.ref (h.objs.size + 1)))) ⟨(h.push { cls := .type "tuple", data := .seq rest.toArray }).push
      { cls := .ref C, data := .fields #[.ref h.objs.size, .none, .none, .none, .bool false, .none] }, g, d, t, os⟩) (hrest : rest.length ≤ sizeLine) :
    codeAny (model prog w) A (.builtin newId ⟨.ref C :: rest, kw⟩) R ⟨h, g, d, t, os⟩ := by
  have hends := F.ends
  have hcB : (Value.ref C :: bm).contains (.type B) = true := by rw [List.contains_cons, hT, F.hasB, Bool.or_true]
  have hcA : (Value.ref C :: bm).contains (.type "AttributeError") = false := by rw [List.contains_cons, hT, F.noAttr]; rfl
  have hcN : (Value.ref C :: bm).contains (.type "NameError") = false := by rw [List.contains_cons, hT, F.noName]; rfl
  refine codeAny_builtinAt F.entry ?_
  unfold Builtin.«BaseException.__new__»
  refine wpAt_bind ?_
  show wpAt _ _ _ (stack >>= _) _ _ _
  refine wpAt_bind (wpAt_stack fun p below => wpAt_of_wpAny ?_)
  wp_walk
  refine wpAt_of_wpAny ?_
  rw [F.owner]
  repeat (first | with_reducible refine wpAny_madeHere_exc F.canon hC ?_ | with_reducible refine wpAny_loadPart_at hC ?_ | (with_reducible refine wpAny_isSubtype_exc hC ?_; first | rw [hcB] | rw [hcA] | rw [hcN]) | wp_step)
  show R _ _
  rw [Heap.size_push]
  exact hq

theorem type_call_own (F : ExcBaseFacts B newId initId bmB) (hT : ∀ X : String, bm.contains (.type X) = bmB.contains (.type X)) {rest : List Value} {kw : List (Str × Value)} {fI : Addr} {Q : Fin → Shared → Prop}
    (hC : h.get? C = some (excClassObj nm q C N bs bm hdct sn sub ab col dd k0 k1 k2 k3 k5 newId))
    (hi : W.Looks (model prog w) h (typeLookup (.ref C) "__init__") (some (.ref fI))) (hb : ∀ self, W.Looks (model prog w) h (bindSpecial (.ref fI) self) (.ref fI, [self])) (hrest : rest.length ≤ sizeLine)
    (hq : codeAny (model prog w) A (.call (.ref fI) ⟨.ref (h.objs.size + 1) :: rest, kw⟩)
      (fun r s' => match r with | .ok (.ret v) => v = .none ∧ Q (.done (.ret (.ref (h.objs.size + 1)))) s' | .ok _ => False | .error e => E e s')
      ⟨(h.push (W.kdv_tup rest)).push (excO C h.objs.size), g, d, t, os⟩) :
    wpAny (model prog w) A (Builtin.«type.__call__» ⟨.ref C :: rest, kw⟩) Q E ⟨h, g, d, t, os⟩ := by
  repeat (first | with_reducible refine wpAny_loadPart_at hC ?_ | with_reducible refine wpAny_madeBy_exc hC ?_ | wp_step)
  refine codeAny_call_builtin_code (Code.quiet_builtin _ F.quiet) (check_new_own F hT hC ?_)
  refine new_own F hT hC ?_ hrest
  show wpAny _ _ _ _ _ _
  have k : ∀ b o, h.get? b = some o → ((h.push (W.kdv_tup rest)).push (excO C h.objs.size)).get? b = some o := fun b o e => Heap.get?_push_of_some _ (Heap.get?_push_of_some _ e)
  have hC₁ := k _ _ hC
  have hget : ((h.push (W.kdv_tup rest)).push (excO C h.objs.size)).get? (h.objs.size + 1) = some (excO C h.objs.size) := by heap_get
  have hcC : (Value.ref C :: bm).contains (.ref C) = true := by simp
  have i1 := hi.keeps k
  have b1 := (hb (.ref (h.objs.size + 1))).keeps k
  unfold isInstance
  repeat (first | with_reducible refine wpAny_loadPart_at hget ?_ | (with_reducible refine wpAny_isSubtype_exc hC₁ ?_; rw [hcC]) | wp_step)
  show wpAny _ _ (typeLookup (.ref C) _) _ _ _
  refine i1.at ?_
  refine wpAny_holding (wpAny_bind (b1.at ?_))
  refine wpAny_bind (wpAny_call (codeAny_mono hq fun r s' z => ?_))
  rcases r with e | (v | _ | _ | _) <;> first | exact z | exact z.elim | skip
  obtain ⟨rfl, z⟩ := z
  first
    | exact wpAny_pure (wpAny_pure z)
    | (wp_walk; exact z)

theorem call_own (F : ExcBaseFacts B newId initId bmB) (hT : ∀ X : String, bm.contains (.type X) = bmB.contains (.type X)) {rest : List Value} {kw : List (Str × Value)} {fI : Addr}
    (hC : h.get? C = some (excClassObj nm q C N bs bm hdct sn sub ab col dd k0 k1 k2 k3 k5 newId))
    (hi : W.Looks (model prog w) h (typeLookup (.ref C) "__init__") (some (.ref fI))) (hb : ∀ self, W.Looks (model prog w) h (bindSpecial (.ref fI) self) (.ref fI, [self])) (hrest : rest.length ≤ sizeLine)
    (hq : codeAny (model prog w) (A.under (.builtin "type.__call__" ⟨.ref C :: rest, kw⟩)) (.call (.ref fI) ⟨.ref (h.objs.size + 1) :: rest, kw⟩) (W.InitBack (h.objs.size + 1) R)
      ⟨(h.push (W.kdv_tup rest)).push (excO C h.objs.size), g, d, t, os⟩) :
    codeAny (model prog w) A (.call (.ref C) ⟨rest, kw⟩) R ⟨h, g, d, t, os⟩ := by
  have f1 := tc_lookup
  have f2 := tc_bind (.ref C)
  have hTy : (⟨h, g, d, t, os⟩ : Shared).TypeIs (.ref C) "type" := ⟨_, hC, rfl⟩
  refine codeAny_of_tree ?_
  show wpAny _ _ (callAny (.ref C) _) _ _ _
  repeat (any_goals (first | assumption | with_reducible refine wpAny_loadPart_at hC ?_ | wp_step))
  refine ⟨rfl, ?_⟩
  refine codeAny_call_builtin_at (Code.quiet_builtin _ (by decide +kernel)) entry_typeCall (wpAny_check_type_call_sub hC (type_call_own F hT hC hi hb hrest ?_))
  refine codeAny_mono hq fun r s' z => ?_
  rcases r with e | (v | _ | _ | _) <;> exact z

end
end KW
end PySem.HandSPX

set_option Elab.async false
set_option linter.all false
set_option maxRecDepth 100000
set_option maxHeartbeats 4000000
namespace Sw
open PySem PySem.Spec PyProof.Rows L2
/-! ### X(e, .., k = v, ..) as a value -/
structure ExcV (P : Program) (w : World) (K : PySem.W.Frag) (mg : Str → Option Value) (base : Heap) (x : Str) (C : Addr) (n : Nat) (ks : List Str) (sp : SpC) : Prop where
  ox : OexC K C
  at_ : mg x = some (.ref C)
  ex : ∃ f, PySem.W.findIn K (.ref C) "__init__" = some (some (.ref f)) ∧ PySem.W.typeIn K (.ref f) = some (.type "function") ∧ Cal P w K mg base 1 f (n + 1) ks sp
def tExcG (C : Addr) (n m : Nat) (sp : SpC) (t tk : TA) : TE := fun σ H Q => t σ H fun vs H1 => tk σ H1 fun zs H2 => vs.length = n ∧ zs.length = m ∧ n ≤ 1000 ∧ ∀ a, H2 a = none →
  sp (.ref a :: vs) zs (upd H2 a (exo a C none)) (fun v H3 => v = .non ∧ Q (.ref a) H3) (fun _ _ _ => False)
section
variable {X : Cx} {n : Nat} {C : Addr} {ks : List Str} {sp : SpC} {x : Str} {p pos : Pos} {e : Expr} {es : List Expr} {kws : List Keyword} {t tk : TA}
theorem run_excG {pins : List (Addr × Obj)} {σ : L2.St} {H : Hp} {s : Shared} {Q : VK} {us ws : List Value} {vs zs : List V} (T : ExcV X.prog X.w X.K X.mg X.base x C n ks sp) (hr : Room 2 X.A) (I : Inv X pins σ H s) (r : Vals vs us) (rz : Vals zs ws) (l1 : vs.length = n) (l2 : zs.length = ks.length) (hn : n ≤ 1000)
    (h : ∀ a, H a = none → sp (.ref a :: vs) zs (upd H a (exo a C none)) (fun v H3 => v = .non ∧ Q (.ref a) H3) (fun _ _ _ => False)) : wpAny (model X.prog X.w) X.A (call (.ref C) us (ks.zip ws)) (EP X pins σ Q) X.xe s := by
  obtain ⟨nm, q, N, bs, bm, sn, sub, ab, col, dd, k0, k1, k2, k3, k5, hC, hbm⟩ := T.ox.cls
  obtain ⟨fI, iC, tI, F1⟩ := T.ex
  obtain ⟨hp, g, dr, tk, os⟩ := s
  have hsz : hp.objs.size ≤ hp.objs.size + 1 := Nat.le_succ _
  have hnn : H (hp.objs.size + 1) = none := I.hok.fresh hsz
  have kk : ∀ b o, hp.get? b = some o → ((hp.push (PySem.W.kdv_tup us)).push (PySem.HandSPX.excO C hp.objs.size)).get? b = some o := fun b o e => Heap.get?_push_of_some _ (Heap.get?_push_of_some _ e)
  have hget : ((hp.push (PySem.W.kdv_tup us)).push (PySem.HandSPX.excO C hp.objs.size)).get? (hp.objs.size + 1) = some (PySem.HandSPX.excO C hp.objs.size) := by heap_get
  have I2 : Inv X pins σ (upd H (hp.objs.size + 1) (exo (hp.objs.size + 1) C none)) ⟨(hp.push (PySem.W.kdv_tup us)).push (PySem.HandSPX.excO C hp.objs.size), g, dr, tk, os⟩ :=
    I.laid (t' := tk) (a := hp.objs.size + 1) (o := exo (hp.objs.size + 1) C none) (h' := (hp.push (PySem.W.kdv_tup us)).push (PySem.HandSPX.excO C hp.objs.size)) kk hsz (exo_ok hget)
  have r2 : Vals (V.ref (hp.objs.size + 1) :: vs) (Value.ref (hp.objs.size + 1) :: us) := .cons rfl r
  have n1 : (V.ref (hp.objs.size + 1) :: vs).length = n + 1 := by rw [List.length_cons, l1]
  have hus : us.length ≤ sizeLine := by
    rw [← Paired.length r, l1, sizeLine_eq]
    omega
  have hq := h (hp.objs.size + 1) hnn
  refine wpAny_call (PySem.HandSPX.KW.call_own F.excBase_ValueError (fun Y => PySem.HandSPX.refsVE_contains Y bm hbm) (I.kIn _ _ hC) (PySem.W.looks_findIn I.kIn iC) (fun self => PySem.W.bind_fn I.kIn self tI) hus
    (codeAny_mono (F1 _ X.stack _ _ (Value.ref (hp.objs.size + 1) :: us) ws _ zs _ (fun _ _ _ => False) ((hr.mono (by decide : 2 ≤ 2)).make C us (ks.zip ws)) (I2.env0.make C us (ks.zip ws)) r2 rz n1 l2 hq) fun r s' hq' => ?_))
  cases r with
  | error er => exact passL (X := X) pins σ _ _ er s' I2 hq'
  | ok fl =>
    cases fl with
    | ret u =>
      obtain ⟨v, H', I3, rv, ev, q3⟩ := I2.after hq'
      subst ev
      exact ⟨rv, ⟨V.ref (hp.objs.size + 1), H', I3, rfl, q3⟩⟩
    | next => exact False.elim hq'
    | brk => exact False.elim hq'
    | cont => exact False.elim hq'
theorem pe_excG (T : ExcV X.prog X.w X.K X.mg X.base x C n ks sp) (hr : Room 2 X.A) (ha : PA X (e :: es) t) (hkw : PK X kws tk) (hg : Gl X x := by rfl)
    (hall : (backToKw pos (keywordEach kws X.env)).all (·.1.isSome) = true := by rfl) (hks : (backToKw pos (keywordEach kws X.env)).filterMap (·.1) = ks := by rfl) (hdb : (x == ("__debug__" : Str)) = false := by decide)
    (he : starEach (e :: es) X.env = (false, eval e X.env) :: starEach es X.env := by rfl) (hpl : ((backTo pos (starEach (e :: es) X.env)).any (·.1) || (backToKw pos (keywordEach kws X.env)).any (·.1.isNone)) = false := by rfl) :
    PE X (.Call (.Name x p) (e :: es) kws pos) (tExcG C n ks.length sp t tk) := by
  refine ⟨fun pins s σ H Q I h => ?_⟩
  refine wpAny_Call_Name_kw (ld_glob I hg T.at_ ?_ hdb)
  refine PySem.W.callWith_KW (h₀ := X.base) I.ok.mod.kin T.ox.kC hall (thn (ha.run pos pins s σ H _ I h) fun us s1 ⟨vs, H1, I1, r, q⟩ => ?_) hpl he
  refine thn (hkw.run pos pins s1 σ H1 _ I1 q) fun ws s2 ⟨zs, H2, I2, rz, l1, l2, hn, q2⟩ => ⟨I2.kIn, ?_⟩
  rw [hks]
  exact run_excG T hr I2 r rz l1 l2 hn q2
theorem pe_excG0 (T : ExcV X.prog X.w X.K X.mg X.base x C n ks sp) (hr : Room 2 X.A) (hkw : PK X kws tk) (hg : Gl X x := by rfl)
    (hall : (backToKw pos (keywordEach kws X.env)).all (·.1.isSome) = true := by rfl) (hks : (backToKw pos (keywordEach kws X.env)).filterMap (·.1) = ks := by rfl) (hdb : (x == ("__debug__" : Str)) = false := by decide)
    (hpl : ((backTo pos (starEach [] X.env)).any (·.1) || (backToKw pos (keywordEach kws X.env)).any (·.1.isNone)) = false := by rfl) :
    PE X (.Call (.Name x p) [] kws pos) (tExcG C n ks.length sp tNil tk) := by
  refine ⟨fun pins s σ H Q I h => ?_⟩
  refine wpAny_Call_Name_kw (ld_glob I hg T.at_ ?_ hdb)
  refine PySem.W.callWith_KW0 (h₀ := X.base) I.ok.mod.kin T.ox.kC hall ?_ hpl
  refine thn (hkw.run pos pins s σ H _ I h) fun ws s2 ⟨zs, H2, I2, rz, l1, l2, hn, q2⟩ => ⟨I2.kIn, ?_⟩
  rw [hks]
  exact run_excG (us := []) (vs := []) T hr I2 .nil rz l1 l2 hn q2
end

/-! ### isinstance(e, c), e.f: e an exception held as a value -/
def ExAt (H : Hp) (a C : Addr) (d : Option Addr) : Prop := H a = some (exo a C d) ∨ H a = some (exv a (.ref C) d)
def DxAt (H : Hp) (d : Addr) (fs : List (Str × V)) : Prop := H d = some (exd d fs) ∨ H d = some (.xd fs)
def rIsV (K : PySem.W.Frag) : List V → Hp → VK → Prop := fun xs H Q => ∃ (a C : Addr) (d : Option Addr) (c : V) (cv : Value) (b : Bool), xs = [.ref a, c] ∧ ExAt H a C d ∧ (∀ dd, d = some dd → ∃ fs, DxAt H dd fs) ∧ ExcC K C ∧ (∀ u, RelV c u → u = cv) ∧ PySem.W.kitOne K (.ref C) cv = some b ∧ Q (.bl b) H
def tXv (K : PySem.W.Frag) (f : Str) (te : TE) : TE := fun σ H Q => te σ H fun x H1 => ∃ (a C dd : Addr) (fs : List (Str × V)) (v : V), x = .ref a ∧ ExAt H1 a C (some dd) ∧ DxAt H1 dd fs ∧ XfC K C ∧ PySem.W.findIn K (.ref C) f = some none ∧ fs.lookup f = some v ∧ Q v H1
section
variable {X : Cx} {pins : List (Addr × Obj)} {σ : L2.St} {H : Hp} {s : Shared} {a C dd : Addr} {d : Option Addr} {fs : List (Str × V)}
theorem exAt_get (I : Inv X pins σ H s) (h : ExAt H a C d) : ∃ (oe : Obj) (vs : Array Value), s.heap.get? a = some oe ∧ Zc (.ref C) d oe ∧ oe.data = .fields vs := by
  rcases h with h | h
  · obtain ⟨t1, q⟩ := exo_at I.hok h
    exact ⟨_, _, q, ⟨rfl, rfl⟩, rfl⟩
  · exact exv_at I.hok h
theorem dxAt_get (I : Inv X pins σ H s) (h : DxAt H dd fs) : ∃ mA, s.heap.Ns1 dd mA ∧ ∀ f, RelO (fs.lookup f) (mA f) := by
  rcases h with h | h
  · exact exd_at I.hok h
  · exact (show ObjOk X.prog X.w H s.heap dd (.xd fs) from I.hok dd _ h)
theorem call_isV (K : PySem.W.Frag) (hK : X.K = K := by rfl) : CallR X (.builtin "isinstance") (rIsV K) := by
  subst hK
  intro pins s σ H xs us Q I r h
  obtain ⟨a, C, d, c, cv, b, rfl, he, hd, EC, hcv, e, q⟩ := h
  cases r with
  | cons rx rr =>
    cases rr with
    | cons rt rr =>
      cases rr
      cases rx
      have ec := hcv _ rt
      subst ec
      obtain ⟨oe, vs, hget, hz, hv⟩ := exAt_get I he
      cases d with
      | none =>
        have J : PySem.W.InstAt s.heap a oe C none := ⟨hget, hz.1, by unfold PySem.W.notCls; rw [hv] <;> rfl, by rw [hz.2]; trivial⟩
        exact PySem.W.kia_one (PySem.W.handS_kitx_exc EC.hg EC.hk EC.hs EC.hd EC.ha EC.hn EC.ht EC.hm) I.kIn J e (fun z => nomatch z) fun tk => ⟨.bl b, H, I.kept (t' := tk) fun _ _ z => z, rfl, q⟩
      | some dd =>
        obtain ⟨fs, hd'⟩ := hd dd rfl
        obtain ⟨mA, hns, hr⟩ := dxAt_get I hd'
        obtain ⟨od, ho, hl⟩ := lookIn_ns hns
        have J : PySem.W.InstAt s.heap a oe C (some od) := ⟨hget, hz.1, by unfold PySem.W.notCls; rw [hv] <;> rfl, by rw [hz.2]; exact ho⟩
        exact PySem.W.kia_one (sw_kitx EC.hg EC.hk EC.hs EC.hd EC.ha EC.hn EC.ht EC.hm) I.kIn J e (fun z => nomatch z) fun tk => ⟨.bl b, H, I.kept (t' := tk) fun _ _ z => z, rfl, q⟩
theorem pe_xv {e : Expr} {te : TE} {pos : Pos} {n : Str} (K : PySem.W.Frag) (he : PE X e te) (hb : attributeBase e n X.env (eval e X.env) = eval e X.env := by rfl) (hK : X.K = K := by rfl) : PE X (.Attribute e n pos) (tXv K n te) := by
  subst hK
  refine ⟨fun pins s σ H Q I h => ?_⟩
  refine attr_of hb (thn (he.run pins s σ H _ I h) fun u s1 hh => ?_)
  obtain ⟨x, H1, I1, rx, a, C, dd, fs, v, ex, hx, hd, T, hno, l, q⟩ := hh
  subst ex
  obtain rfl : u = Value.ref a := rx
  obtain ⟨oe, vs, hget, hz, hv⟩ := exAt_get I1 hx
  obtain ⟨mA, hns, hr⟩ := dxAt_get I1 hd
  obtain ⟨od, ho, hl⟩ := lookIn_ns hns
  obtain ⟨u, hu, ru⟩ := RelO.some_of (v := v) (o := mA n) (by rw [← l]; exact hr n)
  have J : PySem.W.InstAt s1.heap a oe C (some od) := ⟨hget, hz.1, by unfold PySem.W.notCls; rw [hv] <;> rfl, by rw [hz.2]; exact ho⟩
  exact HandSPX.exc_get I1.kIn J T.ga T.gg T.exC (PySem.W.findObj_own T.hdC hno rfl (by rw [hl, hu])) (handed_of ru) ⟨v, H1, I1.tok _, ru, q⟩
end
end Sw

set_option Elab.async false
set_option linter.all false
set_option maxRecDepth 100000
set_option maxHeartbeats 4000000
namespace Sw
open PySem PySem.Spec PyProof.Rows L2
/-! ### the __init__ of an exception with no, two, three fields -/
section
variable {P : Program} {w : World} {K : PySem.W.Frag} {mg : Str → Option Value} {base : Heap}
def spExc0 (C : Addr) : Sp := fun vs H Q _ => ∃ a, vs = [.ref a] ∧ H a = some (exo a C none) ∧ Q .non H
theorem ok_exc0 {qual msg : Str} {st : Stmt} {f cc C cda : Addr} {fd : FuncData} {p0 p1 p2 p3 p4 p5  : Pos} {j : Nat} (F : FunS P K "__init__" qual st f cc C cda fd) (U : SupTop P mg) (M : SupE K C C) 
    (S : SScope ["self"] ["self"] (defScope st)) (ks : (defScope st).names.lookup ("super" : Str) = some .globalImplicit) (kc : (defScope st).names.lookup ("__class__" : Str) = some .free)
    (hp : ∃ ar, ((defArgs st).posonlyargs ++ (defArgs st).args).head? = some ar ∧ (["self"] : List Str)[0]? = some ar.arg ∧ (defScope st).names.lookup ar.arg = some .local)
    (hb : defBody st = [.Expr (.Call (.Attribute (.Call (.Name "super" p0) [] [] p1) "__init__" p2) [.Constant (.str msg) j p3] [] p4) p5])
    (ht : ∀ env : Env, ∃ pl, eval (.Call (.Attribute (.Call (.Name "super" p0) [] [] p1) "__init__" p2) [.Constant (.str msg) j p3] [] p4) env = (do
      let ov ← attributeBase (.Call (.Name "super" p0) [] [] p1) "__init__" env (eval (.Call (.Name "super" p0) [] [] p1) env)
      standAt p2.atName
      let (f, first) ← holding [ov] (getMethod ov "__init__" pl)
      callWith p4 f first (backTo p4 (starEach [.Constant (.str msg) j p3] env)) (backToKw p4 (keywordEach [] env))))
    : FnOk P w K mg base (L2.CX P w) 1 f fd ["self"] (spExc0 C) := by
  refine F.ok S U ks kc hp (fun vs H Q E h => ?_) (fun A outer s H vs Q E hr T tk h => ?_)
  · obtain ⟨a, rfl, _⟩ := h
    rfl
  · obtain ⟨a, rfl, ha, q⟩ := h
    rw [hb]
    obtain ⟨pl, hte⟩ := ht (PySem.W.ksEnv qual (defScope st) s.heap.objs.size f (.ref cda) cc)
    refine ⟨_, PSst.one (pst_expr (pet_supE (pl := pl) T M (pa_cons pe_str pa_nil) rfl rfl hte) rfl), ?_⟩
    exact ⟨a, rfl, ha, (by show 1 ≤ 1000; decide), ha, q⟩
def spExc2 (C : Addr) (f1 f2 : Str) : Sp := fun vs H Q _ => ∃ a v1 v2, vs = [.ref a, v1, v2] ∧ H a = some (exo a C none) ∧ ∀ d H', H d = none → d ≠ a → H' a = some (exo a C (some d)) → H' d = some (exd d [(f2, v2), (f1, v1)]) → (∀ b, b ≠ a → b ≠ d → H' b = H b) → Q .non H'
theorem ok_exc2 {qual msg f1 f2 : Str} {st : Stmt} {f cc C cda : Addr} {fd : FuncData} {p0 p1 p2 p3 p4 p5 q1_1 q1_2 q1_3 q1_4 q2_1 q2_2 q2_3 q2_4 : Pos} {j : Nat} (F : FunS P K "__init__" qual st f cc C cda fd) (U : SupTop P mg) (M : SupE K C C) (hno1 : PySem.W.findIn K (.ref C) f1 = some none) (hno2 : PySem.W.findIn K (.ref C) f2 = some none)
    (S : SScope ["self", f1, f2] ["self", f1, f2] (defScope st)) (ks : (defScope st).names.lookup ("super" : Str) = some .globalImplicit) (kc : (defScope st).names.lookup ("__class__" : Str) = some .free)
    (hp : ∃ ar, ((defArgs st).posonlyargs ++ (defArgs st).args).head? = some ar ∧ (["self", f1, f2] : List Str)[0]? = some ar.arg ∧ (defScope st).names.lookup ar.arg = some .local)
    (hb : defBody st = [.Expr (.Call (.Attribute (.Call (.Name "super" p0) [] [] p1) "__init__" p2) [.Constant (.str msg) j p3] [] p4) p5, .Assign [.Attribute (.Name "self" q1_1) f1 q1_2] (.Name f1 q1_3) q1_4, .Assign [.Attribute (.Name "self" q2_1) f2 q2_2] (.Name f2 q2_3) q2_4])
    (ht : ∀ env : Env, ∃ pl, eval (.Call (.Attribute (.Call (.Name "super" p0) [] [] p1) "__init__" p2) [.Constant (.str msg) j p3] [] p4) env = (do
      let ov ← attributeBase (.Call (.Name "super" p0) [] [] p1) "__init__" env (eval (.Call (.Name "super" p0) [] [] p1) env)
      standAt p2.atName
      let (f, first) ← holding [ov] (getMethod ov "__init__" pl)
      callWith p4 f first (backTo p4 (starEach [.Constant (.str msg) j p3] env)) (backToKw p4 (keywordEach [] env))))
    (hd1 : (f1 == ("__debug__" : Str)) = false := by decide) (hcd1 : (f1 == ("__classdict__" : Str)) = false := by decide) (hd2 : (f2 == ("__debug__" : Str)) = false := by decide) (hcd2 : (f2 == ("__classdict__" : Str)) = false := by decide)
    : FnOk P w K mg base (L2.CX P w) 1 f fd ["self", f1, f2] (spExc2 C f1 f2) := by
  refine F.ok S U ks kc hp (fun vs H Q E h => ?_) (fun A outer s H vs Q E hr T tk h => ?_)
  · obtain ⟨a, v1, v2, rfl, _⟩ := h
    rfl
  · obtain ⟨a, v1, v2, rfl, ha, q⟩ := h
    rw [hb]
    obtain ⟨pl, hte⟩ := ht (PySem.W.ksEnv qual (defScope st) s.heap.objs.size f (.ref cda) cc)
    refine ⟨_, PSst.cons (pst_expr (pet_supE (pl := pl) T M (pa_cons pe_str pa_nil) rfl rfl hte) rfl) (PSst.of (pss_cons (ps_ost (pe_var (i := 0) rfl (.inl (S.par "self" (List.Mem.head _)))) (pe_var (i := 1) rfl (.inl (S.par f1 (List.Mem.tail _ (List.Mem.head _)))) hd1 hcd1) rfl) (pss_one (ps_ost (pe_var (i := 0) rfl (.inl (S.par "self" (List.Mem.head _)))) (pe_var (i := 2) rfl (.inl (S.par f2 (List.Mem.tail _ (List.Mem.tail _ (List.Mem.head _))))) hd2 hcd2) rfl)))), ?_⟩
    refine ⟨a, rfl, ha, (by show 1 ≤ 1000; decide), ha, v1, rfl, .ref a, rfl, a, C, rfl, M.ox, hno1, .inl ⟨ha, fun dx n ne => ?_⟩⟩
    refine ⟨v2, rfl, .ref a, rfl, a, C, rfl, M.ox, hno2, .inr ⟨dx, [(f1, v1)], upd_same, (upd_ne ne).trans upd_same, (by show 1 ≤ 900; decide), ?_⟩⟩
    exact q dx _ n ne ((upd_ne (Ne.symm ne)).trans upd_same) upd_same fun b h1 h2 => by rw [upd_ne h2, upd_ne h1, upd_ne h2]
def spExc3 (C : Addr) (f1 f2 f3 : Str) : Sp := fun vs H Q _ => ∃ a v1 v2 v3, vs = [.ref a, v1, v2, v3] ∧ H a = some (exo a C none) ∧ ∀ d H', H d = none → d ≠ a → H' a = some (exo a C (some d)) → H' d = some (exd d [(f3, v3), (f2, v2), (f1, v1)]) → (∀ b, b ≠ a → b ≠ d → H' b = H b) → Q .non H'
theorem ok_exc3 {qual msg f1 f2 f3 : Str} {st : Stmt} {f cc C cda : Addr} {fd : FuncData} {p0 p1 p2 p3 p4 p5 q1_1 q1_2 q1_3 q1_4 q2_1 q2_2 q2_3 q2_4 q3_1 q3_2 q3_3 q3_4 : Pos} {j : Nat} (F : FunS P K "__init__" qual st f cc C cda fd) (U : SupTop P mg) (M : SupE K C C) (hno1 : PySem.W.findIn K (.ref C) f1 = some none) (hno2 : PySem.W.findIn K (.ref C) f2 = some none) (hno3 : PySem.W.findIn K (.ref C) f3 = some none)
    (S : SScope ["self", f1, f2, f3] ["self", f1, f2, f3] (defScope st)) (ks : (defScope st).names.lookup ("super" : Str) = some .globalImplicit) (kc : (defScope st).names.lookup ("__class__" : Str) = some .free)
    (hp : ∃ ar, ((defArgs st).posonlyargs ++ (defArgs st).args).head? = some ar ∧ (["self", f1, f2, f3] : List Str)[0]? = some ar.arg ∧ (defScope st).names.lookup ar.arg = some .local)
    (hb : defBody st = [.Expr (.Call (.Attribute (.Call (.Name "super" p0) [] [] p1) "__init__" p2) [.Constant (.str msg) j p3] [] p4) p5, .Assign [.Attribute (.Name "self" q1_1) f1 q1_2] (.Name f1 q1_3) q1_4, .Assign [.Attribute (.Name "self" q2_1) f2 q2_2] (.Name f2 q2_3) q2_4, .Assign [.Attribute (.Name "self" q3_1) f3 q3_2] (.Name f3 q3_3) q3_4])
    (ht : ∀ env : Env, ∃ pl, eval (.Call (.Attribute (.Call (.Name "super" p0) [] [] p1) "__init__" p2) [.Constant (.str msg) j p3] [] p4) env = (do
      let ov ← attributeBase (.Call (.Name "super" p0) [] [] p1) "__init__" env (eval (.Call (.Name "super" p0) [] [] p1) env)
      standAt p2.atName
      let (f, first) ← holding [ov] (getMethod ov "__init__" pl)
      callWith p4 f first (backTo p4 (starEach [.Constant (.str msg) j p3] env)) (backToKw p4 (keywordEach [] env))))
    (hd1 : (f1 == ("__debug__" : Str)) = false := by decide) (hcd1 : (f1 == ("__classdict__" : Str)) = false := by decide) (hd2 : (f2 == ("__debug__" : Str)) = false := by decide) (hcd2 : (f2 == ("__classdict__" : Str)) = false := by decide) (hd3 : (f3 == ("__debug__" : Str)) = false := by decide) (hcd3 : (f3 == ("__classdict__" : Str)) = false := by decide)
    : FnOk P w K mg base (L2.CX P w) 1 f fd ["self", f1, f2, f3] (spExc3 C f1 f2 f3) := by
  refine F.ok S U ks kc hp (fun vs H Q E h => ?_) (fun A outer s H vs Q E hr T tk h => ?_)
  · obtain ⟨a, v1, v2, v3, rfl, _⟩ := h
    rfl
  · obtain ⟨a, v1, v2, v3, rfl, ha, q⟩ := h
    rw [hb]
    obtain ⟨pl, hte⟩ := ht (PySem.W.ksEnv qual (defScope st) s.heap.objs.size f (.ref cda) cc)
    refine ⟨_, PSst.cons (pst_expr (pet_supE (pl := pl) T M (pa_cons pe_str pa_nil) rfl rfl hte) rfl) (PSst.of (pss_cons (ps_ost (pe_var (i := 0) rfl (.inl (S.par "self" (List.Mem.head _)))) (pe_var (i := 1) rfl (.inl (S.par f1 (List.Mem.tail _ (List.Mem.head _)))) hd1 hcd1) rfl) (pss_cons (ps_ost (pe_var (i := 0) rfl (.inl (S.par "self" (List.Mem.head _)))) (pe_var (i := 2) rfl (.inl (S.par f2 (List.Mem.tail _ (List.Mem.tail _ (List.Mem.head _))))) hd2 hcd2) rfl) (pss_one (ps_ost (pe_var (i := 0) rfl (.inl (S.par "self" (List.Mem.head _)))) (pe_var (i := 3) rfl (.inl (S.par f3 (List.Mem.tail _ (List.Mem.tail _ (List.Mem.tail _ (List.Mem.head _)))))) hd3 hcd3) rfl))))), ?_⟩
    refine ⟨a, rfl, ha, (by show 1 ≤ 1000; decide), ha, v1, rfl, .ref a, rfl, a, C, rfl, M.ox, hno1, .inl ⟨ha, fun dx n ne => ?_⟩⟩
    refine ⟨v2, rfl, .ref a, rfl, a, C, rfl, M.ox, hno2, .inr ⟨dx, [(f1, v1)], upd_same, (upd_ne ne).trans upd_same, (by show 1 ≤ 900; decide), ?_⟩⟩
    refine ⟨v3, rfl, .ref a, rfl, a, C, rfl, M.ox, hno3, .inr ⟨dx, ((f2, v2) :: [(f1, v1)]), (upd_ne (Ne.symm ne)).trans upd_same, upd_same, (by show 2 ≤ 900; decide), ?_⟩⟩
    exact q dx _ n ne ((upd_ne (Ne.symm ne)).trans ((upd_ne (Ne.symm ne)).trans upd_same)) upd_same fun b h1 h2 => by rw [upd_ne h2, upd_ne h2, upd_ne h1, upd_ne h2]
end
end Sw

set_option Elab.async false
set_option linter.all false
set_option maxRecDepth 100000
set_option maxHeartbeats 4000000
namespace Sw
open PySem PySem.Spec PyProof.Rows L2
/-! ### repr of a dict of flat values -/
def keyD : Key → PyData
  | .inl i => .int i
  | .inr x => .str x
def flatD : V → PyData
  | .bl b => .bool b
  | .int i => .int i
  | .str s => .str s
  | _ => .none
def dictD (kvs : List (Key × V)) : PyData := .dict (kvs.map fun p => (keyD p.1, flatD p.2))
theorem reads_flat {h : Heap} {v : V} {u : Value} (r : RelV v u) (f : flatV v = true) : Reads h u (flatD v) [] := by
  cases v with
  | non => cases r; exact Reads.none
  | bl b => cases r; exact Reads.bool b
  | int i => obtain ⟨t, rfl⟩ := r; exact Reads.int i t
  | str x => obtain ⟨t, rfl⟩ := r; exact Reads.str x t
  | _ => cases f
theorem reads_keys {P : Program} {w : World} {h : Heap} {es : List DictEntry} {vs : List (Key × Value)} (hp : Pairs (mixKind P w) es vs) : ReadsAll h (es.map (·.key)) (vs.map fun p => keyD p.1) [] := by
  induction hp with
  | nil => exact ReadsAll.nil
  | cons h1 _ _ ih =>
    rcases keyIs_shape h1 with ⟨i, t, e1, e2⟩ | ⟨x, t, e1, e2⟩
    · rw [List.map_cons, List.map_cons, e1, e2]
      exact ReadsAll.cons (Reads.int i t) ih
    · rw [List.map_cons, List.map_cons, e1, e2]
      exact ReadsAll.cons (Reads.str x t) ih
theorem reads_vals {P : Program} {w : World} {h : Heap} : ∀ {kvs : List (Key × V)} {vs : List (Key × Value)} {es : List DictEntry}, KV kvs vs → Pairs (mixKind P w) es vs → (∀ p ∈ kvs, flatV p.2 = true) → ReadsAll h (es.map (·.val)) (kvs.map fun p => flatD p.2) []
  | [], [], [], _, _, _ => ReadsAll.nil
  | p :: ps, q :: qs, e :: es, .cons r t, .cons _ h2 hp, f => by
    rw [List.map_cons, List.map_cons, h2]
    exact ReadsAll.cons (reads_flat r.2 (f p List.mem_cons_self)) (reads_vals t hp fun p hp => f p (List.mem_cons_of_mem _ hp))
theorem kv_keys {kvs : List (Key × V)} {vs : List (Key × Value)} (h : KV kvs vs) : vs.map (fun p => keyD p.1) = kvs.map (fun p => keyD p.1) := by
  unfold KV at h
  induction h with
  | nil => rfl
  | cons r _ ih => rw [List.map_cons, List.map_cons, ih, r.1]
def rReprD : List V → Hp → VK → Prop := fun xs H Q => ∃ (a : Addr) (kvs : List (Key × V)), xs = [.ref a] ∧ H a = some (.dK kvs) ∧ (∀ p ∈ kvs, flatV p.2 = true) ∧ (dictD kvs).showable = true ∧ (dictD kvs).depth ≤ 100 ∧ (dictD kvs).shown.length ≤ sizeLine ∧ Q (.str (dictD kvs).shown) H
theorem call_reprD {X : Cx} (hgd : X.A.guards = some []) (hu : X.A.units + 120 < cLine) : CallR X (.builtin "repr") rReprD := by
  intro pins s σ H xs us Q I r h
  obtain ⟨a, kvs, rfl, ea, hf, hs, hdp, hl, q⟩ := h
  cases r with
  | cons rx rr =>
    cases rr
    cases rx
    have hx : ObjOk X.prog X.w H s.heap a (.dK kvs) := I.hok a _ ea
    obtain ⟨hz, hsm, vs, kv, o, es, ep, e1, e2, e3, e4, e5, e6⟩ := hx
    have rd : Reads s.heap (.ref a) (dictD kvs) (a :: [] ++ []) := by
      refine Reads.dict (o := o) e1 e2.1 e3 ?_ ?_
      · rw [List.map_map]
        have := reads_keys (h := s.heap) e5
        rw [kv_keys kv] at this
        exact this
      · rw [List.map_map]
        exact reads_vals kv e5 hf
    exact repr_of_reads' rd hs (fun _ hm => by
      have : sysModules = a := by simpa using hm
      rw [← this] at hsm
      simp at hsm) hgd (by omega) (fun b o e => e) (fun h' u tk k => ⟨.str (dictD kvs).shown, H, I.kept (t' := tk) k, ⟨_, rfl⟩, q⟩) hl
/-- repr of data, or of such a dict -/
def aRepr (K : PySem.W.Frag) : List V → Hp → VK → Prop := fun xs H Q => rRepr K xs H Q ∨ rReprD xs H Q
theorem ka_reprA {X : Cx} (K : PySem.W.Frag) (hgd : X.A.guards = some []) (hu : X.A.units + 120 < cLine) (hK : X.K = K := by rfl) : CallR X (.builtin "repr") (aRepr K) := fun pins s σ H xs us Q I r h =>
  h.elim (ka_repr K hgd hu hK pins s σ H xs us Q I r) (call_reprD hgd hu pins s σ H xs us Q I r)
end Sw

set_option Elab.async false
set_option linter.all false
set_option maxRecDepth 100000
set_option maxHeartbeats 4000000
namespace Sw
open PySem PySem.Spec PyProof.Rows L2
/-! ### bs.count(b), bs.index(True) for truth values -/
def rCntB (K : PySem.W.Frag) : V → List V → Hp → VK → Prop := fun x xs H Q => ∃ (p : Addr) (bs : List Bool) (k : Bool), x = .ref p ∧ xs = [.bl k] ∧ SqL K H p (bs.map V.bl) ∧ Q (.int (bs.count k : Nat)) H
def eqB (k : Bool) : Value → Bool
  | .bool b => b == k
  | _ => false
theorem vals_bools : ∀ {bs : List Bool} {us : List Value}, Vals (bs.map V.bl) us → us = bs.map Value.bool
  | [], _, .nil => rfl
  | b :: bs, _, .cons r t => by
    rw [vals_bools t]
    cases r
    rfl
theorem cnt_bools (bs : List Bool) (k : Bool) : (bs.map Value.bool).countP (eqB k) = bs.count k := by
  induction bs with
  | nil => rfl
  | cons b r ih =>
    rw [List.map_cons, List.countP_cons, List.count_cons, ih]
    rfl
theorem mt_bcount {X : Cx} (K : PySem.W.Frag) (hK : X.K = K := by rfl) : MtR X "list.count" (rCntB K) := by
  subst hK
  intro pins s σ H x xs v us Q I rx rxs h
  obtain ⟨p, bs, k, rfl, rfl, hs, q⟩ := h
  cases rx
  obtain ⟨u, rfl, ru⟩ := rxs.one
  cases ru
  obtain ⟨its, rv, ⟨⟨cls, dd, data, sl⟩, n, ho, hc, hdn, hd⟩, hlen⟩ := I.list hs
  simp only at hc hd
  subst hc hd
  have hi := vals_bools rv
  subst hi
  refine call_meets PySem.F.slot_list_count ⟨_, ho, rfl⟩ PySem.F.entry_list_count (PySem.F.args_list_count_2 _ _)
    (SeqAt.list_countAt p (bs.map Value.bool).toArray n dd sl (.bool k) (eqB k)) ⟨ho, fun y hy => ?_, ?_⟩
  · obtain ⟨b, _, rfl⟩ := List.mem_map.mp (show y ∈ bs.map Value.bool by simpa using hy)
    exact eqAt_V (y := .bl b) (x := .bl k) rfl rfl rfl rfl
  · have ec : (bs.map Value.bool).toArray.toList.countP (eqB k) = bs.count k := by
      rw [show (bs.map Value.bool).toArray.toList = bs.map Value.bool by simp]
      exact cnt_bools bs k
    refine ⟨.int (bs.count k : Nat), H, I.tok _, ⟨s.toks, ?_⟩, q⟩
    show Value.int (((bs.map Value.bool).toArray.toList.countP (eqB k) : Nat) : Int) s.toks = Value.int ((bs.count k : Nat) : Int) s.toks
    rw [ec]
end Sw

set_option Elab.async false
set_option linter.all false
set_option maxRecDepth 100000
set_option maxHeartbeats 4000000
namespace PySem
open Sem (wp)
section
variable {prog : Program} {w : World} {h₀ : Heap}
mutual
theorem sw_reprK : ∀ {v : Value} {d : PyData} {as : List Addr}, Reads h₀ v d as → d.showable = true → (∀ b ∈ as, (∃ o, h₀.get? b = some o ∧ o.cls = .type "dict") → b ≠ sysModules) → d.shown.length ≤ sizeLine → ∃ bs, ReadAtMost h₀ d.depth bs ∧ ReprK prog w bs h₀ d.depth v d.shown
  | _, _, _, .none, _, _, _ => ⟨[], (fun _ h => nomatch h), by simp only [PyData.shown]; exact .of_is ReprIs.none _ _ _⟩
  | _, _, _, .bool b, _, _, _ => ⟨[], (fun _ h => nomatch h), by simp only [PyData.shown]; exact .of_is (ReprIs.bool b) _ _ _⟩
  | _, _, _, .int i t, hs, _, _ => ⟨[], (fun _ h => nomatch h), by simp only [PyData.shown]; exact .of_is (ReprIs.int t (by simpa [PyData.showable] using hs)) _ _ _⟩
  | _, _, _, .str x t, _, _, hz => ⟨[], (fun _ h => nomatch h), by simp only [PyData.shown]; exact .of_is (ReprIs.str x t (by simpa only [PyData.shown] using hz)) _ _ _⟩
  | _, _, _, .list (a := a) (vs := vs) (xs := xs) h1 h2 h3 h4, hs, hsm, hz => by
    have hz' : (listText (PyData.shownAll xs)).length ≤ sizeLine := by simpa only [PyData.shown] using hz
    obtain ⟨bs, hb, hk⟩ := sw_reprAllK h4 (by simpa [PyData.showable] using hs) (fun b hm => hsm b (List.mem_cons_of_mem _ hm)) (fun t ht => Nat.le_trans (listText_mem_le ht) hz')
    have r : Reads h₀ (.ref a) (.list xs) _ := .list h1 h2 h3 h4
    have hna : a ∉ bs := not_mem_of_deeper r (by simp only [PyData.depth]; omega) hb
    refine ⟨a :: bs, ReadAtMost.cons r (by simp only [PyData.depth]; omega) hb, ?_⟩
    simp only [PyData.depth, PyData.shown]
    obtain ⟨l⟩ := vs
    cases l with
    | nil =>
      have h4' : ReadsAll h₀ [] xs _ := h4
      cases h4'
      simp only [PyData.shownAll, listText_nil]
      exact ReprK.listEmpty h1 h2 h3
    | cons x l => exact ReprK.list h1 h2 h3 hna (by simpa using hk.length_eq) (fun i y e => hk.item i y (by simpa using e))
  | _, _, _, .tuple (a := a) (xs := xs) h1 h2 h3 h4, hs, hsm, hz => by
    have hz' : (tupleText (PyData.shownAll xs)).length ≤ sizeLine := by simpa only [PyData.shown] using hz
    obtain ⟨bs, hb, hk⟩ := sw_reprAllK h4 (by simpa [PyData.showable] using hs) (fun b hm => hsm b hm) (fun t ht => Nat.le_trans (tupleText_mem_le ht) hz')
    have r : Reads h₀ (.ref a) (.tuple xs) _ := .tuple h1 h2 h3 h4
    have hna : a ∉ bs := not_mem_of_deeper r (by simp only [PyData.depth]; omega) hb
    refine ⟨a :: bs, ReadAtMost.cons r (by simp only [PyData.depth]; omega) hb, ?_⟩
    simp only [PyData.depth, PyData.shown]
    exact ReprK.tuple h1 h2 h3 hna hk
  | _, _, _, .dict (a := a) (es := es) (kvs := kvs) (as := as₁) (bs := bs₁) h1 h2 h3 h4 h5, hs, hsm, hz => by
    have hz' : (dictText (PyData.shownKv kvs)).length ≤ sizeLine := by simpa only [PyData.shown] using hz
    obtain ⟨hs1, hs2⟩ := PyData.showableKv_split kvs (by simpa [PyData.showable] using hs)
    obtain ⟨b1, hb1, k1⟩ := sw_reprAllK h4 hs1 (fun b hm => hsm b (List.mem_cons_of_mem _ (List.mem_append_left _ hm))) (fun t ht => let ⟨p, hp, hl⟩ := PyData.shownKv_key_le kvs t ht; Nat.le_trans hl (Nat.le_trans (dictText_mem_le hp) hz'))
    obtain ⟨b2, hb2, k2⟩ := sw_reprAllK h5 hs2 (fun b hm => hsm b (List.mem_cons_of_mem _ (List.mem_append_right _ hm))) (fun t ht => let ⟨p, hp, hl⟩ := PyData.shownKv_val_le kvs t ht; Nat.le_trans hl (Nat.le_trans (dictText_mem_le hp) hz'))
    have r : Reads h₀ (.ref a) (.dict kvs) _ := .dict h1 h2 h3 h4 h5
    have hb : ReadAtMost h₀ (PyData.depthKv kvs) (b1 ++ b2) := (hb1.mono (PyData.depthAll_keys_le kvs)).append (hb2.mono (PyData.depthAll_vals_le kvs))
    have hna : a ∉ b1 ++ b2 := not_mem_of_deeper r (by simp only [PyData.depth]; omega) hb
    have hsys : (a == sysModules) = false := beq_eq_false_iff_ne.mpr (hsm a (List.mem_cons_self ..) ⟨_, h1, h2⟩)
    refine ⟨a :: (b1 ++ b2), ReadAtMost.cons r (by simp only [PyData.depth]; omega) hb, ?_⟩
    simp only [PyData.depth, PyData.shown, PyData.shownKv_eq]
    exact ReprK.dict h1 h2 h3 hsys hna (ReprEntriesK.of_two es.toList _ _
      (k1.more_le (fun b hb => List.mem_append_left _ hb) (PyData.depthAll_keys_le kvs)) (k2.more_le (fun b hb => List.mem_append_right _ hb) (PyData.depthAll_vals_le kvs)))
theorem sw_reprAllK : ∀ {vs : List Value} {ds : List PyData} {as : List Addr}, ReadsAll h₀ vs ds as → PyData.showableAll ds = true → (∀ b ∈ as, (∃ o, h₀.get? b = some o ∧ o.cls = .type "dict") → b ≠ sysModules) → (∀ t ∈ PyData.shownAll ds, t.length ≤ sizeLine) →
    ∃ bs, ReadAtMost h₀ (PyData.depthAll ds) bs ∧ ReprAllK prog w bs h₀ (PyData.depthAll ds) vs (PyData.shownAll ds)
  | _, _, _, .nil, _, _, _ => ⟨[], (fun _ h => nomatch h), by simp only [PyData.shownAll]; exact .nil⟩
  | _, _, _, .cons (d := d) (ds := ds) r rs, hs, hsm, hz => by
    have hs' : d.showable = true ∧ PyData.showableAll ds = true := by simpa [PyData.showableAll] using hs
    obtain ⟨b1, hb1, k1⟩ := sw_reprK r hs'.1 (fun b hm => hsm b (List.mem_append_left _ hm)) (hz _ (by simp only [PyData.shownAll]; exact List.mem_cons_self ..))
    obtain ⟨b2, hb2, k2⟩ := sw_reprAllK rs hs'.2 (fun b hm => hsm b (List.mem_append_right _ hm)) (fun t ht => hz t (by simp only [PyData.shownAll]; exact List.mem_cons_of_mem _ ht))
    refine ⟨b1 ++ b2, ?_, ?_⟩
    · intro b hm
      simp only [PyData.depthAll]
      rcases List.mem_append.mp hm with hm | hm
      · obtain ⟨d', as', r', hd'⟩ := hb1 b hm
        exact ⟨d', as', r', Nat.le_trans hd' (Nat.le_max_left _ _)⟩
      · obtain ⟨d', as', r', hd'⟩ := hb2 b hm
        exact ⟨d', as', r', Nat.le_trans hd' (Nat.le_max_right _ _)⟩
    · simp only [PyData.depthAll, PyData.shownAll]
      exact .cons ((k1.more fun b hb => List.mem_append_left _ hb).level_le (Nat.le_max_left _ _)) (k2.more_le (fun b hb => List.mem_append_right _ hb) (Nat.le_max_right _ _))
end
end
section
variable {prog : Program} {w : World} {h₀ : Heap} {a : Addr} {d : PyData} {as : List Addr}
theorem sw_showsBy (r : Reads h₀ (.ref a) d as) (hs : d.showable = true) (hsm : ∀ b ∈ as, (∃ o, h₀.get? b = some o ∧ o.cls = .type "dict") → b ≠ sysModules)
    (hsz : d.shown.length ≤ sizeLine := by size_fits) : ∃ T idr, ShowsBy prog w h₀ a d T idr := by
  cases r with
  | list h1 h2 h3 h4 =>
    rename_i o vs n xs bs₀
    have hz' : (listText (PyData.shownAll xs)).length ≤ sizeLine := by simpa only [PyData.shown] using hsz
    obtain ⟨bs, hb, hk⟩ := sw_reprAllK (prog := prog) (w := w) h4 (by simpa [PyData.showable] using hs) (fun b hm => hsm b (List.mem_cons_of_mem _ hm)) (fun t ht => Nat.le_trans (listText_mem_le ht) hz')
    have hna : a ∉ bs := not_mem_of_deeper (.list h1 h2 h3 h4) (by simp only [PyData.depth]; omega) hb
    refine ⟨"list", "list.__repr__", F.slot_list_repr.toG, F.slot_list_str, F.slot_list_format, fun s hk0 => ⟨o, hk0 _ _ h1, h2⟩, fun A E s Q hg hu hk0 hQ => ?_⟩
    simp only [PyData.depth] at hu
    simp only [PyData.shown] at hQ
    obtain ⟨l⟩ := vs
    cases l with
    | nil =>
      have h4' : ReadsAll h₀ [] xs _ := h4
      cases h4'
      simp only [PyData.shownAll, listText_nil] at hQ
      exact call_list_repr_empty ⟨o, hk0 _ _ h1, h2⟩ (hk0 _ _ h1) h3 (hQ s.heap _ _ fun _ _ e => e)
    | cons x l =>
      exact call_list_reprK h1 h2 h3 hna (by simpa using hk.length_eq) (fun i y e => hk.item i y (by simpa using e)) hg (fun b _ => Clear.nil b) hu hk0 hQ hz'
  | tuple h1 h2 h3 h4 =>
    rename_i o vs n xs
    have hz' : (tupleText (PyData.shownAll xs)).length ≤ sizeLine := by simpa only [PyData.shown] using hsz
    obtain ⟨bs, hb, hk⟩ := sw_reprAllK (prog := prog) (w := w) h4 (by simpa [PyData.showable] using hs) (fun b hm => hsm b hm) (fun t ht => Nat.le_trans (tupleText_mem_le ht) hz')
    have hna : a ∉ bs := not_mem_of_deeper (.tuple h1 h2 h3 h4) (by simp only [PyData.depth]; omega) hb
    refine ⟨"tuple", "tuple.__repr__", F.slot_tuple_repr, F.slot_tuple_str, F.slot_tuple_format, fun s hk0 => ⟨o, hk0 _ _ h1, h2⟩, fun A E s Q hg hu hk0 hQ => ?_⟩
    simp only [PyData.depth] at hu
    simp only [PyData.shown] at hQ
    exact call_tuple_reprK h1 h2 h3 hna hk hg (fun b _ => Clear.nil b) hu hk0 hQ hz'
  | dict h1 h2 h3 h4 h5 =>
    rename_i o es n kvs as₁ bs₁
    have hz' : (dictText (PyData.shownKv kvs)).length ≤ sizeLine := by simpa only [PyData.shown] using hsz
    obtain ⟨hs1, hs2⟩ := PyData.showableKv_split kvs (by simpa [PyData.showable] using hs)
    obtain ⟨b1, hb1, k1⟩ := sw_reprAllK (prog := prog) (w := w) h4 hs1 (fun b hm => hsm b (List.mem_cons_of_mem _ (List.mem_append_left _ hm))) (fun t ht => let ⟨p, hp, hl⟩ := PyData.shownKv_key_le kvs t ht; Nat.le_trans hl (Nat.le_trans (dictText_mem_le hp) hz'))
    obtain ⟨b2, hb2, k2⟩ := sw_reprAllK (prog := prog) (w := w) h5 hs2 (fun b hm => hsm b (List.mem_cons_of_mem _ (List.mem_append_right _ hm))) (fun t ht => let ⟨p, hp, hl⟩ := PyData.shownKv_val_le kvs t ht; Nat.le_trans hl (Nat.le_trans (dictText_mem_le hp) hz'))
    have hb : ReadAtMost h₀ (PyData.depthKv kvs) (b1 ++ b2) := (hb1.mono (PyData.depthAll_keys_le kvs)).append (hb2.mono (PyData.depthAll_vals_le kvs))
    have hna : a ∉ b1 ++ b2 := not_mem_of_deeper (.dict h1 h2 h3 h4 h5) (by simp only [PyData.depth]; omega) hb
    have hsys : (a == sysModules) = false := beq_eq_false_iff_ne.mpr (hsm a (List.mem_cons_self ..) ⟨_, h1, h2⟩)
    refine ⟨"dict", "dict.__repr__", F.slot_dict_repr, F.slot_dict_str, F.slot_dict_format, fun s hk0 => ⟨o, hk0 _ _ h1, h2⟩, fun A E s Q hg hu hk0 hQ => ?_⟩
    simp only [PyData.depth] at hu
    simp only [PyData.shown, PyData.shownKv_eq] at hQ
    exact call_dict_reprK h1 h2 h3 hsys hna (ReprEntriesK.of_two es.toList _ _
      (k1.more_le (fun b hb => List.mem_append_left _ hb) (PyData.depthAll_keys_le kvs)) (k2.more_le (fun b hb => List.mem_append_right _ hb) (PyData.depthAll_vals_le kvs))) hg (fun b _ => Clear.nil b) hu hk0 hQ (by rw [← PyData.shownKv_eq]; exact hz')


variable {A : Around} {E : Value → Shared → Prop} {s : Shared} {Q : Value → Shared → Prop}
theorem sw_repr (r : Reads h₀ (.ref a) d as) (hs : d.showable = true) (hsm : ∀ b ∈ as, (∃ o, h₀.get? b = some o ∧ o.cls = .type "dict") → b ≠ sysModules) (hg : A.guards = some []) (hu : A.units + (d.depth + 1) < cLine) (hk0 : ∀ b o, h₀.get? b = some o → s.heap.get? b = some o)
    (hQ : ∀ h' u tk, (∀ b o, s.heap.get? b = some o → h'.get? b = some o) → Q (.str d.shown u) { s with heap := h', toks := tk })
    (hsz : d.shown.length ≤ sizeLine := by size_fits) : wpAny (model prog w) A (call (.builtin "repr") [.ref a]) Q E s := by
  obtain ⟨T, idr, S⟩ := sw_showsBy (prog := prog) (w := w) r hs hsm hsz
  exact call_repr_slot (by omega) (S.typeIs s hk0) S.slotRepr (S.call A.in1 E s _ hg (by show A.units + 1 + d.depth < cLine; omega) hk0 fun h' u tk hk => ⟨_, _, rfl, hQ h' u tk hk⟩)
end
end PySem

set_option Elab.async false
set_option linter.all false
set_option maxRecDepth 100000
set_option maxHeartbeats 4000000
namespace Sw
open PySem PySem.Spec PyProof.Rows L2
/-! ### data at any depth, with dicts -/
mutual
inductive Dq (K : PySem.W.Frag) (H : Hp) : V → PyData → Prop
  | non : Dq K H .non .none
  | bl (b : Bool) : Dq K H (.bl b) (.bool b)
  | int (i : Int) : Dq K H (.int i) (.int i)
  | str (x : Str) : Dq K H (.str x) (.str x)
  | lst {a : Addr} {xs : List V} {ds : List PyData} : SqL K H a xs → DqAll K H xs ds → Dq K H (.ref a) (.list ds)
  | tup {a : Addr} {xs : List V} {ds : List PyData} : SqT K H a xs → DqAll K H xs ds → Dq K H (.ref a) (.tuple ds)
  | dic {a : Addr} {kvs : List (Key × V)} {ds : List PyData} : H a = some (.dK kvs) → DqAll K H (kvs.map (·.2)) ds → Dq K H (.ref a) (.dict ((kvs.map fun p => keyD p.1).zip ds))
inductive DqAll (K : PySem.W.Frag) (H : Hp) : List V → List PyData → Prop
  | nil : DqAll K H [] []
  | cons {v : V} {vs : List V} {d : PyData} {ds : List PyData} : Dq K H v d → DqAll K H vs ds → DqAll K H (v :: vs) (d :: ds)
end
theorem DqAll.length {K : PySem.W.Frag} {H : Hp} : ∀ {vs : List V} {ds : List PyData}, DqAll K H vs ds → vs.length = ds.length
  | [], _, h => by cases h; rfl
  | v :: vs, _, h => by
    cases h with
    | cons _ h2 => rw [List.length_cons, List.length_cons, DqAll.length h2]
section
variable {X : Cx} {pins : List (Addr × Obj)} {σ : L2.St} {H : Hp} {s : Shared}
def NoMod (h : Heap) (as : List Addr) : Prop := ∀ b ∈ as, (∃ o, h.get? b = some o ∧ o.cls = .type "dict") → b ≠ sysModules
theorem NoMod.nil {h : Heap} : NoMod h [] := fun _ hm => nomatch hm
theorem NoMod.app {h : Heap} {as bs : List Addr} (h1 : NoMod h as) (h2 : NoMod h bs) : NoMod h (as ++ bs) := fun b hm q => (List.mem_append.mp hm).elim (fun m => h1 b m q) (fun m => h2 b m q)
theorem dq_vals {P : Program} {w : World} : ∀ {kvs : List (Key × V)} {vs : List (Key × Value)} {es : List DictEntry}, KV kvs vs → Pairs (mixKind P w) es vs → Vals (kvs.map (·.2)) (es.map (·.val))
  | [], [], [], _, _ => .nil
  | p :: ps, q :: qs, e :: es, .cons r t, .cons _ h2 hp => by
    rw [List.map_cons, List.map_cons, h2]
    exact .cons r.2 (dq_vals t hp)
theorem Dq.reads (I : Inv X pins σ H s) {v : V} {d : PyData} (h : Dq X.K H v d) : ∀ u, RelV v u → ∃ as, Reads s.heap u d as ∧ NoMod s.heap as := by
  refine Dq.rec (motive_1 := fun v d _ => ∀ u, RelV v u → ∃ as, Reads s.heap u d as ∧ NoMod s.heap as) (motive_2 := fun vs ds _ => ∀ us, Vals vs us → ∃ as, ReadsAll s.heap us ds as ∧ NoMod s.heap as) ?_ ?_ ?_ ?_ ?_ ?_ ?_ ?_ ?_ h
  · intro u r
    cases r
    exact ⟨_, Reads.none, .nil⟩
  · intro b u r
    cases r
    exact ⟨_, Reads.bool b, .nil⟩
  · intro i u r
    obtain ⟨t, rfl⟩ := r
    exact ⟨_, Reads.int i t, .nil⟩
  · intro x u r
    obtain ⟨t, rfl⟩ := r
    exact ⟨_, Reads.str x t, .nil⟩
  · intro a xs ds hs _ ih u r
    cases r
    obtain ⟨its, rv, ⟨o, n, ho, hc, _, hd⟩, _⟩ := I.list hs
    obtain ⟨as, hr, hn⟩ := ih _ rv
    refine ⟨_, Reads.list ho hc hd hr, ?_⟩
    intro b hm q
    rcases List.mem_cons.mp hm with rfl | hm
    · obtain ⟨o', e1, e2⟩ := q
      rw [ho] at e1
      cases e1
      rw [hc] at e2
      exact absurd e2 (by decide)
    · exact hn b hm q
  · intro a xs ds hs _ ih u r
    cases r
    obtain ⟨its, rv, ⟨o, ho, hc, n, hd⟩, _⟩ := I.tuple hs
    obtain ⟨as, hr, hn⟩ := ih _ rv
    exact ⟨_, Reads.tuple ho hc hd hr, hn⟩
  · intro a kvs ds ea ha ih u r
    cases r
    have hx : ObjOk X.prog X.w H s.heap a (.dK kvs) := I.hok a _ ea
    obtain ⟨hz, hsm, vs, kv, o, es, ep, e1, e2, e3, e4, e5, e6⟩ := hx
    obtain ⟨as, hr, hn⟩ := ih _ (dq_vals kv e5)
    have hl := ha.length
    rw [List.length_map] at hl
    refine ⟨_, Reads.dict (o := o) (as := []) (bs := as) e1 e2.1 e3 ?_ ?_, ?_⟩
    · have := reads_keys (h := s.heap) e5
      rw [kv_keys kv] at this
      rw [List.map_fst_zip (by simp [hl])]
      exact this
    · rw [List.map_snd_zip (by simp [hl])]
      exact hr
    · intro b hm q
      have hm' : b = a ∨ b ∈ as := by simpa using hm
      rcases hm' with rfl | hm
      · intro e
        rw [e] at hsm
        simp at hsm
      · exact hn b hm q
  · intro us r
    cases r
    exact ⟨_, ReadsAll.nil, .nil⟩
  · intro v vs d ds _ _ ih1 ih2 us r
    cases r with
    | cons r1 r2 =>
      obtain ⟨as, q1, n1⟩ := ih1 _ r1
      obtain ⟨bs, q2, n2⟩ := ih2 _ r2
      exact ⟨_, ReadsAll.cons q1 q2, n1.app n2⟩
end
def qRepr (K : PySem.W.Frag) : List V → Hp → VK → Prop := fun xs H Q => ∃ v d, xs = [v] ∧ Dq K H v d ∧ d.showable = true ∧ d.depth ≤ 100 ∧ d.shown.length ≤ sizeLine ∧ Q (.str d.shown) H
theorem ka_reprQ {X : Cx} (K : PySem.W.Frag) (hgd : X.A.guards = some []) (hu : X.A.units + 120 < cLine) (hK : X.K = K := by rfl) : CallR X (.builtin "repr") (qRepr K) := by
  subst hK
  intro pins s σ H xs us Q I r h
  obtain ⟨v, d, rfl, hd, hs, hdp, hl, q⟩ := h
  cases r with
  | cons rx rr =>
    cases rr
    have kept : ∀ h' tk, (∀ b o, s.heap.get? b = some o → h'.get? b = some o) → Inv X pins σ H { s with heap := h', toks := tk } := fun h' tk k => I.kept (t' := tk) k
    have refs : ∀ {a : Addr} {u : Value}, v = .ref a → RelV v u → wpAny (model X.prog X.w) X.A (call (.builtin "repr") [u]) (EP X pins σ Q) X.xe s := fun {a u} ev ru => by
      subst ev
      obtain ⟨as, rd, hn⟩ := Dq.reads I hd u ru
      obtain rfl : u = Value.ref a := ru
      exact sw_repr rd hs hn hgd (by omega) (fun b o e => e) (fun h' u tk k => ⟨.str d.shown, H, kept h' tk k, ⟨_, rfl⟩, q⟩) hl
    cases hd with
    | non =>
      cases rx
      exact P.repr_of_none ⟨.str _, H, I.kept (t' := s.toks + 1) (fun _ _ e => e), ⟨_, rfl⟩, q⟩
    | bl b =>
      cases rx
      exact P.repr_of_bool ⟨.str _, H, I.kept (t' := s.toks + 1) (fun _ _ e => e), ⟨_, rfl⟩, q⟩
    | int i =>
      obtain ⟨t, rfl⟩ := rx
      exact P.repr_of_int (of_decide_eq_true hs) ⟨.str _, H, I.kept (t' := s.toks + 1) (fun _ _ e => e), ⟨_, rfl⟩, q⟩
    | str x =>
      obtain ⟨t, rfl⟩ := rx
      exact P.repr_of_str ⟨.str _, H, I.kept (t' := s.toks + 1) (fun _ _ e => e), ⟨_, rfl⟩, q⟩ hl
    | lst _ _ => exact refs rfl rx
    | tup _ _ => exact refs rfl rx
    | dic _ _ => exact refs rfl rx
end Sw

set_option Elab.async false
set_option linter.all false
set_option maxRecDepth 100000
set_option maxHeartbeats 4000000
namespace Sw
open PySem PySem.Spec PyProof.Rows L2
theorem Dq.mono {K : PySem.W.Frag} {G H : Hp} (e : Same G H) {v : V} {d : PyData} (h : Dq K G v d) : Dq K H v d := by
  refine Dq.rec (motive_1 := fun v d _ => Dq K H v d) (motive_2 := fun vs ds _ => DqAll K H vs ds) ?_ ?_ ?_ ?_ ?_ ?_ ?_ ?_ ?_ h
  · exact .non
  · exact fun b => .bl b
  · exact fun i => .int i
  · exact fun x => .str x
  · exact fun hs _ ih => .lst (Evl.ex_l e hs) ih
  · exact fun hs _ ih => .tup (Evl.ex_t e hs) ih
  · exact fun ea _ ih => .dic (e _ _ ea) ih
  · exact .nil
  · exact fun _ _ ih1 ih2 => .cons ih1 ih2
theorem DqAll.mono {K : PySem.W.Frag} {G H : Hp} (e : Same G H) : ∀ {vs : List V} {ds : List PyData}, DqAll K G vs ds → DqAll K H vs ds
  | _, _, .nil => .nil
  | _, _, .cons h1 h2 => .cons (h1.mono e) (h2.mono e)
/-- small data: repr has room -/
structure Td (d : PyData) : Prop where
  s : d.showable = true
  dp : d.depth ≤ 5
  l : d.shown.length ≤ 200
theorem g_repr {K : PySem.W.Frag} {G : Hp} {R : Res} {H : Hp} {v : V} {d : PyData} {Q : VK} (w : Wd G R H) (h : Dq K G v d) (t : Td d) (k : Q (.str d.shown) H) : qRepr K [v] H Q :=
  ⟨v, d, rfl, h.mono w.sub, t.s, Nat.le_trans t.dp (by decide), by have := t.l; rw [sizeLine_eq]; omega, k⟩
theorem g_disp {G : Hp} {R : Res} {H : Hp} {Q : VK} {σ : L2.St} {trs : List (TE × TE)} (w : Wd G R H) (k : ∀ p H1, G p = none → Wd (upd G p (.dK [])) R H1 → tPairs trs σ H1 fun ps H2 => H2 p = some (.dK []) ∧ ∃ kvs : List (Key × V), ps = kvs.map (fun kv => (kV kv.1, kv.2)) ∧ kvs.length ≤ 15 ∧ Q (.ref p) (upd H2 p (.dK (mergeK [] kvs)))) : tDisp trs σ H Q :=
  fun p hp => k p _ (w.free hp) (w.new hp)
end Sw

set_option Elab.async false
set_option linter.all false
set_option maxRecDepth 100000
set_option maxHeartbeats 4000000
namespace Sw
open PySem PySem.Spec PyProof.Rows L2
/-! ### errors made as values, in a world -/
def ErrAt (G : Hp) (a C : Addr) (fs : List (Str × V)) : Prop := (fs = [] ∧ G a = some (exo a C none)) ∨ ∃ d, G a = some (exo a C (some d)) ∧ G d = some (exd d fs)
section
variable {G G' H H' : Hp} {R : Res} {K : PySem.W.Frag} {Q : VK} {E : XK} {a d C : Addr} {o u : HO} {fs : List (Str × V)} {f f1 f2 f3 : Str} {v v1 v2 v3 : V} {σ : L2.St} {te : TE} {t tk : TA}
theorem ErrAt.same (h : ErrAt G a C fs) (e : Same G G') : ErrAt G' a C fs := by
  rcases h with ⟨h1, h2⟩ | ⟨d, h1, h2⟩
  · exact .inl ⟨h1, e _ _ h2⟩
  · exact .inr ⟨d, e _ _ h1, e _ _ h2⟩
theorem Wd.mkE (w : Wd G R H) (ha : H a = none) (hd : H d = none) (hda : d ≠ a) (e1 : H' a = some o) (e2 : H' d = some u) (e3 : ∀ b, b ≠ a → b ≠ d → H' b = H b) : Wd (upd (upd G a o) d u) R H' := by
  have w1 : Wd (upd G a o) R (upd H a o) := w.new ha
  have w2 : Wd (upd (upd G a o) d u) R (upd (upd H a o) d u) := w1.new (by rw [upd_ne hda]; exact hd)
  have : H' = upd (upd H a o) d u := by
    funext b
    by_cases hb : b = d
    · rw [hb, upd_same, e2]
    · rw [upd_ne hb]
      by_cases hb' : b = a
      · rw [hb', upd_same, e1]
      · rw [upd_ne hb', e3 b hb' hb]
  rw [this]
  exact w2
theorem mkE_err (w : Wd G R H) (ha : H a = none) (hd : H d = none) (hda : d ≠ a) : Same G (upd (upd G a (exo a C (some d))) d (exd d fs)) ∧ ErrAt (upd (upd G a (exo a C (some d))) d (exd d fs)) a C fs := by
  have ga := w.free ha
  have gd : upd G a (exo a C (some d)) d = none := by rw [upd_ne hda]; exact w.free hd
  exact ⟨Same.trans (Same.newG ga) (Same.newG gd), .inr ⟨d, by rw [upd_ne (Ne.symm hda)]; exact upd_same, upd_same⟩⟩
/-- what a made error gives -/
def MkQ (G : Hp) (R : Res) (C : Addr) (fs : List (Str × V)) (Q : VK) : Prop := ∀ a G' H', Same G G' → G a = none → ErrAt G' a C fs → Wd G' R H' → Q (.ref a) H'
theorem g_mk0 (w : Wd G R H) (k : MkQ G R C [] Q) : ∀ a, H a = none → spExc0 C [.ref a] (upd H a (exo a C none)) (fun v H3 => v = .non ∧ Q (.ref a) H3) E := fun a ha =>
  ⟨a, rfl, upd_same, rfl, k a _ _ (Same.newG (w.free ha)) (w.free ha) (.inl ⟨rfl, upd_same⟩) (w.new ha)⟩
theorem g_mk1 (w : Wd G R H) (k : MkQ G R C [(f, v)] Q) : ∀ a, H a = none → spExc1 C f [.ref a, v] (upd H a (exo a C none)) (fun v H3 => v = .non ∧ Q (.ref a) H3) E := fun a ha => by
  refine ⟨a, v, rfl, upd_same, fun d hd hda => ⟨rfl, ?_⟩⟩
  have hd' : H d = none := by rw [upd_ne hda] at hd; exact hd
  obtain ⟨s, e⟩ := mkE_err (C := C) (fs := [(f, v)]) w ha hd' hda
  refine k a _ _ s (w.free ha) e (w.mkE ha hd' hda upd_same ?_ ?_)
  · rw [upd_ne hda]; exact upd_same
  · intro b h1 h2
    rw [upd_ne h1, upd_ne h2, upd_ne h1]
theorem g_mk2 (w : Wd G R H) (k : MkQ G R C [(f2, v2), (f1, v1)] Q) : ∀ a, H a = none → spExc2 C f1 f2 [.ref a, v1, v2] (upd H a (exo a C none)) (fun v H3 => v = .non ∧ Q (.ref a) H3) E := fun a ha => by
  refine ⟨a, v1, v2, rfl, upd_same, fun d H' hd hda e1 e2 e3 => ⟨rfl, ?_⟩⟩
  have hd' : H d = none := by rw [upd_ne hda] at hd; exact hd
  obtain ⟨s, e⟩ := mkE_err (C := C) (fs := [(f2, v2), (f1, v1)]) w ha hd' hda
  exact k a _ _ s (w.free ha) e (w.mkE ha hd' hda e1 e2 fun b h1 h2 => by rw [e3 b h1 h2, upd_ne h1])
theorem g_mk3 (w : Wd G R H) (k : MkQ G R C [(f3, v3), (f2, v2), (f1, v1)] Q) : ∀ a, H a = none → spExc3 C f1 f2 f3 [.ref a, v1, v2, v3] (upd H a (exo a C none)) (fun v H3 => v = .non ∧ Q (.ref a) H3) E := fun a ha => by
  refine ⟨a, v1, v2, v3, rfl, upd_same, fun d H' hd hda e1 e2 e3 => ⟨rfl, ?_⟩⟩
  have hd' : H d = none := by rw [upd_ne hda] at hd; exact hd
  obtain ⟨s, e⟩ := mkE_err (C := C) (fs := [(f3, v3), (f2, v2), (f1, v1)]) w ha hd' hda
  exact k a _ _ s (w.free ha) e (w.mkE ha hd' hda e1 e2 fun b h1 h2 => by rw [e3 b h1 h2, upd_ne h1])
def MkC (C : Addr) (n m : Nat) (sp : SpC) (vs zs : List V) (H : Hp) (Q : VK) : Prop := vs.length = n ∧ zs.length = m ∧ n ≤ 1000 ∧ ∀ a, H a = none → sp (.ref a :: vs) zs (upd H a (exo a C none)) (fun v H3 => v = .non ∧ Q (.ref a) H3) (fun _ _ _ => False)
theorem g_mk0p {n m : Nat} (w : Wd G R H) (k : MkQ G R C [] Q) (h1 : ([] : List V).length = n := by rfl) (h2 : ([] : List V).length = m := by rfl) (h3 : n ≤ 1000 := by decide) : MkC C n m (fun vs zs => spExc0 C (vs ++ zs.reverse)) [] [] H Q := ⟨h1, h2, h3, g_mk0 w k⟩
theorem g_mk1p {n m : Nat} (w : Wd G R H) (k : MkQ G R C [(f, v)] Q) (h1 : ([v] : List V).length = n := by rfl) (h2 : ([] : List V).length = m := by rfl) (h3 : n ≤ 1000 := by decide) : MkC C n m (fun vs zs => spExc1 C f (vs ++ zs.reverse)) [v] [] H Q := ⟨h1, h2, h3, g_mk1 w k⟩
theorem g_mk1k {n m : Nat} (w : Wd G R H) (k : MkQ G R C [(f, v)] Q) (h1 : ([] : List V).length = n := by rfl) (h2 : ([v] : List V).length = m := by rfl) (h3 : n ≤ 1000 := by decide) : MkC C n m (fun vs zs => spExc1 C f (vs ++ zs.reverse)) [] [v] H Q := ⟨h1, h2, h3, g_mk1 w k⟩
theorem g_mk2p {n m : Nat} (w : Wd G R H) (k : MkQ G R C [(f2, v2), (f1, v1)] Q) (h1 : ([v1, v2] : List V).length = n := by rfl) (h2 : ([] : List V).length = m := by rfl) (h3 : n ≤ 1000 := by decide) : MkC C n m (fun vs zs => spExc2 C f1 f2 (vs ++ zs.reverse)) [v1, v2] [] H Q := ⟨h1, h2, h3, g_mk2 w k⟩
theorem g_mk2k {n m : Nat} (w : Wd G R H) (k : MkQ G R C [(f2, v2), (f1, v1)] Q) (h1 : ([] : List V).length = n := by rfl) (h2 : ([v2, v1] : List V).length = m := by rfl) (h3 : n ≤ 1000 := by decide) : MkC C n m (fun vs zs => spExc2 C f1 f2 (vs ++ zs.reverse)) [] [v2, v1] H Q := ⟨h1, h2, h3, g_mk2 w k⟩
theorem g_mk3p {n m : Nat} (w : Wd G R H) (k : MkQ G R C [(f3, v3), (f2, v2), (f1, v1)] Q) (h1 : ([v1, v2, v3] : List V).length = n := by rfl) (h2 : ([] : List V).length = m := by rfl) (h3 : n ≤ 1000 := by decide) : MkC C n m (fun vs zs => spExc3 C f1 f2 f3 (vs ++ zs.reverse)) [v1, v2, v3] [] H Q := ⟨h1, h2, h3, g_mk3 w k⟩
theorem g_mk3k {n m : Nat} (w : Wd G R H) (k : MkQ G R C [(f3, v3), (f2, v2), (f1, v1)] Q) (h1 : ([] : List V).length = n := by rfl) (h2 : ([v3, v2, v1] : List V).length = m := by rfl) (h3 : n ≤ 1000 := by decide) : MkC C n m (fun vs zs => spExc3 C f1 f2 f3 (vs ++ zs.reverse)) [] [v3, v2, v1] H Q := ⟨h1, h2, h3, g_mk3 w k⟩
theorem g_excG {n m : Nat} {sp : SpC} (k : t σ H fun vs H1 => tk σ H1 fun zs H2 => MkC C n m sp vs zs H2 Q) : tExcG C n m sp t tk σ H Q := k
theorem g_tXv (k : te σ H fun x H1 => ∃ (a C dd : Addr) (fs : List (Str × V)) (v : V), x = .ref a ∧ ExAt H1 a C (some dd) ∧ DxAt H1 dd fs ∧ XfC K C ∧ PySem.W.findIn K (.ref C) f = some none ∧ fs.lookup f = some v ∧ Q v H1) : tXv K f te σ H Q := k
theorem g_isV {c : V} {cv : Value} {b : Bool} (w : Wd G R H) (h : ErrAt G a C fs) (ec : ExcC K C) (hc : ∀ u, RelV c u → u = cv) (hk : PySem.W.kitOne K (.ref C) cv = some b) (k : Q (.bl b) H) : rIsV K [.ref a, c] H Q := by
  rcases h with ⟨h1, h2⟩ | ⟨d, h1, h2⟩
  · exact ⟨a, C, none, c, cv, b, rfl, .inl (w.get h2), fun _ z => (nomatch z), ec, hc, hk, k⟩
  · exact ⟨a, C, some d, c, cv, b, rfl, .inl (w.get h1), fun dd z => ⟨fs, by cases z; exact .inl (w.get h2)⟩, ec, hc, hk, k⟩
theorem g_xv {P : V → Prop} (w : Wd G R H) (h : ErrAt G a C fs) (xf : XfC K C) (hno : PySem.W.findIn K (.ref C) f = some none) (hl : fs.lookup f = some v) (k : P v) :
    ∃ (a' C' dd : Addr) (fs' : List (Str × V)) (v' : V), V.ref a = .ref a' ∧ ExAt H a' C' (some dd) ∧ DxAt H dd fs' ∧ XfC K C' ∧ PySem.W.findIn K (.ref C') f = some none ∧ fs'.lookup f = some v' ∧ P v' := by
  rcases h with ⟨rfl, h2⟩ | ⟨d, h1, h2⟩
  · cases hl
  · exact ⟨a, C, d, fs, v, rfl, .inl (w.get h1), .inl (w.get h2), xf, hno, hl, k⟩
theorem g_pairs1 {P : List (V × V) → Hp → Prop} {t1 t2 : TE} {r : List (TE × TE)} (k : t1 σ H fun x H1 => t2 σ H1 fun y H2 => tPairs r σ H2 fun ps H3 => P ((x, y) :: ps) H3) : tPairs ((t1, t2) :: r) σ H P := k
theorem g_pairs0 {P : List (V × V) → Hp → Prop} (k : P [] H) : tPairs [] σ H P := k
theorem g_abs {i : Int} (k : Q (.int (if i < 0 then -i else i)) H) : (fun xs H Q => ∃ i, xs = [V.int i] ∧ Q (.int (if i < 0 then -i else i)) H : List V → Hp → VK → Prop) [.int i] H Q := ⟨i, rfl, k⟩
end
/-- a new object; what is known grows by it -/
theorem g_newA {G H : Hp} {R : Res} {Q : VK} (w : Wd G R H) {o : HO} {n : Nat} (hz : n ≤ sizeLine) (k : ∀ p G' H', G p = none → Same G G' → G' p = some o → Wd G' R H' → Q (.ref p) H') : n ≤ sizeLine ∧ NewO o H Q :=
  ⟨hz, fun p hp => k p _ _ (w.free hp) (Same.newG (w.free hp)) upd_same (w.new hp)⟩
theorem g_newO {G H : Hp} {R : Res} {Q : VK} (w : Wd G R H) {o : HO} (k : ∀ p G' H', G p = none → Same G G' → G' p = some o → Wd G' R H' → Q (.ref p) H') : NewO o H Q :=
  fun p hp => k p _ _ (w.free hp) (Same.newG (w.free hp)) upd_same (w.new hp)
theorem g_addLA {G H : Hp} {R : Res} {Q : VK} {K : PySem.W.Frag} {a b : Addr} {xs ys : List V} (w : Wd G R H) (h1 : G a = some (.lst xs)) (h2 : G b = some (.lst ys)) (hz : xs.length + ys.length ≤ sizeLine) (k : ∀ p G' H', G p = none → Same G G' → G' p = some (.lst (xs ++ ys)) → Wd G' R H' → Q (.ref p) H') : aAdd K (.ref a) (.ref b) H Q :=
  g_addL w h1 h2 hz fun p H' n w' => k p _ H' n (Same.newG n) upd_same w'
theorem g_slLA {G H : Hp} {R : Res} {Q : VK} {K : PySem.W.Frag} {a : Addr} {xs : List V} {lo hi : Option Int} (w : Wd G R H) (h : SqL K G a xs) (k : ∀ p G' H', G p = none → Same G G' → G' p = some (.lst (cutV xs lo hi)) → Wd G' R H' → Q (.ref p) H') : aSl K (.ref a) lo hi H Q :=
  g_slL w h fun p H' n w' => k p _ H' n (Same.newG n) upd_same w'
/-- a list changed: what was known of others stays -/
theorem Same.setL {G0 G : Hp} {l : Addr} {o : HO} (e : Same G0 G) (n : G0 l = none) : Same G0 (upd G l o) := fun b u h => by
  rw [upd_ne (ne_of_none h n)]
  exact e b u h
theorem ErrAt.setL {G : Hp} {a C l : Addr} {fs : List (Str × V)} {xs ys : List V} (h : ErrAt G a C fs) (hl : G l = some (.lst xs)) : ErrAt (upd G l (.lst ys)) a C fs := by
  have key : ∀ {b : Addr} {phi}, G b = some (.ext phi) → b ≠ l := fun {b phi} e z => by
    rw [z, hl] at e
    cases e
  rcases h with ⟨h1, h2⟩ | ⟨d, h1, h2⟩
  · exact .inl ⟨h1, by rw [upd_ne (key h2)]; exact h2⟩
  · exact .inr ⟨d, by rw [upd_ne (key h1)]; exact h1, by rw [upd_ne (key h2)]; exact h2⟩
theorem hu120 {k : Nat} {A : Around} (h : Room k A) : A.units + 120 < cLine := by have := h.un; omega
/-! ### small data -/
structure Tz (n : Nat) (d : PyData) : Prop where
  s : d.showable = true
  dp : d.depth ≤ 6
  l : d.shown.length ≤ n
theorem g_reprZ {K : PySem.W.Frag} {G : Hp} {R : Res} {H : Hp} {v : V} {d : PyData} {Q : VK} {n : Nat} (w : Wd G R H) (h : Dq K G v d) (t : Tz n d) (hn : n ≤ 100000) (k : Q (.str d.shown) H) : qRepr K [v] H Q :=
  ⟨v, d, rfl, h.mono w.sub, t.s, Nat.le_trans t.dp (by decide), by have := t.l; rw [sizeLine_eq]; omega, k⟩
end Sw

set_option Elab.async false
set_option linter.all false
set_option maxRecDepth 100000
set_option maxHeartbeats 4000000
namespace Sv
open PySem L2
def top (i : Nat) : Stmt := PySem.Challenge.pw_savewise_k53_errors_made.main.body.getD i (.Pass ⟨0, 0, 0, 0⟩)
abbrev s_InvalidName___init__ : Stmt := inClass (top 2) 0
abbrev s_InvalidColumn___init__ : Stmt := inClass (top 3) 0
abbrev s_InvalidGroup___init__ : Stmt := inClass (top 4) 0
abbrev s_UnknownTable___init__ : Stmt := inClass (top 5) 0
abbrev s_UnknownColumn___init__ : Stmt := inClass (top 6) 0
abbrev s_InvalidKey___init__ : Stmt := inClass (top 7) 0
abbrev s_InvalidValue___init__ : Stmt := inClass (top 8) 0
abbrev s_InvalidStatement___init__ : Stmt := inClass (top 9) 0
abbrev s_KeyExists___init__ : Stmt := inClass (top 10) 0
abbrev s_KeyMissing___init__ : Stmt := inClass (top 11) 0
abbrev s_PermanentRow___init__ : Stmt := inClass (top 12) 0
abbrev s_DuplicateValue___init__ : Stmt := inClass (top 13) 0
abbrev s_MissingTarget___init__ : Stmt := inClass (top 14) 0
abbrev s_StillReferenced___init__ : Stmt := inClass (top 15) 0
abbrev s_InvalidState___init__ : Stmt := inClass (top 16) 0
abbrev s_InvalidCondition___init__ : Stmt := inClass (top 17) 0
abbrev s_Restricted___init__ : Stmt := inClass (top 18) 0
abbrev s_Stale___init__ : Stmt := inClass (top 19) 0
abbrev s_Detached___init__ : Stmt := inClass (top 20) 0
abbrev s_InvalidBlock___init__ : Stmt := inClass (top 21) 0
abbrev s_InvalidLog___init__ : Stmt := inClass (top 22) 0
abbrev s_InvalidText___init__ : Stmt := inClass (top 23) 0
abbrev s__law_thing : Stmt := top 25
abbrev s__law_single : Stmt := top 26
abbrev s__law_attribute : Stmt := top 27
abbrev s__law_several : Stmt := top 28
abbrev s__law_several_right : Stmt := top 29
abbrev s__law_marks : Stmt := top 30
abbrev s_law : Stmt := top 31
/-- where the top has put its classes and tuples -/
structure Ad where
  (SaveError InvalidName InvalidColumn InvalidGroup UnknownTable UnknownColumn InvalidKey InvalidValue InvalidStatement KeyExists KeyMissing PermanentRow DuplicateValue MissingTarget StillReferenced InvalidState InvalidCondition Restricted Stale Detached InvalidBlock InvalidLog InvalidText : Addr)
structure Txt (K : PySem.W.Frag) (mg : Str → Option Value) (A : Ad) : Prop where
  nb_super : mg "super" = none
  nb_abs : mg "abs" = none
  nb_len : mg "len" = none
  nb_enumerate : mg "enumerate" = none
  nb_repr : mg "repr" = none
  nb_isinstance : mg "isinstance" = none
  nb_range : mg "range" = none
  nb_ValueError : mg "ValueError" = none
  g_SaveError : ∃ u, mg "SaveError" = some u ∧ RelV (.ref A.SaveError) u
  g_InvalidName : ∃ u, mg "InvalidName" = some u ∧ RelV (.ref A.InvalidName) u
  g_InvalidColumn : ∃ u, mg "InvalidColumn" = some u ∧ RelV (.ref A.InvalidColumn) u
  g_InvalidGroup : ∃ u, mg "InvalidGroup" = some u ∧ RelV (.ref A.InvalidGroup) u
  g_UnknownTable : ∃ u, mg "UnknownTable" = some u ∧ RelV (.ref A.UnknownTable) u
  g_UnknownColumn : ∃ u, mg "UnknownColumn" = some u ∧ RelV (.ref A.UnknownColumn) u
  g_InvalidKey : ∃ u, mg "InvalidKey" = some u ∧ RelV (.ref A.InvalidKey) u
  g_InvalidValue : ∃ u, mg "InvalidValue" = some u ∧ RelV (.ref A.InvalidValue) u
  g_InvalidStatement : ∃ u, mg "InvalidStatement" = some u ∧ RelV (.ref A.InvalidStatement) u
  g_KeyExists : ∃ u, mg "KeyExists" = some u ∧ RelV (.ref A.KeyExists) u
  g_KeyMissing : ∃ u, mg "KeyMissing" = some u ∧ RelV (.ref A.KeyMissing) u
  g_PermanentRow : ∃ u, mg "PermanentRow" = some u ∧ RelV (.ref A.PermanentRow) u
  g_DuplicateValue : ∃ u, mg "DuplicateValue" = some u ∧ RelV (.ref A.DuplicateValue) u
  g_MissingTarget : ∃ u, mg "MissingTarget" = some u ∧ RelV (.ref A.MissingTarget) u
  g_StillReferenced : ∃ u, mg "StillReferenced" = some u ∧ RelV (.ref A.StillReferenced) u
  g_InvalidState : ∃ u, mg "InvalidState" = some u ∧ RelV (.ref A.InvalidState) u
  g_InvalidCondition : ∃ u, mg "InvalidCondition" = some u ∧ RelV (.ref A.InvalidCondition) u
  g_Restricted : ∃ u, mg "Restricted" = some u ∧ RelV (.ref A.Restricted) u
  g_Stale : ∃ u, mg "Stale" = some u ∧ RelV (.ref A.Stale) u
  g_Detached : ∃ u, mg "Detached" = some u ∧ RelV (.ref A.Detached) u
  g_InvalidBlock : ∃ u, mg "InvalidBlock" = some u ∧ RelV (.ref A.InvalidBlock) u
  g_InvalidLog : ∃ u, mg "InvalidLog" = some u ∧ RelV (.ref A.InvalidLog) u
  g_InvalidText : ∃ u, mg "InvalidText" = some u ∧ RelV (.ref A.InvalidText) u
end Sv

set_option Elab.async false
set_option linter.all false
set_option maxRecDepth 100000
set_option maxHeartbeats 4000000
namespace Sv
open PySem PySem.Spec PyProof.Rows L2 Sw
local macro_rules | `(tactic| walk_at "go1") => `(tactic| first
  | ((with_reducible refine' g_var ?hv ?_); (case hv => rfl))
  | with_reducible refine g_c ?_
  | with_reducible refine g_op ?_
  | with_reducible refine g_un ?_
  | with_reducible refine g_seq ?_
  | with_reducible refine g_next ?_
  | with_reducible refine g_asg ?_
  | with_reducible refine g_name ?_
  | with_reducible refine g_drop ?_
  | with_reducible refine g_sub ?_
  | with_reducible refine g_ret ?_
  | with_reducible refine g_retN ?_
  | with_reducible refine g_ifS ?_
  | with_reducible refine g_if ?_
  | with_reducible refine g_test ?_
  | with_reducible refine g_bl ?_
  | with_reducible refine g_cons ?_
  | with_reducible refine g_nil ?_
  | with_reducible refine g_and ?_
  | with_reducible refine g_or ?_
  | with_reducible refine g_not ?_
  | with_reducible refine g_callB ?_
  | with_reducible refine g_addI ?_
  | with_reducible refine g_I0 ?_
  | with_reducible refine g_calG ?_
  | with_reducible refine g_mkG ?_
  | with_reducible refine g_tup ?_
  | with_reducible refine g_excG ?_
  | with_reducible refine g_tXv ?_
  | with_reducible refine g_pairs1 ?_
  | with_reducible refine g_pairs0 ?_
  | with_reducible refine g_lst ?_
  | with_reducible refine g_forL ?_
  | with_reducible refine g_forR ?_
  | with_reducible refine g_forR2 ?_
  | with_reducible refine g_forS ?_
  | with_reducible refine g_forE ?_
  | with_reducible refine g_lcL ?_
  | with_reducible refine g_lcR ?_
  | with_reducible refine g_lcS ?_
  | with_reducible refine g_lcE ?_
  | with_reducible refine g_orT ?_
  | with_reducible refine g_slc ?_
  | with_reducible refine g_noPart ?_
  | with_reducible refine g_part ?_
  | with_reducible refine g_bm ?_
  | with_reducible refine g_par ?_
  | with_reducible refine g_yes ?_
  | with_reducible refine g_tupG ?_
  | with_reducible refine g_gcons ?_
  | with_reducible refine g_gnil ?_
  | with_reducible refine g_chain ?_
  | with_reducible refine g_truB ?_
  | with_reducible refine g_truN ?_
  | with_reducible refine g_truI ?_
  | with_reducible refine g_m1 ?_
  | with_reducible refine g_fld ?_
  | with_reducible refine g_con ?_
  | with_reducible refine g_tru ?_
  | with_reducible refine g_U ?_
  | with_reducible refine g_xg ?_
  | with_reducible refine g_andT ?_
  | with_reducible refine g_exI ?_
  | with_reducible refine g_dnew ?_
  | with_reducible refine g_intB ?_
  | with_reducible refine g_meth ?_
  | with_reducible refine g_prop ?_
  | with_reducible refine g_exc1 ?_
  | with_reducible refine g_setF ?_
  | with_reducible refine g_star ?_
  | with_reducible refine g_strM ?_
  | with_reducible refine iteT ?_
  | with_reducible refine iteF ?_
  | with_reducible refine iteNT ?_
  | with_reducible refine iteNF ?_)
local macro_rules | `(tactic| walk_at "go") => `(tactic| repeat (walk_at "go1"))
local macro_rules | `(tactic| walk_at "sz") => `(tactic| (first | (rw [sizeLine_eq]; simp only [List.length_cons, List.length_nil, List.length_map, List.length_append, List.length_take]; omega) | (rw [sizeLine_eq]; omega)))
section
variable {P : Program} {wo : World} {A : Ad} {K : PySem.W.Frag} {mg : Str → Option Value} {base : Heap}
theorem lk_one {f : Str} {v : V} : List.lookup f [(f, v)] = some v := by rw [List.lookup_cons, beq_self_eq_true]
/-! ### a thing -/
structure Th (d : PyData) : Prop where
  s : d.showable = true
  dp : d.depth ≤ 3
  l : d.shown.length ≤ 60
def spThing (K : PySem.W.Frag) : Sp := fun vs H Q _ => ∃ (G : Hp) (R : Res) (s : Addr) (ns : List Int) (at_ : Int), vs = [.ref s, .int at_] ∧ Wd G R H ∧ SqL K G s (ns.map V.int) ∧ 0 ≤ at_ ∧ at_ ≤ 100 ∧
  ∀ v d G' H', Same G G' → Dq K G' v d → Th d → Wd G' R H' → Q v H'
theorem sc__law_thing : FnScope (["_law_script", "_law_at", "_law_found", "_law_item", "_law_some"] : List Str) (["_law_script", "_law_at"] : List Str) (defScope s__law_thing) := ⟨rfl, rfl, rfl, by decide +kernel, rfl, by decide +kernel, by decide +kernel⟩
theorem ok_thing {f : Addr} {fd : FuncData} (F : Fun K "_law_thing" "_law_thing" s__law_thing f fd) (T : Txt K mg A) : FnOk P wo K mg base (L2.CX P wo) 1 f fd (["_law_script", "_law_at"] : List Str) (spThing K) := by
  refine okT F sc__law_thing (fun vs H Q E h => ?_) (fun cdv Ar outer s H vs Q E hr tk po h => ?_)
  · obtain ⟨_, _, _, _, _, rfl, _⟩ := h
    rfl
  obtain ⟨G, R, l, ns, a, rfl, w, hl, a0, a1, k⟩ := h
  refine ⟨_, (pss_cons (ps_set (i := 2) sc__law_thing.nd rfl (by first | exact Or.inl rfl | exact Or.inr rfl) (pe_op (ka_add K) pe_int (pv 1)))
      (pss_cons (ps_for po rfl (ki_list K (pe_slice (ka_sl K) (pv 0) po_none (po_some pe_int))) (pg_name (i := 3) sc__law_thing.nd rfl (by first | exact Or.inl rfl | exact Or.inr rfl)) (pss_one (ps_set (i := 2) sc__law_thing.nd rfl (by first | exact Or.inl rfl | exact Or.inr rfl) (pe_op op_mod (pe_op (ka_add K) (pe_op (ka_add K) (pe_op (ka_mul K) (pv 2) pe_int) (pe_callB call_abs (by rfl) T.nb_abs (by decide +kernel) (pa_cons (pv 3) pa_nil))) (pv 1)) pe_int))))
      (pss_cons (ps_set (i := 4) sc__law_thing.nd rfl (by first | exact Or.inl rfl | exact Or.inr rfl) (pe_lst (pa_cons pe_non (pa_cons pe_int (pa_cons (pe_un un_neg pe_int) (pa_cons (pe_op op_pow pe_int pe_int) (pa_cons pe_str (pa_cons pe_str (pa_cons pe_str (pa_cons (pe_tup pa_nil) (pa_cons (pe_tup (pa_cons pe_str (pa_cons pe_int pa_nil))) (pa_cons (pe_lst (pa_cons pe_int (pa_cons pe_str pa_nil))) (pa_cons (pe_disp (pps_cons pe_str pe_int pps_nil) rfl rfl (by simp) (by decide)) (pa_cons pe_bl (pa_cons (pe_tup (pa_cons (pe_tup (pa_cons pe_str (pa_cons pe_int pa_nil))) (pa_cons (pe_tup (pa_cons pe_str (pa_cons pe_int (pa_cons pe_str pa_nil)))) pa_nil))) pa_nil)))))))))))))))
      (pss_one (ps_ret (pe_ix (ka_ix K) (pv 4) (pe_op op_mod (pe_op op_fdiv (pe_op op_mod (pe_op (ka_mul K) (pv 2) (pv 2)) pe_int) pe_int) (pe_callB (ka_len K) (by rfl) T.nb_len (by decide +kernel) (pa_cons (pv 4) pa_nil))) (fun _ _ => rfl))))))), ?_⟩
  walk_at "go"
  refine g_slL w hl fun p1 H1 n1 w1 => ?_
  refine ⟨p1, rfl, ⟨_, Evl.ex_l w1.sub (SqL.of upd_same)⟩, ?_⟩
  have hcut : ∃ ms : List Int, cutV (ns.map V.int) none (some 63) = ms.map V.int := by
    unfold cutV
    rw [← List.map_drop, ← List.map_take]
    exact ⟨_, rfl⟩
  obtain ⟨ms, hms⟩ := hcut
  rw [hms] at w1
  refine for_it (itf_list (xs := ms.map V.int)) (fun i σ' H' => ∃ m t3 t4, σ' = [some (.ref l), some (.int a), some (.int m), t3, t4] ∧ 0 ≤ m ∧ m < 2147483647 ∧ Wd (upd G p1 (.lst (ms.map V.int))) R H') ⟨_, _, _, rfl, by omega, by omega, w1⟩ (fun i σ' H' _ h => ?_) ?_ ?_
  · obtain ⟨_, _, _, _, _, _, w⟩ := h
    exact Evl.ex_l w.sub (SqL.of upd_same)
  · rintro i x σ' H' H'' hi ⟨m, t3, t4, rfl, m0, m1, w⟩ ⟨rfl, hx⟩
    rw [List.getElem?_map] at hx
    obtain ⟨y, hy, rfl⟩ := Option.map_eq_some_iff.mp hx
    walk_at "go"
    refine g_mulI (Or.inl ⟨by omega, by omega⟩) ?_
    walk_at "go"
    refine ⟨_, rfl, ?_⟩
    walk_at "go"
    refine g_I (show (0 : Int) < 2147483647 by decide) ?_
    walk_at "go"
    exact ⟨_, _, _, rfl, Int.emod_nonneg _ (by decide), Int.emod_lt_of_pos _ (by decide), w⟩
  · rintro σ' H' ⟨m, t3, t4, rfl, m0, m1, w⟩
    replace w := w.drop (Same.newG n1)
    walk_at "go"
    refine g_I ⟨by decide, by decide, by decide⟩ ?_
    walk_at "go"
    refine g_newA w (by walk_at "sz") fun p2 G2 H2 n2 s2 h2 w2 => ?_
    walk_at "go"
    refine g_newA w2 (by walk_at "sz") fun p3 G3 H3 n3 s3 h3 w3 => ?_
    walk_at "go"
    refine g_newA w3 (by walk_at "sz") fun p4 G4 H4 n4 s4 h4 w4 => ?_
    walk_at "go"
    refine g_disp w4 fun p5 H5 n5 w5 => ?_
    walk_at "go"
    refine ⟨w5.get upd_same, [(.inr "a", .int 1)], rfl, by decide, ?_⟩
    have w6 := w5.set (o' := .dK (mergeK [] [(.inr "a", .int 1)])) upd_same
    rw [upd_upd] at w6
    clear w5
    obtain ⟨G6, s6, h6, w6⟩ : ∃ G6, Same G4 G6 ∧ G6 p5 = some (.dK (mergeK [] [(.inr "a", .int 1)])) ∧ Wd G6 R (upd H5 p5 (.dK (mergeK [] [(.inr "a", .int 1)]))) := ⟨_, Same.newG n5, upd_same, w6⟩
    generalize upd H5 p5 _ = H6 at *
    walk_at "go"
    refine g_newA w6 (by walk_at "sz") fun p7 G7 H7 n7 s7 h7 w7 => ?_
    walk_at "go"
    refine g_newA w7 (by walk_at "sz") fun p8 G8 H8 n8 s8 h8 w8 => ?_
    walk_at "go"
    refine g_newA w8 (by walk_at "sz") fun p9 G9 H9 n9 s9 h9 w9 => ?_
    walk_at "go"
    refine g_newA w9 (by walk_at "sz") fun p10 G10 H10 n10 s10 h10 w10 => ?_
    walk_at "go"
    refine g_mulI (Or.inl ⟨by omega, by omega⟩) ?_
    walk_at "go"
    refine g_I (show (0 : Int) < 2147483629 by decide) ?_
    walk_at "go"
    refine g_I (show CDiv _ 16 from ⟨by decide, by decide⟩) ?_
    walk_at "go"
    refine g_lenL w10 (SqL.of h10) ?_
    walk_at "go"
    refine g_I (show (0 : Int) < 13 by decide) ?_
    generalize hr : m * m % 2147483629 / 16 % ((13 : Nat) : Int) = r
    have r0 : 0 ≤ r := by rw [← hr]; exact Int.emod_nonneg _ (by decide)
    have r1 : r < 13 := by rw [← hr]; exact Int.emod_lt_of_pos _ (by decide)
    obtain ⟨j, rfl⟩ : ∃ j : Nat, r = j := ⟨r.toNat, by omega⟩
    have hj : j < 13 := by omega
    have e2 : Same G2 G10 := Same.trans (Same.trans (Same.trans (Same.trans (Same.trans (Same.trans s3 s4) s6) s7) s8) s9) s10
    have e3 : Same G3 G10 := Same.trans (Same.trans (Same.trans (Same.trans (Same.trans s4 s6) s7) s8) s9) s10
    have e4 : Same G4 G10 := Same.trans (Same.trans (Same.trans (Same.trans s6 s7) s8) s9) s10
    have e6 : Same G6 G10 := Same.trans (Same.trans (Same.trans s7 s8) s9) s10
    have fin : ∀ v d, [V.non, V.int 0, V.int (-1), V.int (10 ^ (39 : Int).toNat), V.str "", V.str "a", V.str "a b", V.ref p2, V.ref p3, V.ref p4, V.ref p5, V.bl true, V.ref p9][j]? = some v → Dq K G10 v d → Th d → rIx K (V.ref p10) (V.int (j : Int)) H10 Q := fun v d hv hd ht =>
      g_ixL w10 (SqL.of h10) (atI_nat hv) (k v d G10 H10 (Same.trans s2 e2) hd ht w10)
    show rIx K (V.ref p10) (V.int (j : Int)) H10 Q
    match j, hj, fin with
    | 0, _, fin => exact fin _ _ rfl .non ⟨by decide +kernel, by decide +kernel, by decide +kernel⟩
    | 1, _, fin => exact fin _ _ rfl (.int _) ⟨by decide +kernel, by decide +kernel, by decide +kernel⟩
    | 2, _, fin => exact fin _ _ rfl (.int _) ⟨by decide +kernel, by decide +kernel, by decide +kernel⟩
    | 3, _, fin => exact fin _ _ rfl (.int _) ⟨by decide +kernel, by decide +kernel, by decide +kernel⟩
    | 4, _, fin => exact fin _ _ rfl (.str _) ⟨by decide +kernel, by decide +kernel, by decide +kernel⟩
    | 5, _, fin => exact fin _ _ rfl (.str _) ⟨by decide +kernel, by decide +kernel, by decide +kernel⟩
    | 6, _, fin => exact fin _ _ rfl (.str _) ⟨by decide +kernel, by decide +kernel, by decide +kernel⟩
    | 7, _, fin => exact fin _ _ rfl (.tup (SqT.of (e2 _ _ h2)) .nil) ⟨by decide +kernel, by decide +kernel, by decide +kernel⟩
    | 8, _, fin => exact fin _ _ rfl (.tup (SqT.of (e3 _ _ h3)) (.cons (.str _) (.cons (.int _) .nil))) ⟨by decide +kernel, by decide +kernel, by decide +kernel⟩
    | 9, _, fin => exact fin _ _ rfl (.lst (SqL.of (e4 _ _ h4)) (.cons (.int _) (.cons (.str _) .nil))) ⟨by decide +kernel, by decide +kernel, by decide +kernel⟩
    | 10, _, fin => exact fin _ _ rfl (.dic (e6 _ _ h6) (.cons (.int _) .nil)) ⟨by decide +kernel, by decide +kernel, by decide +kernel⟩
    | 11, _, fin => exact fin _ _ rfl (.bl _) ⟨by decide +kernel, by decide +kernel, by decide +kernel⟩
    | 12, _, fin => exact fin _ _ rfl (.tup (SqT.of (s10 _ _ h9)) (.cons (.tup (SqT.of ((Same.trans (Same.trans s8 s9) s10) _ _ h7)) (.cons (.str _) (.cons (.int _) .nil))) (.cons (.tup (SqT.of ((Same.trans s9 s10) _ _ h8)) (.cons (.str _) (.cons (.int _) (.cons (.str _) .nil)))) .nil))) ⟨by decide +kernel, by decide +kernel, by decide +kernel⟩
    | n + 13, h, _ => exact absurd h (by omega)
end
end Sv


set_option Elab.async false
set_option linter.all false
set_option maxRecDepth 100000
set_option maxHeartbeats 4000000
namespace Sv
open PySem PySem.Spec PyProof.Rows L2 Sw
local macro_rules | `(tactic| walk_at "go1") => `(tactic| first
  | ((with_reducible refine' g_var ?hv ?_); (case hv => rfl))
  | with_reducible refine g_c ?_
  | with_reducible refine g_op ?_
  | with_reducible refine g_un ?_
  | with_reducible refine g_seq ?_
  | with_reducible refine g_next ?_
  | with_reducible refine g_asg ?_
  | with_reducible refine g_name ?_
  | with_reducible refine g_drop ?_
  | with_reducible refine g_sub ?_
  | with_reducible refine g_ret ?_
  | with_reducible refine g_retN ?_
  | with_reducible refine g_ifS ?_
  | with_reducible refine g_if ?_
  | with_reducible refine g_test ?_
  | with_reducible refine g_bl ?_
  | with_reducible refine g_cons ?_
  | with_reducible refine g_nil ?_
  | with_reducible refine g_and ?_
  | with_reducible refine g_or ?_
  | with_reducible refine g_not ?_
  | with_reducible refine g_callB ?_
  | with_reducible refine g_addI ?_
  | with_reducible refine g_I0 ?_
  | with_reducible refine g_calG ?_
  | with_reducible refine g_mkG ?_
  | with_reducible refine g_tup ?_
  | with_reducible refine g_excG ?_
  | with_reducible refine g_tXv ?_
  | with_reducible refine g_pairs1 ?_
  | with_reducible refine g_pairs0 ?_
  | with_reducible refine g_lst ?_
  | with_reducible refine g_forL ?_
  | with_reducible refine g_forR ?_
  | with_reducible refine g_forR2 ?_
  | with_reducible refine g_forS ?_
  | with_reducible refine g_forE ?_
  | with_reducible refine g_lcL ?_
  | with_reducible refine g_lcR ?_
  | with_reducible refine g_lcS ?_
  | with_reducible refine g_lcE ?_
  | with_reducible refine g_orT ?_
  | with_reducible refine g_slc ?_
  | with_reducible refine g_noPart ?_
  | with_reducible refine g_part ?_
  | with_reducible refine g_bm ?_
  | with_reducible refine g_par ?_
  | with_reducible refine g_yes ?_
  | with_reducible refine g_tupG ?_
  | with_reducible refine g_gcons ?_
  | with_reducible refine g_gnil ?_
  | with_reducible refine g_chain ?_
  | with_reducible refine g_truB ?_
  | with_reducible refine g_truN ?_
  | with_reducible refine g_truI ?_
  | with_reducible refine g_m1 ?_
  | with_reducible refine g_fld ?_
  | with_reducible refine g_con ?_
  | with_reducible refine g_tru ?_
  | with_reducible refine g_U ?_
  | with_reducible refine g_xg ?_
  | with_reducible refine g_andT ?_
  | with_reducible refine g_exI ?_
  | with_reducible refine g_dnew ?_
  | with_reducible refine g_intB ?_
  | with_reducible refine g_meth ?_
  | with_reducible refine g_prop ?_
  | with_reducible refine g_exc1 ?_
  | with_reducible refine g_setF ?_
  | with_reducible refine g_star ?_
  | with_reducible refine g_strM ?_
  | with_reducible refine iteT ?_
  | with_reducible refine iteF ?_
  | with_reducible refine iteNT ?_
  | with_reducible refine iteNF ?_)
local macro_rules | `(tactic| walk_at "go") => `(tactic| repeat (walk_at "go1"))
local macro_rules | `(tactic| walk_at "sz") => `(tactic| (first | (rw [sizeLine_eq]; simp only [List.length_cons, List.length_nil, List.length_map, List.length_append, List.length_take]; omega) | (rw [sizeLine_eq]; omega)))
/-! ### the errors by number -/
def eC (A : Ad) : Nat → Addr
  | 0 => A.InvalidName
  | 1 => A.InvalidColumn
  | 2 => A.InvalidGroup
  | 3 => A.UnknownTable
  | 4 => A.UnknownColumn
  | 5 => A.InvalidKey
  | 6 => A.InvalidValue
  | 7 => A.PermanentRow
  | 8 => A.Restricted
  | 9 => A.Stale
  | 10 => A.InvalidLog
  | 11 => A.InvalidText
  | 12 => A.KeyExists
  | 13 => A.KeyMissing
  | 14 => A.DuplicateValue
  | 15 => A.MissingTarget
  | 16 => A.StillReferenced
  | 17 => A.Detached
  | 18 => A.InvalidStatement
  | 19 => A.InvalidState
  | 20 => A.InvalidCondition
  | _ => A.InvalidBlock
def eF : Nat → List Str
  | 0 => ["name"]
  | 1 => ["name"]
  | 2 => ["index"]
  | 3 => ["name"]
  | 4 => ["name"]
  | 5 => ["key"]
  | 6 => ["column"]
  | 7 => ["table"]
  | 8 => ["reason"]
  | 9 => ["index"]
  | 10 => ["index"]
  | 11 => ["line"]
  | 12 => ["table", "key"]
  | 13 => ["table", "key"]
  | 14 => ["table", "key", "other"]
  | 15 => ["table", "key", "column"]
  | 16 => ["table", "key", "column"]
  | 17 => []
  | 18 => []
  | 19 => []
  | 20 => []
  | _ => []
structure ErF (K : PySem.W.Frag) (A : Ad) : Prop where
  ec : ∀ i, i < 22 → ExcC K (eC A i)
  xf : ∀ i, i < 22 → XfC K (eC A i)
  kt : ∀ i j, i < 22 → j < 22 → PySem.W.kitOne K (.ref (eC A i)) (.ref (eC A j)) = some (decide (i = j))
  ks : ∀ i, i < 22 → PySem.W.kitOne K (.ref (eC A i)) (.ref A.SaveError) = some true
  kv : ∀ i, i < 22 → PySem.W.kitOne K (.ref (eC A i)) (.type "ValueError") = some true
  na : ∀ i, i < 22 → ∀ f ∈ eF i, PySem.W.findIn K (.ref (eC A i)) f = some none
structure ErV (P : Program) (wo : World) (K : PySem.W.Frag) (mg : Str → Option Value) (base : Heap) (A : Ad) : Prop where
  V_InvalidName : ExcV P wo K mg base "InvalidName" A.InvalidName 1 [] (fun vs zs => spExc1 A.InvalidName "name" (vs ++ zs.reverse))
  V_InvalidNamek : ExcV P wo K mg base "InvalidName" A.InvalidName 0 ["name"] (fun vs zs => spExc1 A.InvalidName "name" (vs ++ zs.reverse))
  V_InvalidColumn : ExcV P wo K mg base "InvalidColumn" A.InvalidColumn 1 [] (fun vs zs => spExc1 A.InvalidColumn "name" (vs ++ zs.reverse))
  V_InvalidColumnk : ExcV P wo K mg base "InvalidColumn" A.InvalidColumn 0 ["name"] (fun vs zs => spExc1 A.InvalidColumn "name" (vs ++ zs.reverse))
  V_InvalidGroup : ExcV P wo K mg base "InvalidGroup" A.InvalidGroup 1 [] (fun vs zs => spExc1 A.InvalidGroup "index" (vs ++ zs.reverse))
  V_InvalidGroupk : ExcV P wo K mg base "InvalidGroup" A.InvalidGroup 0 ["index"] (fun vs zs => spExc1 A.InvalidGroup "index" (vs ++ zs.reverse))
  V_UnknownTable : ExcV P wo K mg base "UnknownTable" A.UnknownTable 1 [] (fun vs zs => spExc1 A.UnknownTable "name" (vs ++ zs.reverse))
  V_UnknownTablek : ExcV P wo K mg base "UnknownTable" A.UnknownTable 0 ["name"] (fun vs zs => spExc1 A.UnknownTable "name" (vs ++ zs.reverse))
  V_UnknownColumn : ExcV P wo K mg base "UnknownColumn" A.UnknownColumn 1 [] (fun vs zs => spExc1 A.UnknownColumn "name" (vs ++ zs.reverse))
  V_UnknownColumnk : ExcV P wo K mg base "UnknownColumn" A.UnknownColumn 0 ["name"] (fun vs zs => spExc1 A.UnknownColumn "name" (vs ++ zs.reverse))
  V_InvalidKey : ExcV P wo K mg base "InvalidKey" A.InvalidKey 1 [] (fun vs zs => spExc1 A.InvalidKey "key" (vs ++ zs.reverse))
  V_InvalidKeyk : ExcV P wo K mg base "InvalidKey" A.InvalidKey 0 ["key"] (fun vs zs => spExc1 A.InvalidKey "key" (vs ++ zs.reverse))
  V_InvalidValue : ExcV P wo K mg base "InvalidValue" A.InvalidValue 1 [] (fun vs zs => spExc1 A.InvalidValue "column" (vs ++ zs.reverse))
  V_InvalidValuek : ExcV P wo K mg base "InvalidValue" A.InvalidValue 0 ["column"] (fun vs zs => spExc1 A.InvalidValue "column" (vs ++ zs.reverse))
  V_PermanentRow : ExcV P wo K mg base "PermanentRow" A.PermanentRow 1 [] (fun vs zs => spExc1 A.PermanentRow "table" (vs ++ zs.reverse))
  V_PermanentRowk : ExcV P wo K mg base "PermanentRow" A.PermanentRow 0 ["table"] (fun vs zs => spExc1 A.PermanentRow "table" (vs ++ zs.reverse))
  V_Restricted : ExcV P wo K mg base "Restricted" A.Restricted 1 [] (fun vs zs => spExc1 A.Restricted "reason" (vs ++ zs.reverse))
  V_Restrictedk : ExcV P wo K mg base "Restricted" A.Restricted 0 ["reason"] (fun vs zs => spExc1 A.Restricted "reason" (vs ++ zs.reverse))
  V_Stale : ExcV P wo K mg base "Stale" A.Stale 1 [] (fun vs zs => spExc1 A.Stale "index" (vs ++ zs.reverse))
  V_Stalek : ExcV P wo K mg base "Stale" A.Stale 0 ["index"] (fun vs zs => spExc1 A.Stale "index" (vs ++ zs.reverse))
  V_InvalidLog : ExcV P wo K mg base "InvalidLog" A.InvalidLog 1 [] (fun vs zs => spExc1 A.InvalidLog "index" (vs ++ zs.reverse))
  V_InvalidLogk : ExcV P wo K mg base "InvalidLog" A.InvalidLog 0 ["index"] (fun vs zs => spExc1 A.InvalidLog "index" (vs ++ zs.reverse))
  V_InvalidText : ExcV P wo K mg base "InvalidText" A.InvalidText 1 [] (fun vs zs => spExc1 A.InvalidText "line" (vs ++ zs.reverse))
  V_InvalidTextk : ExcV P wo K mg base "InvalidText" A.InvalidText 0 ["line"] (fun vs zs => spExc1 A.InvalidText "line" (vs ++ zs.reverse))
  V_KeyExists : ExcV P wo K mg base "KeyExists" A.KeyExists 2 [] (fun vs zs => spExc2 A.KeyExists "table" "key" (vs ++ zs.reverse))
  V_KeyExistsk : ExcV P wo K mg base "KeyExists" A.KeyExists 0 ["key", "table"] (fun vs zs => spExc2 A.KeyExists "table" "key" (vs ++ zs.reverse))
  V_KeyMissing : ExcV P wo K mg base "KeyMissing" A.KeyMissing 2 [] (fun vs zs => spExc2 A.KeyMissing "table" "key" (vs ++ zs.reverse))
  V_KeyMissingk : ExcV P wo K mg base "KeyMissing" A.KeyMissing 0 ["key", "table"] (fun vs zs => spExc2 A.KeyMissing "table" "key" (vs ++ zs.reverse))
  V_DuplicateValue : ExcV P wo K mg base "DuplicateValue" A.DuplicateValue 3 [] (fun vs zs => spExc3 A.DuplicateValue "table" "key" "other" (vs ++ zs.reverse))
  V_DuplicateValuek : ExcV P wo K mg base "DuplicateValue" A.DuplicateValue 0 ["other", "key", "table"] (fun vs zs => spExc3 A.DuplicateValue "table" "key" "other" (vs ++ zs.reverse))
  V_MissingTarget : ExcV P wo K mg base "MissingTarget" A.MissingTarget 3 [] (fun vs zs => spExc3 A.MissingTarget "table" "key" "column" (vs ++ zs.reverse))
  V_MissingTargetk : ExcV P wo K mg base "MissingTarget" A.MissingTarget 0 ["column", "key", "table"] (fun vs zs => spExc3 A.MissingTarget "table" "key" "column" (vs ++ zs.reverse))
  V_StillReferenced : ExcV P wo K mg base "StillReferenced" A.StillReferenced 3 [] (fun vs zs => spExc3 A.StillReferenced "table" "key" "column" (vs ++ zs.reverse))
  V_StillReferencedk : ExcV P wo K mg base "StillReferenced" A.StillReferenced 0 ["column", "key", "table"] (fun vs zs => spExc3 A.StillReferenced "table" "key" "column" (vs ++ zs.reverse))
  V_Detached : ExcV P wo K mg base "Detached" A.Detached 0 [] (fun vs zs => spExc0 A.Detached (vs ++ zs.reverse))
  V_InvalidStatement : ExcV P wo K mg base "InvalidStatement" A.InvalidStatement 0 [] (fun vs zs => spExc0 A.InvalidStatement (vs ++ zs.reverse))
  V_InvalidState : ExcV P wo K mg base "InvalidState" A.InvalidState 0 [] (fun vs zs => spExc0 A.InvalidState (vs ++ zs.reverse))
  V_InvalidCondition : ExcV P wo K mg base "InvalidCondition" A.InvalidCondition 0 [] (fun vs zs => spExc0 A.InvalidCondition (vs ++ zs.reverse))
  V_InvalidBlock : ExcV P wo K mg base "InvalidBlock" A.InvalidBlock 0 [] (fun vs zs => spExc0 A.InvalidBlock (vs ++ zs.reverse))
section
variable {P : Program} {wo : World} {A : Ad} {K : PySem.W.Frag} {mg : Str → Option Value} {base : Heap}
/-! ### one field -/
def fl1 (i : Nat) : Str := (eF i).headD ""
def spSingle (A : Ad) : Sp := fun vs H Q _ => ∃ (G : Hp) (R : Res) (i : Nat) (v : V), vs = [.int i, v] ∧ i < 12 ∧ Wd G R H ∧ ∀ p a G' H', Same G G' → G' p = some (.tup [.ref a, v]) → ErrAt G' a (eC A i) [(fl1 i, v)] → Wd G' R H' → Q (.ref p) H'
theorem sc__law_single : FnScope (["_law_way", "_law_thing_here"] : List Str) (["_law_way", "_law_thing_here"] : List Str) (defScope s__law_single) := ⟨rfl, rfl, rfl, by decide +kernel, rfl, by decide +kernel, by decide +kernel⟩
theorem ok_single {f : Addr} {fd : FuncData} (F : Fun K "_law_single" "_law_single" s__law_single f fd) (T : Txt K mg A) (EF : ErF K A) (VE : ErV P wo K mg base A) : FnOk P wo K mg base (L2.CX P wo) 3 f fd (["_law_way", "_law_thing_here"] : List Str) (spSingle A) := by
  refine okT F sc__law_single (fun vs H Q E h => ?_) (fun cdv Ar outer s H vs Q E hr tk po h => ?_)
  · obtain ⟨_, _, _, _, rfl, _⟩ := h
    rfl
  obtain ⟨G, R, i, v, rfl, hi, w, k⟩ := h
  refine ⟨_, (pss_cons (ps_if (pt_cmpR (ka_eq K hr.units) (pv 0) pe_int (nomark _)) (pss_one (ps_ret (pe_tup (pa_cons (pe_excG VE.V_InvalidName (hr.mono (by decide)) (pa_cons (pv 1) pa_nil) pk_nil) (pa_cons (pe_xv K (pe_excG0 VE.V_InvalidNamek (hr.mono (by decide)) (pk_cons (pv 1) pk_nil))) pa_nil))))) pss_nil)
      (pss_cons (ps_if (pt_cmpR (ka_eq K hr.units) (pv 0) pe_int (nomark _)) (pss_one (ps_ret (pe_tup (pa_cons (pe_excG VE.V_InvalidColumn (hr.mono (by decide)) (pa_cons (pv 1) pa_nil) pk_nil) (pa_cons (pe_xv K (pe_excG0 VE.V_InvalidColumnk (hr.mono (by decide)) (pk_cons (pv 1) pk_nil))) pa_nil))))) pss_nil)
      (pss_cons (ps_if (pt_cmpR (ka_eq K hr.units) (pv 0) pe_int (nomark _)) (pss_one (ps_ret (pe_tup (pa_cons (pe_excG VE.V_InvalidGroup (hr.mono (by decide)) (pa_cons (pv 1) pa_nil) pk_nil) (pa_cons (pe_xv K (pe_excG0 VE.V_InvalidGroupk (hr.mono (by decide)) (pk_cons (pv 1) pk_nil))) pa_nil))))) pss_nil)
      (pss_cons (ps_if (pt_cmpR (ka_eq K hr.units) (pv 0) pe_int (nomark _)) (pss_one (ps_ret (pe_tup (pa_cons (pe_excG VE.V_UnknownTable (hr.mono (by decide)) (pa_cons (pv 1) pa_nil) pk_nil) (pa_cons (pe_xv K (pe_excG0 VE.V_UnknownTablek (hr.mono (by decide)) (pk_cons (pv 1) pk_nil))) pa_nil))))) pss_nil)
      (pss_cons (ps_if (pt_cmpR (ka_eq K hr.units) (pv 0) pe_int (nomark _)) (pss_one (ps_ret (pe_tup (pa_cons (pe_excG VE.V_UnknownColumn (hr.mono (by decide)) (pa_cons (pv 1) pa_nil) pk_nil) (pa_cons (pe_xv K (pe_excG0 VE.V_UnknownColumnk (hr.mono (by decide)) (pk_cons (pv 1) pk_nil))) pa_nil))))) pss_nil)
      (pss_cons (ps_if (pt_cmpR (ka_eq K hr.units) (pv 0) pe_int (nomark _)) (pss_one (ps_ret (pe_tup (pa_cons (pe_excG VE.V_InvalidKey (hr.mono (by decide)) (pa_cons (pv 1) pa_nil) pk_nil) (pa_cons (pe_xv K (pe_excG0 VE.V_InvalidKeyk (hr.mono (by decide)) (pk_cons (pv 1) pk_nil))) pa_nil))))) pss_nil)
      (pss_cons (ps_if (pt_cmpR (ka_eq K hr.units) (pv 0) pe_int (nomark _)) (pss_one (ps_ret (pe_tup (pa_cons (pe_excG VE.V_InvalidValue (hr.mono (by decide)) (pa_cons (pv 1) pa_nil) pk_nil) (pa_cons (pe_xv K (pe_excG0 VE.V_InvalidValuek (hr.mono (by decide)) (pk_cons (pv 1) pk_nil))) pa_nil))))) pss_nil)
      (pss_cons (ps_if (pt_cmpR (ka_eq K hr.units) (pv 0) pe_int (nomark _)) (pss_one (ps_ret (pe_tup (pa_cons (pe_excG VE.V_PermanentRow (hr.mono (by decide)) (pa_cons (pv 1) pa_nil) pk_nil) (pa_cons (pe_xv K (pe_excG0 VE.V_PermanentRowk (hr.mono (by decide)) (pk_cons (pv 1) pk_nil))) pa_nil))))) pss_nil)
      (pss_cons (ps_if (pt_cmpR (ka_eq K hr.units) (pv 0) pe_int (nomark _)) (pss_one (ps_ret (pe_tup (pa_cons (pe_excG VE.V_Restricted (hr.mono (by decide)) (pa_cons (pv 1) pa_nil) pk_nil) (pa_cons (pe_xv K (pe_excG0 VE.V_Restrictedk (hr.mono (by decide)) (pk_cons (pv 1) pk_nil))) pa_nil))))) pss_nil)
      (pss_cons (ps_if (pt_cmpR (ka_eq K hr.units) (pv 0) pe_int (nomark _)) (pss_one (ps_ret (pe_tup (pa_cons (pe_excG VE.V_Stale (hr.mono (by decide)) (pa_cons (pv 1) pa_nil) pk_nil) (pa_cons (pe_xv K (pe_excG0 VE.V_Stalek (hr.mono (by decide)) (pk_cons (pv 1) pk_nil))) pa_nil))))) pss_nil)
      (pss_one (ps_ret (pe_ifExp (pt_cmpR (ka_eq K hr.units) (pv 0) pe_int (nomark _)) (pe_tup (pa_cons (pe_excG VE.V_InvalidLog (hr.mono (by decide)) (pa_cons (pv 1) pa_nil) pk_nil) (pa_cons (pe_xv K (pe_excG0 VE.V_InvalidLogk (hr.mono (by decide)) (pk_cons (pv 1) pk_nil))) pa_nil))) (pe_tup (pa_cons (pe_excG VE.V_InvalidText (hr.mono (by decide)) (pa_cons (pv 1) pa_nil) pk_nil) (pa_cons (pe_xv K (pe_excG0 VE.V_InvalidTextk (hr.mono (by decide)) (pk_cons (pv 1) pk_nil))) pa_nil)))))))))))))))), ?_⟩
  walk_at "go"
  refine g_eqS rfl ?_
  walk_at "go"
  refine iteD (fun h => ?_) (fun h0 => ?_)
  · obtain rfl : i = 0 := by have := V.int.inj h; omega
    walk_at "go"
    refine g_mk1p w fun a1 G1 H1 s1 n1 e1 w1 => ?_
    walk_at "go"
    refine g_mk1k w1 fun a2 G2 H2 s2 n2 e2 w2 => ?_
    walk_at "go"
    refine g_xv w2 e2 (EF.xf 0 (by decide)) (EF.na 0 (by decide) _ (List.Mem.head _)) lk_one ?_
    walk_at "go"
    refine g_newL w2 (by walk_at "sz") fun p H3 n3 w3 => ?_
    exact k p a1 _ H3 (Same.trans (Same.trans s1 s2) (Same.newG n3)) upd_same ((e1.same s2).same (Same.newG n3)) w3
  walk_at "go"
  refine g_eqS rfl ?_
  walk_at "go"
  refine iteD (fun h => ?_) (fun h1 => ?_)
  · obtain rfl : i = 1 := by have := V.int.inj h; omega
    walk_at "go"
    refine g_mk1p w fun a1 G1 H1 s1 n1 e1 w1 => ?_
    walk_at "go"
    refine g_mk1k w1 fun a2 G2 H2 s2 n2 e2 w2 => ?_
    walk_at "go"
    refine g_xv w2 e2 (EF.xf 1 (by decide)) (EF.na 1 (by decide) _ (List.Mem.head _)) lk_one ?_
    walk_at "go"
    refine g_newL w2 (by walk_at "sz") fun p H3 n3 w3 => ?_
    exact k p a1 _ H3 (Same.trans (Same.trans s1 s2) (Same.newG n3)) upd_same ((e1.same s2).same (Same.newG n3)) w3
  walk_at "go"
  refine g_eqS rfl ?_
  walk_at "go"
  refine iteD (fun h => ?_) (fun h2 => ?_)
  · obtain rfl : i = 2 := by have := V.int.inj h; omega
    walk_at "go"
    refine g_mk1p w fun a1 G1 H1 s1 n1 e1 w1 => ?_
    walk_at "go"
    refine g_mk1k w1 fun a2 G2 H2 s2 n2 e2 w2 => ?_
    walk_at "go"
    refine g_xv w2 e2 (EF.xf 2 (by decide)) (EF.na 2 (by decide) _ (List.Mem.head _)) lk_one ?_
    walk_at "go"
    refine g_newL w2 (by walk_at "sz") fun p H3 n3 w3 => ?_
    exact k p a1 _ H3 (Same.trans (Same.trans s1 s2) (Same.newG n3)) upd_same ((e1.same s2).same (Same.newG n3)) w3
  walk_at "go"
  refine g_eqS rfl ?_
  walk_at "go"
  refine iteD (fun h => ?_) (fun h3 => ?_)
  · obtain rfl : i = 3 := by have := V.int.inj h; omega
    walk_at "go"
    refine g_mk1p w fun a1 G1 H1 s1 n1 e1 w1 => ?_
    walk_at "go"
    refine g_mk1k w1 fun a2 G2 H2 s2 n2 e2 w2 => ?_
    walk_at "go"
    refine g_xv w2 e2 (EF.xf 3 (by decide)) (EF.na 3 (by decide) _ (List.Mem.head _)) lk_one ?_
    walk_at "go"
    refine g_newL w2 (by walk_at "sz") fun p H3 n3 w3 => ?_
    exact k p a1 _ H3 (Same.trans (Same.trans s1 s2) (Same.newG n3)) upd_same ((e1.same s2).same (Same.newG n3)) w3
  walk_at "go"
  refine g_eqS rfl ?_
  walk_at "go"
  refine iteD (fun h => ?_) (fun h4 => ?_)
  · obtain rfl : i = 4 := by have := V.int.inj h; omega
    walk_at "go"
    refine g_mk1p w fun a1 G1 H1 s1 n1 e1 w1 => ?_
    walk_at "go"
    refine g_mk1k w1 fun a2 G2 H2 s2 n2 e2 w2 => ?_
    walk_at "go"
    refine g_xv w2 e2 (EF.xf 4 (by decide)) (EF.na 4 (by decide) _ (List.Mem.head _)) lk_one ?_
    walk_at "go"
    refine g_newL w2 (by walk_at "sz") fun p H3 n3 w3 => ?_
    exact k p a1 _ H3 (Same.trans (Same.trans s1 s2) (Same.newG n3)) upd_same ((e1.same s2).same (Same.newG n3)) w3
  walk_at "go"
  refine g_eqS rfl ?_
  walk_at "go"
  refine iteD (fun h => ?_) (fun h5 => ?_)
  · obtain rfl : i = 5 := by have := V.int.inj h; omega
    walk_at "go"
    refine g_mk1p w fun a1 G1 H1 s1 n1 e1 w1 => ?_
    walk_at "go"
    refine g_mk1k w1 fun a2 G2 H2 s2 n2 e2 w2 => ?_
    walk_at "go"
    refine g_xv w2 e2 (EF.xf 5 (by decide)) (EF.na 5 (by decide) _ (List.Mem.head _)) lk_one ?_
    walk_at "go"
    refine g_newL w2 (by walk_at "sz") fun p H3 n3 w3 => ?_
    exact k p a1 _ H3 (Same.trans (Same.trans s1 s2) (Same.newG n3)) upd_same ((e1.same s2).same (Same.newG n3)) w3
  walk_at "go"
  refine g_eqS rfl ?_
  walk_at "go"
  refine iteD (fun h => ?_) (fun h6 => ?_)
  · obtain rfl : i = 6 := by have := V.int.inj h; omega
    walk_at "go"
    refine g_mk1p w fun a1 G1 H1 s1 n1 e1 w1 => ?_
    walk_at "go"
    refine g_mk1k w1 fun a2 G2 H2 s2 n2 e2 w2 => ?_
    walk_at "go"
    refine g_xv w2 e2 (EF.xf 6 (by decide)) (EF.na 6 (by decide) _ (List.Mem.head _)) lk_one ?_
    walk_at "go"
    refine g_newL w2 (by walk_at "sz") fun p H3 n3 w3 => ?_
    exact k p a1 _ H3 (Same.trans (Same.trans s1 s2) (Same.newG n3)) upd_same ((e1.same s2).same (Same.newG n3)) w3
  walk_at "go"
  refine g_eqS rfl ?_
  walk_at "go"
  refine iteD (fun h => ?_) (fun h7 => ?_)
  · obtain rfl : i = 7 := by have := V.int.inj h; omega
    walk_at "go"
    refine g_mk1p w fun a1 G1 H1 s1 n1 e1 w1 => ?_
    walk_at "go"
    refine g_mk1k w1 fun a2 G2 H2 s2 n2 e2 w2 => ?_
    walk_at "go"
    refine g_xv w2 e2 (EF.xf 7 (by decide)) (EF.na 7 (by decide) _ (List.Mem.head _)) lk_one ?_
    walk_at "go"
    refine g_newL w2 (by walk_at "sz") fun p H3 n3 w3 => ?_
    exact k p a1 _ H3 (Same.trans (Same.trans s1 s2) (Same.newG n3)) upd_same ((e1.same s2).same (Same.newG n3)) w3
  walk_at "go"
  refine g_eqS rfl ?_
  walk_at "go"
  refine iteD (fun h => ?_) (fun h8 => ?_)
  · obtain rfl : i = 8 := by have := V.int.inj h; omega
    walk_at "go"
    refine g_mk1p w fun a1 G1 H1 s1 n1 e1 w1 => ?_
    walk_at "go"
    refine g_mk1k w1 fun a2 G2 H2 s2 n2 e2 w2 => ?_
    walk_at "go"
    refine g_xv w2 e2 (EF.xf 8 (by decide)) (EF.na 8 (by decide) _ (List.Mem.head _)) lk_one ?_
    walk_at "go"
    refine g_newL w2 (by walk_at "sz") fun p H3 n3 w3 => ?_
    exact k p a1 _ H3 (Same.trans (Same.trans s1 s2) (Same.newG n3)) upd_same ((e1.same s2).same (Same.newG n3)) w3
  walk_at "go"
  refine g_eqS rfl ?_
  walk_at "go"
  refine iteD (fun h => ?_) (fun h9 => ?_)
  · obtain rfl : i = 9 := by have := V.int.inj h; omega
    walk_at "go"
    refine g_mk1p w fun a1 G1 H1 s1 n1 e1 w1 => ?_
    walk_at "go"
    refine g_mk1k w1 fun a2 G2 H2 s2 n2 e2 w2 => ?_
    walk_at "go"
    refine g_xv w2 e2 (EF.xf 9 (by decide)) (EF.na 9 (by decide) _ (List.Mem.head _)) lk_one ?_
    walk_at "go"
    refine g_newL w2 (by walk_at "sz") fun p H3 n3 w3 => ?_
    exact k p a1 _ H3 (Same.trans (Same.trans s1 s2) (Same.newG n3)) upd_same ((e1.same s2).same (Same.newG n3)) w3
  walk_at "go"
  refine g_eqS rfl ?_
  walk_at "go"
  refine iteD (fun h => ?_) (fun h10 => ?_)
  · obtain rfl : i = 10 := by have := V.int.inj h; omega
    walk_at "go"
    refine g_mk1p w fun a1 G1 H1 s1 n1 e1 w1 => ?_
    walk_at "go"
    refine g_mk1k w1 fun a2 G2 H2 s2 n2 e2 w2 => ?_
    walk_at "go"
    refine g_xv w2 e2 (EF.xf 10 (by decide)) (EF.na 10 (by decide) _ (List.Mem.head _)) lk_one ?_
    walk_at "go"
    refine g_newL w2 (by walk_at "sz") fun p H3 n3 w3 => ?_
    exact k p a1 _ H3 (Same.trans (Same.trans s1 s2) (Same.newG n3)) upd_same ((e1.same s2).same (Same.newG n3)) w3
  · obtain rfl : i = 11 := by
      have q : ∀ j : Nat, ¬ V.int (i : Int) = V.int (j : Int) → i ≠ j := fun j h e => h (by rw [e])
      have := q 0 h0; have := q 1 h1; have := q 2 h2; have := q 3 h3; have := q 4 h4; have := q 5 h5; have := q 6 h6; have := q 7 h7; have := q 8 h8; have := q 9 h9; have := q 10 h10
      omega
    walk_at "go"
    refine g_mk1p w fun a1 G1 H1 s1 n1 e1 w1 => ?_
    walk_at "go"
    refine g_mk1k w1 fun a2 G2 H2 s2 n2 e2 w2 => ?_
    walk_at "go"
    refine g_xv w2 e2 (EF.xf 11 (by decide)) (EF.na 11 (by decide) _ (List.Mem.head _)) lk_one ?_
    walk_at "go"
    refine g_newL w2 (by walk_at "sz") fun p H3 n3 w3 => ?_
    exact k p a1 _ H3 (Same.trans (Same.trans s1 s2) (Same.newG n3)) upd_same ((e1.same s2).same (Same.newG n3)) w3
/-! ### the attribute of one field -/
def spAttr (A : Ad) : Sp := fun vs H Q _ => ∃ (G : Hp) (R : Res) (i : Nat) (a : Addr) (v : V), vs = [.ref a, .int i] ∧ i < 12 ∧ Wd G R H ∧ ErrAt G a (eC A i) [(fl1 i, v)] ∧ ∀ H', Wd G R H' → Q v H'
theorem sc__law_attribute : FnScope (["_law_error", "_law_way"] : List Str) (["_law_error", "_law_way"] : List Str) (defScope s__law_attribute) := ⟨rfl, rfl, rfl, by decide +kernel, rfl, by decide +kernel, by decide +kernel⟩
theorem ok_attr {f : Addr} {fd : FuncData} (F : Fun K "_law_attribute" "_law_attribute" s__law_attribute f fd) (T : Txt K mg A) (EF : ErF K A) : FnOk P wo K mg base (L2.CX P wo) 1 f fd (["_law_error", "_law_way"] : List Str) (spAttr A) := by
  refine okT F sc__law_attribute (fun vs H Q E h => ?_) (fun cdv Ar outer s H vs Q E hr tk po h => ?_)
  · obtain ⟨_, _, _, _, _, rfl, _⟩ := h
    rfl
  obtain ⟨G, R, i, a, v, rfl, hi, w, he, k⟩ := h
  refine ⟨_, (pss_cons (ps_if (pt_cmpR (ka_in K) (pv 1) (pe_tup (pa_cons pe_int (pa_cons pe_int (pa_cons pe_int (pa_cons pe_int pa_nil))))) (by first | exact nomark _ | rfl)) (pss_one (ps_ret (pe_xv K (pv 0)))) pss_nil)
      (pss_cons (ps_if (pt_cmpR (ka_in K) (pv 1) (pe_tup (pa_cons pe_int (pa_cons pe_int (pa_cons pe_int pa_nil)))) (by first | exact nomark _ | rfl)) (pss_one (ps_ret (pe_xv K (pv 0)))) pss_nil)
      (pss_cons (ps_if (pt_cmpR (ka_eq K hr.units) (pv 1) pe_int (nomark _)) (pss_one (ps_ret (pe_xv K (pv 0)))) pss_nil)
      (pss_cons (ps_if (pt_cmpR (ka_eq K hr.units) (pv 1) pe_int (nomark _)) (pss_one (ps_ret (pe_xv K (pv 0)))) pss_nil)
      (pss_one (ps_ret (pe_ifExp (pt_cmpR (ka_eq K hr.units) (pv 1) pe_int (nomark _)) (pe_xv K (pv 0)) (pe_ifExp (pt_cmpR (ka_eq K hr.units) (pv 1) pe_int (nomark _)) (pe_xv K (pv 0)) (pe_xv K (pv 0)))))))))), ?_⟩
  have c1 : inV (V.int (i : Int)) [V.int 0, V.int 1, V.int 3, V.int 4] = decide (i = 0 ∨ i = 1 ∨ i = 3 ∨ i = 4) := by
    have : i = 0 ∨ i = 1 ∨ i = 2 ∨ i = 3 ∨ i = 4 ∨ i = 5 ∨ i = 6 ∨ i = 7 ∨ i = 8 ∨ i = 9 ∨ i = 10 ∨ i = 11 := by omega
    rcases this with rfl | rfl | rfl | rfl | rfl | rfl | rfl | rfl | rfl | rfl | rfl | rfl <;> decide +kernel
  have c2 : inV (V.int (i : Int)) [V.int 2, V.int 9, V.int 10] = decide (i = 2 ∨ i = 9 ∨ i = 10) := by
    have : i = 0 ∨ i = 1 ∨ i = 2 ∨ i = 3 ∨ i = 4 ∨ i = 5 ∨ i = 6 ∨ i = 7 ∨ i = 8 ∨ i = 9 ∨ i = 10 ∨ i = 11 := by omega
    rcases this with rfl | rfl | rfl | rfl | rfl | rfl | rfl | rfl | rfl | rfl | rfl | rfl <;> decide +kernel
  have nx : ∀ j : Nat, ¬ V.int (i : Int) = V.int (j : Int) → i ≠ j := fun j h e => h (by rw [e])
  walk_at "go"
  refine g_newL w (by walk_at "sz") fun p1 H1 n1 w1 => ?_
  replace he := he.same (Same.newG (o := .tup [V.int 0, V.int 1, V.int 3, V.int 4]) n1)
  refine g_inT w1 (SqT.of upd_same) rfl rfl ?_
  rw [c1]
  walk_at "go"
  refine iteD (fun h => ?_) (fun h1 => ?_)
  · walk_at "go"
    rcases h with rfl | rfl | rfl | rfl
    · exact g_xv w1 he (EF.xf _ (by decide)) (EF.na 0 (by decide) _ (List.Mem.head _)) lk_one (k _ (w1.drop (Same.newG n1)))
    · exact g_xv w1 he (EF.xf _ (by decide)) (EF.na 1 (by decide) _ (List.Mem.head _)) lk_one (k _ (w1.drop (Same.newG n1)))
    · exact g_xv w1 he (EF.xf _ (by decide)) (EF.na 3 (by decide) _ (List.Mem.head _)) lk_one (k _ (w1.drop (Same.newG n1)))
    · exact g_xv w1 he (EF.xf _ (by decide)) (EF.na 4 (by decide) _ (List.Mem.head _)) lk_one (k _ (w1.drop (Same.newG n1)))
  replace k := fun H' (w : Wd _ R H') => k H' (w.drop (Same.newG (o := .tup [V.int 0, V.int 1, V.int 3, V.int 4]) n1))
  walk_at "go"
  refine g_newL w1 (by walk_at "sz") fun p2 H2 n2 w2 => ?_
  replace he := he.same (Same.newG (o := .tup [V.int 2, V.int 9, V.int 10]) n2)
  refine g_inT w2 (SqT.of upd_same) rfl rfl ?_
  rw [c2]
  walk_at "go"
  refine iteD (fun h => ?_) (fun h2 => ?_)
  · walk_at "go"
    rcases h with rfl | rfl | rfl
    · exact g_xv w2 he (EF.xf _ (by decide)) (EF.na 2 (by decide) _ (List.Mem.head _)) lk_one (k _ (w2.drop (Same.newG n2)))
    · exact g_xv w2 he (EF.xf _ (by decide)) (EF.na 9 (by decide) _ (List.Mem.head _)) lk_one (k _ (w2.drop (Same.newG n2)))
    · exact g_xv w2 he (EF.xf _ (by decide)) (EF.na 10 (by decide) _ (List.Mem.head _)) lk_one (k _ (w2.drop (Same.newG n2)))
  replace k := fun H' (w : Wd _ R H') => k H' (w.drop (Same.newG (o := .tup [V.int 2, V.int 9, V.int 10]) n2))
  walk_at "go"
  refine g_eqS rfl ?_
  walk_at "go"
  refine iteD (fun h => ?_) (fun q11 => ?_)
  · obtain rfl : i = 11 := by have := V.int.inj h; omega
    walk_at "go"
    exact g_xv w2 he (EF.xf _ (by decide)) (EF.na 11 (by decide) _ (List.Mem.head _)) lk_one (k _ w2)
  walk_at "go"
  refine g_eqS rfl ?_
  walk_at "go"
  refine iteD (fun h => ?_) (fun q5 => ?_)
  · obtain rfl : i = 5 := by have := V.int.inj h; omega
    walk_at "go"
    exact g_xv w2 he (EF.xf _ (by decide)) (EF.na 5 (by decide) _ (List.Mem.head _)) lk_one (k _ w2)
  walk_at "go"
  refine g_eqS rfl ?_
  walk_at "go"
  refine iteD (fun h => ?_) (fun q6 => ?_)
  · obtain rfl : i = 6 := by have := V.int.inj h; omega
    walk_at "go"
    exact g_xv w2 he (EF.xf _ (by decide)) (EF.na 6 (by decide) _ (List.Mem.head _)) lk_one (k _ w2)
  walk_at "go"
  refine g_eqS rfl ?_
  walk_at "go"
  refine iteD (fun h => ?_) (fun q7 => ?_)
  · obtain rfl : i = 7 := by have := V.int.inj h; omega
    walk_at "go"
    exact g_xv w2 he (EF.xf _ (by decide)) (EF.na 7 (by decide) _ (List.Mem.head _)) lk_one (k _ w2)
  · obtain rfl : i = 8 := by
      have := nx 11 q11; have := nx 5 q5; have := nx 6 q6; have := nx 7 q7
      omega
    walk_at "go"
    exact g_xv w2 he (EF.xf _ (by decide)) (EF.na 8 (by decide) _ (List.Mem.head _)) lk_one (k _ w2)
end
end Sv


set_option Elab.async false
set_option linter.all false
set_option maxRecDepth 100000
set_option maxHeartbeats 4000000
namespace Sv
open PySem PySem.Spec PyProof.Rows L2 Sw
local macro_rules | `(tactic| walk_at "go1") => `(tactic| first
  | ((with_reducible refine' g_var ?hv ?_); (case hv => rfl))
  | with_reducible refine g_c ?_
  | with_reducible refine g_op ?_
  | with_reducible refine g_un ?_
  | with_reducible refine g_seq ?_
  | with_reducible refine g_next ?_
  | with_reducible refine g_asg ?_
  | with_reducible refine g_name ?_
  | with_reducible refine g_drop ?_
  | with_reducible refine g_sub ?_
  | with_reducible refine g_ret ?_
  | with_reducible refine g_retN ?_
  | with_reducible refine g_ifS ?_
  | with_reducible refine g_if ?_
  | with_reducible refine g_test ?_
  | with_reducible refine g_bl ?_
  | with_reducible refine g_cons ?_
  | with_reducible refine g_nil ?_
  | with_reducible refine g_and ?_
  | with_reducible refine g_or ?_
  | with_reducible refine g_not ?_
  | with_reducible refine g_callB ?_
  | with_reducible refine g_addI ?_
  | with_reducible refine g_I0 ?_
  | with_reducible refine g_calG ?_
  | with_reducible refine g_mkG ?_
  | with_reducible refine g_tup ?_
  | with_reducible refine g_excG ?_
  | with_reducible refine g_tXv ?_
  | with_reducible refine g_pairs1 ?_
  | with_reducible refine g_pairs0 ?_
  | with_reducible refine g_lst ?_
  | with_reducible refine g_forL ?_
  | with_reducible refine g_forR ?_
  | with_reducible refine g_forR2 ?_
  | with_reducible refine g_forS ?_
  | with_reducible refine g_forE ?_
  | with_reducible refine g_lcL ?_
  | with_reducible refine g_lcR ?_
  | with_reducible refine g_lcS ?_
  | with_reducible refine g_lcE ?_
  | with_reducible refine g_orT ?_
  | with_reducible refine g_slc ?_
  | with_reducible refine g_noPart ?_
  | with_reducible refine g_part ?_
  | with_reducible refine g_bm ?_
  | with_reducible refine g_par ?_
  | with_reducible refine g_yes ?_
  | with_reducible refine g_tupG ?_
  | with_reducible refine g_gcons ?_
  | with_reducible refine g_gnil ?_
  | with_reducible refine g_chain ?_
  | with_reducible refine g_truB ?_
  | with_reducible refine g_truN ?_
  | with_reducible refine g_truI ?_
  | with_reducible refine g_m1 ?_
  | with_reducible refine g_fld ?_
  | with_reducible refine g_con ?_
  | with_reducible refine g_tru ?_
  | with_reducible refine g_U ?_
  | with_reducible refine g_xg ?_
  | with_reducible refine g_andT ?_
  | with_reducible refine g_exI ?_
  | with_reducible refine g_dnew ?_
  | with_reducible refine g_intB ?_
  | with_reducible refine g_meth ?_
  | with_reducible refine g_prop ?_
  | with_reducible refine g_exc1 ?_
  | with_reducible refine g_setF ?_
  | with_reducible refine g_star ?_
  | with_reducible refine g_strM ?_
  | with_reducible refine iteT ?_
  | with_reducible refine iteF ?_
  | with_reducible refine iteNT ?_
  | with_reducible refine iteNF ?_)
local macro_rules | `(tactic| walk_at "go") => `(tactic| repeat (walk_at "go1"))
local macro_rules | `(tactic| walk_at "sz") => `(tactic| (first | (rw [sizeLine_eq]; simp only [List.length_cons, List.length_nil, List.length_map, List.length_append, List.length_take]; omega) | (rw [sizeLine_eq]; omega)))
section
variable {P : Program} {wo : World} {A : Ad} {K : PySem.W.Frag} {mg : Str → Option Value} {base : Heap}
/-! ### several fields -/
def fsS (v1 v2 v3 : V) : Nat → List (Str × V)
  | 0 => [("key", v2), ("table", v1)]
  | 1 => [("key", v2), ("table", v1)]
  | 2 => [("other", v3), ("key", v2), ("table", v1)]
  | 3 => [("column", v3), ("key", v2), ("table", v1)]
  | _ => [("column", v3), ("key", v2), ("table", v1)]
def PrAt (G : Hp) (t C : Addr) (fs : List (Str × V)) : Prop := ∃ a b, G t = some (.tup [.ref a, .ref b]) ∧ ErrAt G a C fs ∧ ErrAt G b C fs
theorem PrAt.same {G G' : Hp} {t C : Addr} {fs : List (Str × V)} (h : PrAt G t C fs) (e : Same G G') : PrAt G' t C fs := by
  obtain ⟨a, b, h1, h2, h3⟩ := h
  exact ⟨a, b, e _ _ h1, h2.same e, h3.same e⟩
theorem PrAt.setL {G : Hp} {t C l : Addr} {fs : List (Str × V)} {xs ys : List V} (h : PrAt G t C fs) (hl : G l = some (.lst xs)) : PrAt (upd G l (.lst ys)) t C fs := by
  obtain ⟨a, b, h1, h2, h3⟩ := h
  refine ⟨a, b, ?_, h2.setL hl, h3.setL hl⟩
  rw [upd_ne (fun z => by rw [z, hl] at h1; cases h1)]
  exact h1
def spSev (A : Ad) : Sp := fun vs H Q _ => ∃ (G : Hp) (R : Res) (v1 v2 v3 : V), vs = [v1, v2, v3] ∧ Wd G R H ∧ ∀ p t0 t1 t2 t3 t4 G' H', Same G G' → G' p = some (.lst [.ref t0, .ref t1, .ref t2, .ref t3, .ref t4]) →
  PrAt G' t0 (eC A 12) (fsS v1 v2 v3 0) → PrAt G' t1 (eC A 13) (fsS v1 v2 v3 1) → PrAt G' t2 (eC A 14) (fsS v1 v2 v3 2) → PrAt G' t3 (eC A 15) (fsS v1 v2 v3 3) → PrAt G' t4 (eC A 16) (fsS v1 v2 v3 4) → Wd G' R H' → Q (.ref p) H'
theorem sc__law_several : FnScope (["_law_one", "_law_two", "_law_three", "_law_found"] : List Str) (["_law_one", "_law_two", "_law_three"] : List Str) (defScope s__law_several) := ⟨rfl, rfl, rfl, by decide +kernel, rfl, by decide +kernel, by decide +kernel⟩
theorem ok_sev {f : Addr} {fd : FuncData} (F : Fun K "_law_several" "_law_several" s__law_several f fd) (T : Txt K mg A) (VE : ErV P wo K mg base A) : FnOk P wo K mg base (L2.CX P wo) 3 f fd (["_law_one", "_law_two", "_law_three"] : List Str) (spSev A) := by
  refine okT F sc__law_several (fun vs H Q E h => ?_) (fun cdv Ar outer s H vs Q E hr tk po h => ?_)
  · obtain ⟨_, _, _, _, _, rfl, _⟩ := h
    rfl
  obtain ⟨G, R, v1, v2, v3, rfl, w, k⟩ := h
  refine ⟨_, (pss_cons (ps_set (i := 3) sc__law_several.nd rfl (by first | exact Or.inl rfl | exact Or.inr rfl) (pe_lst (pa_cons (pe_tup (pa_cons (pe_excG VE.V_KeyExists (hr.mono (by decide)) (pa_cons (pv 0) (pa_cons (pv 1) pa_nil)) pk_nil) (pa_cons (pe_excG0 VE.V_KeyExistsk (hr.mono (by decide)) (pk_cons (pv 1) (pk_cons (pv 0) pk_nil))) pa_nil))) pa_nil)))
      (pss_cons (ps_expr (pe_bm PySem.F.plainAttrs_list PySem.F.slot_list_append PySem.F.type_list_append mt_append (pv 3) (pa_cons (pe_tup (pa_cons (pe_excG VE.V_KeyMissing (hr.mono (by decide)) (pa_cons (pv 0) (pa_cons (pv 1) pa_nil)) pk_nil) (pa_cons (pe_excG0 VE.V_KeyMissingk (hr.mono (by decide)) (pk_cons (pv 1) (pk_cons (pv 0) pk_nil))) pa_nil))) pa_nil)))
      (pss_cons (ps_expr (pe_bm PySem.F.plainAttrs_list PySem.F.slot_list_append PySem.F.type_list_append mt_append (pv 3) (pa_cons (pe_tup (pa_cons (pe_excG VE.V_DuplicateValue (hr.mono (by decide)) (pa_cons (pv 0) (pa_cons (pv 1) (pa_cons (pv 2) pa_nil))) pk_nil) (pa_cons (pe_excG0 VE.V_DuplicateValuek (hr.mono (by decide)) (pk_cons (pv 2) (pk_cons (pv 1) (pk_cons (pv 0) pk_nil)))) pa_nil))) pa_nil)))
      (pss_cons (ps_expr (pe_bm PySem.F.plainAttrs_list PySem.F.slot_list_append PySem.F.type_list_append mt_append (pv 3) (pa_cons (pe_tup (pa_cons (pe_excG VE.V_MissingTarget (hr.mono (by decide)) (pa_cons (pv 0) (pa_cons (pv 1) (pa_cons (pv 2) pa_nil))) pk_nil) (pa_cons (pe_excG0 VE.V_MissingTargetk (hr.mono (by decide)) (pk_cons (pv 2) (pk_cons (pv 1) (pk_cons (pv 0) pk_nil)))) pa_nil))) pa_nil)))
      (pss_cons (ps_expr (pe_bm PySem.F.plainAttrs_list PySem.F.slot_list_append PySem.F.type_list_append mt_append (pv 3) (pa_cons (pe_tup (pa_cons (pe_excG VE.V_StillReferenced (hr.mono (by decide)) (pa_cons (pv 0) (pa_cons (pv 1) (pa_cons (pv 2) pa_nil))) pk_nil) (pa_cons (pe_excG0 VE.V_StillReferencedk (hr.mono (by decide)) (pk_cons (pv 2) (pk_cons (pv 1) (pk_cons (pv 0) pk_nil)))) pa_nil))) pa_nil)))
      (pss_one (ps_ret (pv 3)))))))), ?_⟩
  walk_at "go"
  refine g_mk2p w fun a1 G1 H1 s1 n1 e1 w => ?_
  walk_at "go"
  refine g_mk2k w fun a2 G2 H2 s2 n2 e2 w => ?_
  walk_at "go"
  refine g_newA w (by walk_at "sz") fun t0 G3 H3 n3 s3 h3 w => ?_
  have p0 : PrAt G3 t0 (eC A 12) (fsS v1 v2 v3 0) := ⟨a1, a2, h3, (e1.same s2).same s3, e2.same s3⟩
  walk_at "go"
  refine g_newA w (by walk_at "sz") fun l G4 H4 n4 s4 h4 w => ?_
  replace p0 := p0.same s4
  have S0 : Same G G3 := Same.trans (Same.trans s1 s2) s3
  have nl : G l = none := Same.free S0 n4
  have S : Same G G4 := Same.trans S0 s4
  clear S0 s1 n1 e1 s2 n2 e2 s3 n3 h3 s4 n4
  walk_at "go"
  refine g_tyL w h4 ?_
  walk_at "go"
  refine g_mk2p w fun a1 G1 H1 s1 n1 e1 w => ?_
  walk_at "go"
  refine g_mk2k w fun a2 G2 H2 s2 n2 e2 w => ?_
  walk_at "go"
  refine g_newA w (by walk_at "sz") fun t1 G3 H3 n3 s3 h3 w => ?_
  have p1 : PrAt G3 t1 (eC A 13) (fsS v1 v2 v3 1) := ⟨a1, a2, h3, (e1.same s2).same s3, e2.same s3⟩
  have S5 : Same G4 G3 := Same.trans (Same.trans s1 s2) s3
  have hl5 := S5 _ _ h4
  replace p0 := (p0.same S5).setL (ys := [.ref t0, .ref t1]) hl5
  replace p1 := p1.setL (ys := [.ref t0, .ref t1]) hl5
  walk_at "go"
  refine g_app w hl5 (by walk_at "sz") fun H5 w => ?_
  replace S := Same.setL (o := .lst [.ref t0, .ref t1]) (Same.trans S S5) nl
  change Wd (upd G3 l (.lst [.ref t0, .ref t1])) R H5 at w
  have h5 : upd G3 l (.lst [.ref t0, .ref t1]) l = _ := upd_same
  generalize upd G3 l (.lst [.ref t0, .ref t1]) = G5 at *
  clear s1 n1 e1 s2 n2 e2 s3 n3 h3 S5 hl5 h4
  walk_at "go"
  refine g_tyL w h5 ?_
  walk_at "go"
  refine g_mk3p w fun a1 G1 H1 s1 n1 e1 w => ?_
  walk_at "go"
  refine g_mk3k w fun a2 G2 H2 s2 n2 e2 w => ?_
  walk_at "go"
  refine g_newA w (by walk_at "sz") fun t2 G3 H3 n3 s3 h3 w => ?_
  have p2 : PrAt G3 t2 (eC A 14) (fsS v1 v2 v3 2) := ⟨a1, a2, h3, (e1.same s2).same s3, e2.same s3⟩
  have S5 : Same G5 G3 := Same.trans (Same.trans s1 s2) s3
  have hl5 := S5 _ _ h5
  replace p0 := (p0.same S5).setL (ys := [.ref t0, .ref t1, .ref t2]) hl5
  replace p1 := (p1.same S5).setL (ys := [.ref t0, .ref t1, .ref t2]) hl5
  replace p2 := p2.setL (ys := [.ref t0, .ref t1, .ref t2]) hl5
  walk_at "go"
  refine g_app w hl5 (by walk_at "sz") fun H6 w => ?_
  replace S := Same.setL (o := .lst [.ref t0, .ref t1, .ref t2]) (Same.trans S S5) nl
  change Wd (upd G3 l (.lst [.ref t0, .ref t1, .ref t2])) R H6 at w
  have h6 : upd G3 l (.lst [.ref t0, .ref t1, .ref t2]) l = _ := upd_same
  generalize upd G3 l (.lst [.ref t0, .ref t1, .ref t2]) = G6 at *
  clear s1 n1 e1 s2 n2 e2 s3 n3 h3 S5 hl5 h5
  walk_at "go"
  refine g_tyL w h6 ?_
  walk_at "go"
  refine g_mk3p w fun a1 G1 H1 s1 n1 e1 w => ?_
  walk_at "go"
  refine g_mk3k w fun a2 G2 H2 s2 n2 e2 w => ?_
  walk_at "go"
  refine g_newA w (by walk_at "sz") fun t3 G3 H3 n3 s3 h3 w => ?_
  have p3 : PrAt G3 t3 (eC A 15) (fsS v1 v2 v3 3) := ⟨a1, a2, h3, (e1.same s2).same s3, e2.same s3⟩
  have S5 : Same G6 G3 := Same.trans (Same.trans s1 s2) s3
  have hl5 := S5 _ _ h6
  replace p0 := (p0.same S5).setL (ys := [.ref t0, .ref t1, .ref t2, .ref t3]) hl5
  replace p1 := (p1.same S5).setL (ys := [.ref t0, .ref t1, .ref t2, .ref t3]) hl5
  replace p2 := (p2.same S5).setL (ys := [.ref t0, .ref t1, .ref t2, .ref t3]) hl5
  replace p3 := p3.setL (ys := [.ref t0, .ref t1, .ref t2, .ref t3]) hl5
  walk_at "go"
  refine g_app w hl5 (by walk_at "sz") fun H7 w => ?_
  replace S := Same.setL (o := .lst [.ref t0, .ref t1, .ref t2, .ref t3]) (Same.trans S S5) nl
  change Wd (upd G3 l (.lst [.ref t0, .ref t1, .ref t2, .ref t3])) R H7 at w
  have h7 : upd G3 l (.lst [.ref t0, .ref t1, .ref t2, .ref t3]) l = _ := upd_same
  generalize upd G3 l (.lst [.ref t0, .ref t1, .ref t2, .ref t3]) = G7 at *
  clear s1 n1 e1 s2 n2 e2 s3 n3 h3 S5 hl5 h6
  walk_at "go"
  refine g_tyL w h7 ?_
  walk_at "go"
  refine g_mk3p w fun a1 G1 H1 s1 n1 e1 w => ?_
  walk_at "go"
  refine g_mk3k w fun a2 G2 H2 s2 n2 e2 w => ?_
  walk_at "go"
  refine g_newA w (by walk_at "sz") fun t4 G3 H3 n3 s3 h3 w => ?_
  have p4 : PrAt G3 t4 (eC A 16) (fsS v1 v2 v3 4) := ⟨a1, a2, h3, (e1.same s2).same s3, e2.same s3⟩
  have S5 : Same G7 G3 := Same.trans (Same.trans s1 s2) s3
  have hl5 := S5 _ _ h7
  replace p0 := (p0.same S5).setL (ys := [.ref t0, .ref t1, .ref t2, .ref t3, .ref t4]) hl5
  replace p1 := (p1.same S5).setL (ys := [.ref t0, .ref t1, .ref t2, .ref t3, .ref t4]) hl5
  replace p2 := (p2.same S5).setL (ys := [.ref t0, .ref t1, .ref t2, .ref t3, .ref t4]) hl5
  replace p3 := (p3.same S5).setL (ys := [.ref t0, .ref t1, .ref t2, .ref t3, .ref t4]) hl5
  replace p4 := p4.setL (ys := [.ref t0, .ref t1, .ref t2, .ref t3, .ref t4]) hl5
  walk_at "go"
  refine g_app w hl5 (by walk_at "sz") fun H8 w => ?_
  replace S := Same.setL (o := .lst [.ref t0, .ref t1, .ref t2, .ref t3, .ref t4]) (Same.trans S S5) nl
  walk_at "go"
  exact k l t0 t1 t2 t3 t4 _ H8 S upd_same p0 p1 p2 p3 p4 w
/-! ### marks -/
def marks (i : Nat) : List Bool := (List.range 22).map fun j => decide (i = j)
def spMarks (A : Ad) : Sp := fun vs H Q _ => ∃ (G : Hp) (R : Res) (a : Addr) (i : Nat) (fs : List (Str × V)), vs = [.ref a] ∧ i < 22 ∧ Wd G R H ∧ ErrAt G a (eC A i) fs ∧ ∀ p G' H', Same G G' → G' p = some (.lst ((marks i).map V.bl)) → Wd G' R H' → Q (.ref p) H'
theorem sc__law_marks : FnScope (["_law_error", "_law_found"] : List Str) (["_law_error"] : List Str) (defScope s__law_marks) := ⟨rfl, rfl, rfl, by decide +kernel, rfl, by decide +kernel, by decide +kernel⟩
theorem ok_marks {f : Addr} {fd : FuncData} (F : Fun K "_law_marks" "_law_marks" s__law_marks f fd) (T : Txt K mg A) (EF : ErF K A) : FnOk P wo K mg base (L2.CX P wo) 1 f fd (["_law_error"] : List Str) (spMarks A) := by
  refine okT F sc__law_marks (fun vs H Q E h => ?_) (fun cdv Ar outer s H vs Q E hr tk po h => ?_)
  · obtain ⟨_, _, _, _, _, rfl, _⟩ := h
    rfl
  obtain ⟨G, R, a, i, fs, rfl, hi, w, he, k⟩ := h
  refine ⟨_, (pss_cons (ps_set (i := 1) sc__law_marks.nd rfl (by first | exact Or.inl rfl | exact Or.inr rfl) (pe_lst (pa_cons (pe_callB (call_isV K) (by rfl) T.nb_isinstance (by decide +kernel) (pa_cons (pv 0) (pa_cons (pe_globE (by rfl) T.g_InvalidName) pa_nil))) (pa_cons (pe_callB (call_isV K) (by rfl) T.nb_isinstance (by decide +kernel) (pa_cons (pv 0) (pa_cons (pe_globE (by rfl) T.g_InvalidColumn) pa_nil))) (pa_cons (pe_callB (call_isV K) (by rfl) T.nb_isinstance (by decide +kernel) (pa_cons (pv 0) (pa_cons (pe_globE (by rfl) T.g_InvalidGroup) pa_nil))) pa_nil)))))
      (pss_cons (ps_set (i := 1) sc__law_marks.nd rfl (by first | exact Or.inl rfl | exact Or.inr rfl) (pe_op (ka_add K) (pv 1) (pe_lst (pa_cons (pe_callB (call_isV K) (by rfl) T.nb_isinstance (by decide +kernel) (pa_cons (pv 0) (pa_cons (pe_globE (by rfl) T.g_UnknownTable) pa_nil))) (pa_cons (pe_callB (call_isV K) (by rfl) T.nb_isinstance (by decide +kernel) (pa_cons (pv 0) (pa_cons (pe_globE (by rfl) T.g_UnknownColumn) pa_nil))) (pa_cons (pe_callB (call_isV K) (by rfl) T.nb_isinstance (by decide +kernel) (pa_cons (pv 0) (pa_cons (pe_globE (by rfl) T.g_InvalidKey) pa_nil))) pa_nil))))))
      (pss_cons (ps_set (i := 1) sc__law_marks.nd rfl (by first | exact Or.inl rfl | exact Or.inr rfl) (pe_op (ka_add K) (pv 1) (pe_lst (pa_cons (pe_callB (call_isV K) (by rfl) T.nb_isinstance (by decide +kernel) (pa_cons (pv 0) (pa_cons (pe_globE (by rfl) T.g_InvalidValue) pa_nil))) (pa_cons (pe_callB (call_isV K) (by rfl) T.nb_isinstance (by decide +kernel) (pa_cons (pv 0) (pa_cons (pe_globE (by rfl) T.g_PermanentRow) pa_nil))) (pa_cons (pe_callB (call_isV K) (by rfl) T.nb_isinstance (by decide +kernel) (pa_cons (pv 0) (pa_cons (pe_globE (by rfl) T.g_Restricted) pa_nil))) pa_nil))))))
      (pss_cons (ps_set (i := 1) sc__law_marks.nd rfl (by first | exact Or.inl rfl | exact Or.inr rfl) (pe_op (ka_add K) (pv 1) (pe_lst (pa_cons (pe_callB (call_isV K) (by rfl) T.nb_isinstance (by decide +kernel) (pa_cons (pv 0) (pa_cons (pe_globE (by rfl) T.g_Stale) pa_nil))) (pa_cons (pe_callB (call_isV K) (by rfl) T.nb_isinstance (by decide +kernel) (pa_cons (pv 0) (pa_cons (pe_globE (by rfl) T.g_InvalidLog) pa_nil))) (pa_cons (pe_callB (call_isV K) (by rfl) T.nb_isinstance (by decide +kernel) (pa_cons (pv 0) (pa_cons (pe_globE (by rfl) T.g_InvalidText) pa_nil))) pa_nil))))))
      (pss_cons (ps_set (i := 1) sc__law_marks.nd rfl (by first | exact Or.inl rfl | exact Or.inr rfl) (pe_op (ka_add K) (pv 1) (pe_lst (pa_cons (pe_callB (call_isV K) (by rfl) T.nb_isinstance (by decide +kernel) (pa_cons (pv 0) (pa_cons (pe_globE (by rfl) T.g_KeyExists) pa_nil))) (pa_cons (pe_callB (call_isV K) (by rfl) T.nb_isinstance (by decide +kernel) (pa_cons (pv 0) (pa_cons (pe_globE (by rfl) T.g_KeyMissing) pa_nil))) (pa_cons (pe_callB (call_isV K) (by rfl) T.nb_isinstance (by decide +kernel) (pa_cons (pv 0) (pa_cons (pe_globE (by rfl) T.g_DuplicateValue) pa_nil))) pa_nil))))))
      (pss_cons (ps_set (i := 1) sc__law_marks.nd rfl (by first | exact Or.inl rfl | exact Or.inr rfl) (pe_op (ka_add K) (pv 1) (pe_lst (pa_cons (pe_callB (call_isV K) (by rfl) T.nb_isinstance (by decide +kernel) (pa_cons (pv 0) (pa_cons (pe_globE (by rfl) T.g_MissingTarget) pa_nil))) (pa_cons (pe_callB (call_isV K) (by rfl) T.nb_isinstance (by decide +kernel) (pa_cons (pv 0) (pa_cons (pe_globE (by rfl) T.g_StillReferenced) pa_nil))) (pa_cons (pe_callB (call_isV K) (by rfl) T.nb_isinstance (by decide +kernel) (pa_cons (pv 0) (pa_cons (pe_globE (by rfl) T.g_Detached) pa_nil))) pa_nil))))))
      (pss_cons (ps_set (i := 1) sc__law_marks.nd rfl (by first | exact Or.inl rfl | exact Or.inr rfl) (pe_op (ka_add K) (pv 1) (pe_lst (pa_cons (pe_callB (call_isV K) (by rfl) T.nb_isinstance (by decide +kernel) (pa_cons (pv 0) (pa_cons (pe_globE (by rfl) T.g_InvalidStatement) pa_nil))) (pa_cons (pe_callB (call_isV K) (by rfl) T.nb_isinstance (by decide +kernel) (pa_cons (pv 0) (pa_cons (pe_globE (by rfl) T.g_InvalidState) pa_nil))) pa_nil)))))
      (pss_one (ps_ret (pe_op (ka_add K) (pv 1) (pe_lst (pa_cons (pe_callB (call_isV K) (by rfl) T.nb_isinstance (by decide +kernel) (pa_cons (pv 0) (pa_cons (pe_globE (by rfl) T.g_InvalidCondition) pa_nil))) (pa_cons (pe_callB (call_isV K) (by rfl) T.nb_isinstance (by decide +kernel) (pa_cons (pv 0) (pa_cons (pe_globE (by rfl) T.g_InvalidBlock) pa_nil))) pa_nil))))))))))))), ?_⟩
  have q : ∀ {G' H' : Hp} {Q : VK} (j : Nat), j < 22 → Same G G' → Wd G' R H' → Q (.bl (decide (i = j))) H' → rIsV K [V.ref a, V.ref (eC A j)] H' Q := fun j hj e w k => g_isV w (he.same e) (EF.ec i hi) (fun u r => r) (EF.kt i j hi hj) k
  have S := Same.refl G
  walk_at "go"
  refine q 0 (by decide) S w ?_
  walk_at "go"
  refine q 1 (by decide) S w ?_
  walk_at "go"
  refine q 2 (by decide) S w ?_
  walk_at "go"
  refine g_newA w (by walk_at "sz") fun p G1 H1 n1 s1 h1 w => ?_
  replace S := Same.trans S s1
  have hf := h1
  clear h1 s1 n1
  walk_at "go"
  refine q 3 (by decide) S w ?_
  walk_at "go"
  refine q 4 (by decide) S w ?_
  walk_at "go"
  refine q 5 (by decide) S w ?_
  walk_at "go"
  refine g_newA w (by walk_at "sz") fun p G1 H1 n1 s1 h1 w => ?_
  refine g_addLA w (s1 _ _ hf) h1 (by walk_at "sz") fun p9 G9 H9 n9 s9 h9 w => ?_
  replace S := Same.trans (Same.trans S s1) s9
  replace hf := h9
  clear h1 s1 n1 h9 s9 n9
  walk_at "go"
  refine q 6 (by decide) S w ?_
  walk_at "go"
  refine q 7 (by decide) S w ?_
  walk_at "go"
  refine q 8 (by decide) S w ?_
  walk_at "go"
  refine g_newA w (by walk_at "sz") fun p G1 H1 n1 s1 h1 w => ?_
  refine g_addLA w (s1 _ _ hf) h1 (by walk_at "sz") fun p9 G9 H9 n9 s9 h9 w => ?_
  replace S := Same.trans (Same.trans S s1) s9
  replace hf := h9
  clear h1 s1 n1 h9 s9 n9
  walk_at "go"
  refine q 9 (by decide) S w ?_
  walk_at "go"
  refine q 10 (by decide) S w ?_
  walk_at "go"
  refine q 11 (by decide) S w ?_
  walk_at "go"
  refine g_newA w (by walk_at "sz") fun p G1 H1 n1 s1 h1 w => ?_
  refine g_addLA w (s1 _ _ hf) h1 (by walk_at "sz") fun p9 G9 H9 n9 s9 h9 w => ?_
  replace S := Same.trans (Same.trans S s1) s9
  replace hf := h9
  clear h1 s1 n1 h9 s9 n9
  walk_at "go"
  refine q 12 (by decide) S w ?_
  walk_at "go"
  refine q 13 (by decide) S w ?_
  walk_at "go"
  refine q 14 (by decide) S w ?_
  walk_at "go"
  refine g_newA w (by walk_at "sz") fun p G1 H1 n1 s1 h1 w => ?_
  refine g_addLA w (s1 _ _ hf) h1 (by walk_at "sz") fun p9 G9 H9 n9 s9 h9 w => ?_
  replace S := Same.trans (Same.trans S s1) s9
  replace hf := h9
  clear h1 s1 n1 h9 s9 n9
  walk_at "go"
  refine q 15 (by decide) S w ?_
  walk_at "go"
  refine q 16 (by decide) S w ?_
  walk_at "go"
  refine q 17 (by decide) S w ?_
  walk_at "go"
  refine g_newA w (by walk_at "sz") fun p G1 H1 n1 s1 h1 w => ?_
  refine g_addLA w (s1 _ _ hf) h1 (by walk_at "sz") fun p9 G9 H9 n9 s9 h9 w => ?_
  replace S := Same.trans (Same.trans S s1) s9
  replace hf := h9
  clear h1 s1 n1 h9 s9 n9
  walk_at "go"
  refine q 18 (by decide) S w ?_
  walk_at "go"
  refine q 19 (by decide) S w ?_
  walk_at "go"
  refine g_newA w (by walk_at "sz") fun p G1 H1 n1 s1 h1 w => ?_
  refine g_addLA w (s1 _ _ hf) h1 (by walk_at "sz") fun p9 G9 H9 n9 s9 h9 w => ?_
  replace S := Same.trans (Same.trans S s1) s9
  replace hf := h9
  clear h1 s1 n1 h9 s9 n9
  walk_at "go"
  refine q 20 (by decide) S w ?_
  walk_at "go"
  refine q 21 (by decide) S w ?_
  walk_at "go"
  refine g_newA w (by walk_at "sz") fun p G1 H1 n1 s1 h1 w => ?_
  refine g_addLA w (s1 _ _ hf) h1 (by walk_at "sz") fun p9 G9 H9 n9 s9 h9 w => ?_
  replace S := Same.trans S s1
  refine k _ _ _ (Same.trans S s9) ?_ w
  rw [h9]
  rfl
end
end Sv


set_option Elab.async false
set_option linter.all false
set_option maxRecDepth 100000
set_option maxHeartbeats 4000000
namespace Sv
open PySem PySem.Spec PyProof.Rows L2 Sw
local macro_rules | `(tactic| walk_at "go1") => `(tactic| first
  | ((with_reducible refine' g_var ?hv ?_); (case hv => rfl))
  | with_reducible refine g_c ?_
  | with_reducible refine g_op ?_
  | with_reducible refine g_un ?_
  | with_reducible refine g_seq ?_
  | with_reducible refine g_next ?_
  | with_reducible refine g_asg ?_
  | with_reducible refine g_name ?_
  | with_reducible refine g_drop ?_
  | with_reducible refine g_sub ?_
  | with_reducible refine g_ret ?_
  | with_reducible refine g_retN ?_
  | with_reducible refine g_ifS ?_
  | with_reducible refine g_if ?_
  | with_reducible refine g_test ?_
  | with_reducible refine g_bl ?_
  | with_reducible refine g_cons ?_
  | with_reducible refine g_nil ?_
  | with_reducible refine g_and ?_
  | with_reducible refine g_or ?_
  | with_reducible refine g_not ?_
  | with_reducible refine g_callB ?_
  | with_reducible refine g_addI ?_
  | with_reducible refine g_I0 ?_
  | with_reducible refine g_calG ?_
  | with_reducible refine g_mkG ?_
  | with_reducible refine g_tup ?_
  | with_reducible refine g_excG ?_
  | with_reducible refine g_tXv ?_
  | with_reducible refine g_pairs1 ?_
  | with_reducible refine g_pairs0 ?_
  | with_reducible refine g_lst ?_
  | with_reducible refine g_forL ?_
  | with_reducible refine g_forR ?_
  | with_reducible refine g_forR2 ?_
  | with_reducible refine g_forS ?_
  | with_reducible refine g_forE ?_
  | with_reducible refine g_lcL ?_
  | with_reducible refine g_lcR ?_
  | with_reducible refine g_lcS ?_
  | with_reducible refine g_lcE ?_
  | with_reducible refine g_orT ?_
  | with_reducible refine g_slc ?_
  | with_reducible refine g_noPart ?_
  | with_reducible refine g_part ?_
  | with_reducible refine g_bm ?_
  | with_reducible refine g_par ?_
  | with_reducible refine g_yes ?_
  | with_reducible refine g_tupG ?_
  | with_reducible refine g_gcons ?_
  | with_reducible refine g_gnil ?_
  | with_reducible refine g_chain ?_
  | with_reducible refine g_truB ?_
  | with_reducible refine g_truN ?_
  | with_reducible refine g_truI ?_
  | with_reducible refine g_m1 ?_
  | with_reducible refine g_fld ?_
  | with_reducible refine g_con ?_
  | with_reducible refine g_tru ?_
  | with_reducible refine g_U ?_
  | with_reducible refine g_xg ?_
  | with_reducible refine g_andT ?_
  | with_reducible refine g_exI ?_
  | with_reducible refine g_dnew ?_
  | with_reducible refine g_intB ?_
  | with_reducible refine g_meth ?_
  | with_reducible refine g_prop ?_
  | with_reducible refine g_exc1 ?_
  | with_reducible refine g_setF ?_
  | with_reducible refine g_star ?_
  | with_reducible refine g_strM ?_
  | with_reducible refine iteT ?_
  | with_reducible refine iteF ?_
  | with_reducible refine iteNT ?_
  | with_reducible refine iteNF ?_)
local macro_rules | `(tactic| walk_at "go") => `(tactic| repeat (walk_at "go1"))
local macro_rules | `(tactic| walk_at "sz") => `(tactic| (first | (rw [sizeLine_eq]; simp only [List.length_cons, List.length_nil, List.length_map, List.length_append, List.length_take]; omega) | (rw [sizeLine_eq]; omega)))
theorem th_all {ds : List PyData} (h : ∀ d ∈ ds, Th d) : PyData.showableAll ds = true ∧ PyData.depthAll ds ≤ 3 ∧ ((PyData.shownAll ds).map (·.length)).sum ≤ 60 * ds.length ∧ (PyData.shownAll ds).length = ds.length := by
  induction ds with
  | nil => exact ⟨rfl, by simp [PyData.depthAll], by simp [PyData.shownAll], by simp [PyData.shownAll]⟩
  | cons d ds ih =>
    obtain ⟨h1, h2, h3, h4⟩ := ih fun x hx => h x (List.mem_cons_of_mem _ hx)
    have t := h d List.mem_cons_self
    refine ⟨?_, ?_, ?_, ?_⟩
    · rw [PyData.showableAll, t.s, h1]; rfl
    · rw [PyData.depthAll]; have := t.dp; omega
    · rw [PyData.shownAll, List.map_cons, List.sum_cons, List.length_cons]; have := t.l; omega
    · rw [PyData.shownAll, List.length_cons, List.length_cons, h4]
theorem th_list {ds : List PyData} (h : ∀ d ∈ ds, Th d) (hl : ds.length ≤ 3) : Tz 300 (.list ds) := by
  obtain ⟨h1, h2, h3, h4⟩ := th_all h
  refine ⟨by rw [PyData.showable]; exact h1, by rw [PyData.depth]; omega, ?_⟩
  rw [PyData.shown]
  have := listText_len_le (PyData.shownAll ds)
  omega
theorem th_one {d : PyData} (h : Th d) : Tz 300 d := ⟨h.s, Nat.le_trans h.dp (by decide), Nat.le_trans h.l (by decide)⟩
section
variable {P : Program} {wo : World} {A : Ad} {K : PySem.W.Frag} {mg : Str → Option Value} {base : Heap}
theorem fsS_table {v1 v2 v3 : V} {i : Nat} (h : i < 5) : (fsS v1 v2 v3 i).lookup ("table" : Str) = some v1 := by
  match i, h with
  | 0, _ => rfl
  | 1, _ => rfl
  | 2, _ => rfl
  | 3, _ => rfl
  | 4, _ => rfl
theorem fsS_key {v1 v2 v3 : V} {i : Nat} (h : i < 5) : (fsS v1 v2 v3 i).lookup ("key" : Str) = some v2 := by
  match i, h with
  | 0, _ => rfl
  | 1, _ => rfl
  | 2, _ => rfl
  | 3, _ => rfl
  | 4, _ => rfl
theorem fsS_col {v1 v2 v3 : V} {i : Nat} (h : i < 5) (h1 : 1 < i) (h2 : i ≠ 2) : (fsS v1 v2 v3 i).lookup ("column" : Str) = some v3 := by
  match i, h with
  | 3, _ => rfl
  | 4, _ => rfl
theorem eF_table {i : Nat} (h : i < 5) : ("table" : Str) ∈ eF (12 + i) := by
  match i, h with
  | 0, _ => exact .head _
  | 1, _ => exact .head _
  | 2, _ => exact .head _
  | 3, _ => exact .head _
  | 4, _ => exact .head _
theorem eF_key {i : Nat} (h : i < 5) : ("key" : Str) ∈ eF (12 + i) := by
  match i, h with
  | 0, _ => exact .tail _ (.head _)
  | 1, _ => exact .tail _ (.head _)
  | 2, _ => exact .tail _ (.head _)
  | 3, _ => exact .tail _ (.head _)
  | 4, _ => exact .tail _ (.head _)
theorem eF_col {i : Nat} (h : i < 5) (h1 : 1 < i) (h2 : i ≠ 2) : ("column" : Str) ∈ eF (12 + i) := by
  match i, h with
  | 3, _ => exact .tail _ (.tail _ (.head _))
  | 4, _ => exact .tail _ (.tail _ (.head _))
/-! ### _law_several_right -/
def spSR (K : PySem.W.Frag) : Sp := fun vs H Q _ => ∃ (G : Hp) (R : Res) (v1 v2 v3 : V) (d1 d2 d3 : PyData), vs = [v1, v2, v3] ∧ Wd G R H ∧ Dq K G v1 d1 ∧ Dq K G v2 d2 ∧ Dq K G v3 d3 ∧ Th d1 ∧ Th d2 ∧ Th d3 ∧ ∀ H', Wd G R H' → Q (.bl true) H'
theorem sc__law_several_right : FnScope (["_law_one", "_law_two", "_law_three", "_law_at", "_law_error", "_law_twin", "_law_made", "_law_told"] : List Str) (["_law_one", "_law_two", "_law_three"] : List Str) (defScope s__law_several_right) := ⟨rfl, rfl, rfl, by decide +kernel, rfl, by decide +kernel, by decide +kernel⟩
theorem ok_sr {f : Addr} {fd : FuncData} (F : Fun K "_law_several_right" "_law_several_right" s__law_several_right f fd) (T : Txt K mg A) (EF : ErF K A) (Gse : GFn P wo K mg base 3 "_law_several" 3 [] (fun vs _ => spSev A vs)) : FnG P wo K mg base (L2.CX P wo) 4 f fd (["_law_one", "_law_two", "_law_three"] : List Str) (spSR K) := by
  refine okG F sc__law_several_right (fun vs H Q E h => ?_) (fun cdv Ar outer s H vs Q E hr hgd tk po h => ?_)
  · obtain ⟨_, _, _, _, _, _, _, _, rfl, _⟩ := h
    rfl
  obtain ⟨G, R, v1, v2, v3, d1, d2, d3, rfl, w, q1, q2, q3, t1, t2, t3, k⟩ := h
  refine ⟨_, (pss_cons (ps_for po rfl (pi_enum (by rfl) T.nb_enumerate (pa_cons (pe_callG Gse (hr.mono (by decide)) tk (pa_cons (pv 0) (pa_cons (pv 1) (pa_cons (pv 2) pa_nil))) pk_nil) pa_nil)) (kg_tup (n := 2) K rfl (pgs_cons (pg_name (i := 3) sc__law_several_right.nd rfl (by first | exact Or.inl rfl | exact Or.inr rfl)) (pgs_cons (kg_tup (n := 2) K rfl (pgs_cons (pg_name (i := 4) sc__law_several_right.nd rfl (by first | exact Or.inl rfl | exact Or.inr rfl)) (pgs_cons (pg_name (i := 5) sc__law_several_right.nd rfl (by first | exact Or.inl rfl | exact Or.inr rfl)) pgs_nil))) pgs_nil))) (pss_one (ps_for po rfl (ki_list K (pe_lst (pa_cons (pv 4) (pa_cons (pv 5) pa_nil)))) (pg_name (i := 6) sc__law_several_right.nd rfl (by first | exact Or.inl rfl | exact Or.inr rfl)) (pss_cons (ps_set (i := 7) sc__law_several_right.nd rfl (by first | exact Or.inl rfl | exact Or.inr rfl) (pe_lst (pa_cons (pe_xv K (pv 6)) (pa_cons (pe_xv K (pv 6)) pa_nil))))
      (pss_cons (ps_if (pt_cmpR op_gt (pv 3) pe_int (nomark _)) (pss_one (ps_expr (pe_bm PySem.F.plainAttrs_list PySem.F.slot_list_append PySem.F.type_list_append mt_append (pv 7) (pa_cons (pe_ifExp (pt_cmpR (ka_eq K hr.units) (pv 3) pe_int (nomark _)) (pe_xv K (pv 6)) (pe_xv K (pv 6))) pa_nil)))) pss_nil)
      (pss_one (ps_if (pt_cmpR (ka_ne K hr.units) (pe_callB (ka_reprQ K hgd (hu120 hr)) (by rfl) T.nb_repr (by decide +kernel) (pa_cons (pv 7) pa_nil)) (pe_callB (ka_reprQ K hgd (hu120 hr)) (by rfl) T.nb_repr (by decide +kernel) (pa_cons (pe_slice (ka_sl K) (pe_lst (pa_cons (pv 0) (pa_cons (pv 1) (pa_cons (pv 2) pa_nil)))) po_none (po_some (pe_callB (ka_len K) (by rfl) T.nb_len (by decide +kernel) (pa_cons (pv 7) pa_nil)))) pa_nil)) (nomark _)) (pss_one (ps_ret pe_bl)) pss_nil)))))))
      (pss_one (ps_ret pe_bl))), ?_⟩
  walk_at "go"
  refine ⟨rfl, rfl, G, R, v1, v2, v3, rfl, w, fun p x0 x1 x2 x3 x4 G1 H1 s1 h1 p0 p1 p2 p3 p4 w1 => ?_⟩
  walk_at "go"
  refine ⟨p, _, rfl, SqL.of (w1.get h1), ?_⟩
  refine for_it (itf_enum (xs := [.ref x0, .ref x1, .ref x2, .ref x3, .ref x4])) (fun i σ' H' => ∃ y3 y4 y5 y6 y7, σ' = [some v1, some v2, some v3, y3, y4, y5, y6, y7] ∧ Wd G1 R H') ⟨_, _, _, _, _, rfl, w1⟩ (fun i σ' H' _ h => ?_) ?_ ?_
  · obtain ⟨_, _, _, _, _, _, w⟩ := h
    exact SqL.of (w.get h1)
  · rintro i x σ' H' H'' hi ⟨y3, y4, y5, y6, y7, rfl, w⟩ ⟨T', y, rfl, nT, rfl, hy⟩
    have hi5 : i < 5 := hi
    obtain ⟨t, rfl, pt⟩ : ∃ t, y = .ref t ∧ PrAt G1 t (eC A (12 + i)) (fsS v1 v2 v3 i) := by
      match i, hi5 with
      | 0, _ => cases hy; exact ⟨_, rfl, p0⟩
      | 1, _ => cases hy; exact ⟨_, rfl, p1⟩
      | 2, _ => cases hy; exact ⟨_, rfl, p2⟩
      | 3, _ => cases hy; exact ⟨_, rfl, p3⟩
      | 4, _ => cases hy; exact ⟨_, rfl, p4⟩
    have wT := w.new (o := .tup [.int (i : Nat), .ref t]) nT
    have nT' := w.free nT
    obtain ⟨a, b, ht, ea, eb⟩ := pt.same (Same.newG (o := .tup [.int (i : Nat), .ref t]) nT')
    have hT : upd G1 T' (.tup [.int (i : Nat), .ref t]) T' = _ := upd_same
    have sT := Same.newG (o := .tup [.int (i : Nat), .ref t]) nT'
    generalize upd G1 T' (.tup [.int (i : Nat), .ref t]) = G2 at *
    generalize upd H' T' _ = H2 at *
    walk_at "go"
    refine ⟨T', _, rfl, SqT.of (wT.get hT), rfl, ?_⟩
    walk_at "go"
    refine ⟨t, _, rfl, SqT.of (wT.get ht), rfl, ?_⟩
    walk_at "go"
    refine g_newA wT (by walk_at "sz") fun l G3 H3 n3 s3 h3 w3 => ?_
    refine ⟨l, rfl, ⟨_, SqL.of (w3.get h3)⟩, ?_⟩
    refine for_it (itf_list (xs := [.ref a, .ref b])) (fun j σ' H' => ∃ y6 y7, σ' = [some v1, some v2, some v3, some (.int (i : Nat)), some (.ref a), some (.ref b), y6, y7] ∧ Wd G3 R H') ⟨_, _, rfl, w3⟩ (fun i σ' H' _ h => ?_) ?_ ?_
    · obtain ⟨_, _, _, w⟩ := h
      exact SqL.of (w.get h3)
    · rintro j x σ' H4 H5 hj ⟨y6, y7, rfl, w4⟩ ⟨rfl, hx⟩
      obtain ⟨c, rfl, ec⟩ : ∃ c, x = .ref c ∧ ErrAt G3 c (eC A (12 + i)) (fsS v1 v2 v3 i) := by
        match j, (show j < 2 from hj) with
        | 0, _ => cases hx; exact ⟨_, rfl, ea.same s3⟩
        | 1, _ => cases hx; exact ⟨_, rfl, eb.same s3⟩
      have sG : Same G G3 := Same.trans (Same.trans s1 sT) s3
      walk_at "go"
      refine g_xv w4 ec (EF.xf (12 + i) (by omega)) (EF.na (12 + i) (by omega) _ (eF_table hi5)) (fsS_table hi5) ?_
      walk_at "go"
      refine g_xv w4 ec (EF.xf (12 + i) (by omega)) (EF.na (12 + i) (by omega) _ (eF_key hi5)) (fsS_key hi5) ?_
      walk_at "go"
      refine g_newA w4 (by walk_at "sz") fun m G6 H6 n6 s6 h6 w6 => ?_
      walk_at "go"
      refine iteD (fun c1 => ?_) (fun c1 => ?_)
      · walk_at "go"
        refine g_tyL w6 h6 ?_
        walk_at "go"
        refine g_eqS rfl ?_
        walk_at "go"
        refine iteD (fun c2 => ?_) (fun c2 => ?_)
        · obtain rfl : i = 2 := by have := V.int.inj c2; omega
          walk_at "go"
          refine g_xv w6 (ec.same s6) (EF.xf 14 (by omega)) (EF.na 14 (by omega) ("other" : Str) (.tail _ (.tail _ (.head _)))) rfl ?_
          walk_at "go"
          refine g_app w6 h6 (by walk_at "sz") fun H8 w8 => ?_
          walk_at "go"
          have h8 : upd G6 m (.lst [v1, v2, v3]) m = _ := upd_same
          change Wd (upd G6 m (.lst [v1, v2, v3])) R H8 at w8
          have S8 : Same G3 (upd G6 m (.lst [v1, v2, v3])) := Same.setL s6 n6
          have T8 : 3 ≤ 100000 := by decide
          have tz : Tz 300 (.list [d1, d2, d3]) := th_list (fun d hd => by
                        simp only [List.mem_cons, List.not_mem_nil, or_false] at hd
                        rcases hd with rfl | rfl | rfl
                        · exact t1
                        · exact t2
                        · exact t3) (by simp)
          refine g_reprZ w8 (.lst (SqL.of h8) (.cons (q1.mono (Same.trans sG S8)) (.cons (q2.mono (Same.trans sG S8)) (.cons (q3.mono (Same.trans sG S8)) .nil)))) tz (by decide) ?_
          walk_at "go"
          refine g_newA w8 (by walk_at "sz") fun p9 G9 H9 n9 s9 h9 w9 => ?_
          walk_at "go"
          refine g_lenL w9 (SqL.of (s9 _ _ h8)) ?_
          walk_at "go"
          refine g_slLA w9 (SqL.of h9) fun p10 G10 H10 n10 s10 h10 w10 => ?_
          replace h10 : G10 p10 = some (.lst [v1, v2, v3]) := h10
          walk_at "go"
          refine g_reprZ w10 (.lst (SqL.of h10) (.cons (q1.mono (Same.trans (Same.trans (Same.trans sG S8) s9) s10)) (.cons (q2.mono (Same.trans (Same.trans (Same.trans sG S8) s9) s10)) (.cons (q3.mono (Same.trans (Same.trans (Same.trans sG S8) s9) s10)) .nil)))) tz (by decide) ?_
          refine g_neS rfl ?_
          rw [decide_eq_true (show V.str _ = V.str _ from rfl)]
          walk_at "go"
          exact ⟨_, _, rfl, w10.drop (Same.trans (Same.trans S8 s9) s10)⟩
        · walk_at "go"
          have c3 : i ≠ 2 := fun z => c2 (by rw [z]; rfl)
          have c4 : 1 < i := by omega
          refine g_xv w6 (ec.same s6) (EF.xf (12 + i) (by omega)) (EF.na (12 + i) (by omega) _ (eF_col hi5 c4 c3)) (fsS_col hi5 c4 c3) ?_
          walk_at "go"
          refine g_app w6 h6 (by walk_at "sz") fun H8 w8 => ?_
          walk_at "go"
          have h8 : upd G6 m (.lst [v1, v2, v3]) m = _ := upd_same
          change Wd (upd G6 m (.lst [v1, v2, v3])) R H8 at w8
          have S8 : Same G3 (upd G6 m (.lst [v1, v2, v3])) := Same.setL s6 n6
          have T8 : 3 ≤ 100000 := by decide
          have tz : Tz 300 (.list [d1, d2, d3]) := th_list (fun d hd => by
                        simp only [List.mem_cons, List.not_mem_nil, or_false] at hd
                        rcases hd with rfl | rfl | rfl
                        · exact t1
                        · exact t2
                        · exact t3) (by simp)
          refine g_reprZ w8 (.lst (SqL.of h8) (.cons (q1.mono (Same.trans sG S8)) (.cons (q2.mono (Same.trans sG S8)) (.cons (q3.mono (Same.trans sG S8)) .nil)))) tz (by decide) ?_
          walk_at "go"
          refine g_newA w8 (by walk_at "sz") fun p9 G9 H9 n9 s9 h9 w9 => ?_
          walk_at "go"
          refine g_lenL w9 (SqL.of (s9 _ _ h8)) ?_
          walk_at "go"
          refine g_slLA w9 (SqL.of h9) fun p10 G10 H10 n10 s10 h10 w10 => ?_
          replace h10 : G10 p10 = some (.lst [v1, v2, v3]) := h10
          walk_at "go"
          refine g_reprZ w10 (.lst (SqL.of h10) (.cons (q1.mono (Same.trans (Same.trans (Same.trans sG S8) s9) s10)) (.cons (q2.mono (Same.trans (Same.trans (Same.trans sG S8) s9) s10)) (.cons (q3.mono (Same.trans (Same.trans (Same.trans sG S8) s9) s10)) .nil)))) tz (by decide) ?_
          refine g_neS rfl ?_
          rw [decide_eq_true (show V.str _ = V.str _ from rfl)]
          walk_at "go"
          exact ⟨_, _, rfl, w10.drop (Same.trans (Same.trans S8 s9) s10)⟩
      · walk_at "go"
        have w8 := w6
        have h8 := h6
        have S8 : Same G3 G6 := s6
        have T8 : 2 ≤ 100000 := by decide
        have tz : Tz 300 (.list [d1, d2]) := th_list (fun d hd => by
                    simp only [List.mem_cons, List.not_mem_nil, or_false] at hd
                    rcases hd with rfl | rfl
                    · exact t1
                    · exact t2) (by simp)
        refine g_reprZ w8 (.lst (SqL.of h8) (.cons (q1.mono (Same.trans sG S8)) (.cons (q2.mono (Same.trans sG S8)) .nil))) tz (by decide) ?_
        walk_at "go"
        refine g_newA w8 (by walk_at "sz") fun p9 G9 H9 n9 s9 h9 w9 => ?_
        walk_at "go"
        refine g_lenL w9 (SqL.of (s9 _ _ h8)) ?_
        walk_at "go"
        refine g_slLA w9 (SqL.of h9) fun p10 G10 H10 n10 s10 h10 w10 => ?_
        replace h10 : G10 p10 = some (.lst [v1, v2]) := h10
        walk_at "go"
        refine g_reprZ w10 (.lst (SqL.of h10) (.cons (q1.mono (Same.trans (Same.trans (Same.trans sG S8) s9) s10)) (.cons (q2.mono (Same.trans (Same.trans (Same.trans sG S8) s9) s10)) .nil))) tz (by decide) ?_
        refine g_neS rfl ?_
        rw [decide_eq_true (show V.str _ = V.str _ from rfl)]
        walk_at "go"
        exact ⟨_, _, rfl, w10.drop (Same.trans (Same.trans S8 s9) s10)⟩
    · rintro σ' H' ⟨y6, y7, rfl, w⟩
      walk_at "go"
      exact ⟨_, _, _, _, _, rfl, w.drop (Same.trans sT s3)⟩
  · rintro σ' H' ⟨y3, y4, y5, y6, y7, rfl, w⟩
    walk_at "go"
    exact k _ (w.drop s1)
end
end Sv


set_option Elab.async false
set_option linter.all false
set_option maxRecDepth 100000
set_option maxHeartbeats 4000000
namespace Sv
open PySem PySem.Spec PyProof.Rows L2 Sw
local macro_rules | `(tactic| walk_at "go1") => `(tactic| first
  | ((with_reducible refine' g_var ?hv ?_); (case hv => rfl))
  | with_reducible refine g_c ?_
  | with_reducible refine g_op ?_
  | with_reducible refine g_un ?_
  | with_reducible refine g_seq ?_
  | with_reducible refine g_next ?_
  | with_reducible refine g_asg ?_
  | with_reducible refine g_name ?_
  | with_reducible refine g_drop ?_
  | with_reducible refine g_sub ?_
  | with_reducible refine g_ret ?_
  | with_reducible refine g_retN ?_
  | with_reducible refine g_ifS ?_
  | with_reducible refine g_if ?_
  | with_reducible refine g_test ?_
  | with_reducible refine g_bl ?_
  | with_reducible refine g_cons ?_
  | with_reducible refine g_nil ?_
  | with_reducible refine g_and ?_
  | with_reducible refine g_or ?_
  | with_reducible refine g_not ?_
  | with_reducible refine g_callB ?_
  | with_reducible refine g_addI ?_
  | with_reducible refine g_I0 ?_
  | with_reducible refine g_calG ?_
  | with_reducible refine g_mkG ?_
  | with_reducible refine g_tup ?_
  | with_reducible refine g_excG ?_
  | with_reducible refine g_tXv ?_
  | with_reducible refine g_pairs1 ?_
  | with_reducible refine g_pairs0 ?_
  | with_reducible refine g_lst ?_
  | with_reducible refine g_forL ?_
  | with_reducible refine g_forR ?_
  | with_reducible refine g_forR2 ?_
  | with_reducible refine g_forS ?_
  | with_reducible refine g_forE ?_
  | with_reducible refine g_lcL ?_
  | with_reducible refine g_lcR ?_
  | with_reducible refine g_lcS ?_
  | with_reducible refine g_lcE ?_
  | with_reducible refine g_orT ?_
  | with_reducible refine g_slc ?_
  | with_reducible refine g_noPart ?_
  | with_reducible refine g_part ?_
  | with_reducible refine g_bm ?_
  | with_reducible refine g_par ?_
  | with_reducible refine g_yes ?_
  | with_reducible refine g_tupG ?_
  | with_reducible refine g_gcons ?_
  | with_reducible refine g_gnil ?_
  | with_reducible refine g_chain ?_
  | with_reducible refine g_truB ?_
  | with_reducible refine g_truN ?_
  | with_reducible refine g_truI ?_
  | with_reducible refine g_m1 ?_
  | with_reducible refine g_fld ?_
  | with_reducible refine g_con ?_
  | with_reducible refine g_tru ?_
  | with_reducible refine g_U ?_
  | with_reducible refine g_xg ?_
  | with_reducible refine g_andT ?_
  | with_reducible refine g_exI ?_
  | with_reducible refine g_dnew ?_
  | with_reducible refine g_intB ?_
  | with_reducible refine g_meth ?_
  | with_reducible refine g_prop ?_
  | with_reducible refine g_exc1 ?_
  | with_reducible refine g_setF ?_
  | with_reducible refine g_star ?_
  | with_reducible refine g_strM ?_
  | with_reducible refine iteT ?_
  | with_reducible refine iteF ?_
  | with_reducible refine iteNT ?_
  | with_reducible refine iteNF ?_)
local macro_rules | `(tactic| walk_at "go") => `(tactic| repeat (walk_at "go1"))
local macro_rules | `(tactic| walk_at "sz") => `(tactic| (first | (rw [sizeLine_eq]; simp only [List.length_cons, List.length_nil, List.length_map, List.length_append, List.length_take]; omega) | (rw [sizeLine_eq]; omega)))
section
variable {P : Program} {wo : World} {A : Ad} {K : PySem.W.Frag} {mg : Str → Option Value} {base : Heap}
theorem g_par3 {i j l : Nat} {ta : TA} {D : Ends} {σ : L2.St} {H : Hp} (k : ta σ H fun vs H1 => ∃ u v w, vs = [u, v, w] ∧ D.nx (((σ.set i (some u)).set j (some v)).set l (some w)) H1) : tPar3 i j l ta D σ H := k
/-- the j-th error is of the j-th class -/
def EAll (A : Ad) (G : Hp) (m : Nat) (as : List Addr) : Prop := ∀ j b, as[j]? = some b → ∃ fs, ErrAt G b (eC A (m + j)) fs
theorem EAll.same {G G' : Hp} {m : Nat} {as : List Addr} (h : EAll A G m as) (e : Same G G') : EAll A G' m as := fun j b hb => by
  obtain ⟨fs, he⟩ := h j b hb
  exact ⟨fs, he.same e⟩
theorem EAll.setL {G : Hp} {m : Nat} {as : List Addr} {l : Addr} {xs ys : List V} (h : EAll A G m as) (hl : G l = some (.lst xs)) : EAll A (upd G l (.lst ys)) m as := fun j b hb => by
  obtain ⟨fs, he⟩ := h j b hb
  exact ⟨fs, he.setL hl⟩
theorem EAll.snoc {G : Hp} {m : Nat} {as : List Addr} {a : Addr} {fs : List (Str × V)} (h : EAll A G m as) (e : ErrAt G a (eC A (m + as.length)) fs) : EAll A G m (as ++ [a]) := fun j b hb => by
  by_cases hj : j < as.length
  · rw [List.getElem?_append_left hj] at hb
    exact h j b hb
  · rw [List.getElem?_append_right (by omega)] at hb
    have : j - as.length = 0 := by
      rcases Nat.eq_zero_or_pos (j - as.length) with z | z
      · exact z
      · rw [List.getElem?_eq_none (by simp; omega)] at hb
        cases hb
    rw [this] at hb
    cases hb
    have : j = as.length := by omega
    subst this
    exact ⟨fs, e⟩
theorem EAll.app {G : Hp} {m : Nat} {as bs : List Addr} (h : EAll A G m as) (h2 : EAll A G (m + as.length) bs) : EAll A G m (as ++ bs) := fun j b hb => by
  by_cases hj : j < as.length
  · rw [List.getElem?_append_left hj] at hb
    exact h j b hb
  · rw [List.getElem?_append_right (by omega)] at hb
    obtain ⟨fs, e⟩ := h2 _ _ hb
    exact ⟨fs, by rw [show m + j = m + as.length + (j - as.length) by omega]; exact e⟩
theorem EAll.nil {G : Hp} {m : Nat} : EAll A G m [] := fun j b hb => by
  rw [List.getElem?_nil] at hb
  cases hb
theorem marks_count {i : Nat} (h : i < 22) : (marks i).count true = 1 := by
  have : ∀ i : Fin 22, (marks i.1).count true = 1 := by decide +kernel
  exact this ⟨i, h⟩
theorem marks_at {i : Nat} (h : i < 22) : (marks i)[i]? = some true := by
  unfold marks
  rw [List.getElem?_map, List.getElem?_range h]
  simp
theorem marks_ne {i j : Nat} (h : i < 22) (hj : j < i) : (marks i)[j]? = some false := by
  unfold marks
  rw [List.getElem?_map, List.getElem?_range (by omega)]
  simp
  omega
def spLaw (K : PySem.W.Frag) : Sp := fun vs H Q _ => ∃ (s : Addr) (ns : List Int), vs = [.ref s] ∧ SqL K H s (ns.map V.int) ∧ ∀ H', Q (.bl true) H'
theorem sc_law : FnScope (["_law_script", "_law_turn", "_law_one", "_law_two", "_law_three", "_law_made", "_law_way", "_law_error", "_law_told", "_law_at", "_law_marks_here", "_law_pair"] : List Str) (["_law_script"] : List Str) (defScope s_law) := ⟨rfl, rfl, rfl, by decide +kernel, rfl, by decide +kernel, by decide +kernel⟩
theorem ok_law {f : Addr} {fd : FuncData} (F : Fun K "law" "law" s_law f fd) (T : Txt K mg A) (EF : ErF K A) (VE : ErV P wo K mg base A) (Gth : GFn P wo K mg base 1 "_law_thing" 2 [] (fun vs _ => spThing K vs)) (Gsi : GFn P wo K mg base 3 "_law_single" 2 [] (fun vs _ => spSingle A vs))
    (Gat : GFn P wo K mg base 1 "_law_attribute" 2 [] (fun vs _ => spAttr A vs)) (Gse : GFn P wo K mg base 3 "_law_several" 3 [] (fun vs _ => spSev A vs)) (Gsr : GFg P wo K mg base 4 "_law_several_right" 3 [] (fun vs _ => spSR K vs)) (Gma : GFn P wo K mg base 1 "_law_marks" 1 [] (fun vs _ => spMarks A vs)) : FnG P wo K mg base (L2.CX P wo) 5 f fd (["_law_script"] : List Str) (spLaw K) := by
  refine okG F sc_law (fun vs H Q E h => ?_) (fun cdv Ar outer s H vs Q E hr hgd tk po h => ?_)
  · obtain ⟨_, _, rfl, _⟩ := h
    rfl
  obtain ⟨sc, ns, rfl, hsc, k⟩ := h
  refine ⟨_, (pss_cons (ps_for po rfl (pi_range1 (by rfl) T.nb_range (pa_cons pe_int pa_nil)) (pg_name (i := 1) sc_law.nd rfl (by first | exact Or.inl rfl | exact Or.inr rfl)) (pss_cons (ps_par3 (i := 2) (j := 3) (l := 4) rfl sc_law.nd rfl rfl rfl (by decide) (by decide) (by decide) rfl rfl rfl (pa_cons (pe_callG Gth (hr.mono (by decide)) tk (pa_cons (pv 0) (pa_cons (pv 1) pa_nil)) pk_nil) (pa_cons (pe_callG Gth (hr.mono (by decide)) tk (pa_cons (pv 0) (pa_cons (pe_op (ka_add K) (pv 1) pe_int) pa_nil)) pk_nil) (pa_cons (pe_callG Gth (hr.mono (by decide)) tk (pa_cons (pv 0) (pa_cons (pe_op (ka_add K) (pv 1) pe_int) pa_nil)) pk_nil) pa_nil))) (by rfl))
      (pss_cons (ps_set (i := 5) sc_law.nd rfl (by first | exact Or.inl rfl | exact Or.inr rfl) (pe_lst pa_nil))
      (pss_cons (ps_for po rfl (pi_range1 (by rfl) T.nb_range (pa_cons pe_int pa_nil)) (pg_name (i := 6) sc_law.nd rfl (by first | exact Or.inl rfl | exact Or.inr rfl)) (pss_cons (ps_asg (pe_callG Gsi (hr.mono (by decide)) tk (pa_cons (pv 6) (pa_cons (pv 2) pa_nil)) pk_nil) (kg_tup (n := 2) K rfl (pgs_cons (pg_name (i := 7) sc_law.nd rfl (by first | exact Or.inl rfl | exact Or.inr rfl)) (pgs_cons (pg_name (i := 8) sc_law.nd rfl (by first | exact Or.inl rfl | exact Or.inr rfl)) pgs_nil))))
      (pss_cons (ps_if (PW.pt (pw_or (pt_cmpR (ka_ne K hr.units) (pe_callB (ka_reprQ K hgd (hu120 hr)) (by rfl) T.nb_repr (by decide +kernel) (pa_cons (pe_callG Gat (hr.mono (by decide)) tk (pa_cons (pv 7) (pa_cons (pv 6) pa_nil)) pk_nil) pa_nil)) (pe_callB (ka_reprQ K hgd (hu120 hr)) (by rfl) T.nb_repr (by decide +kernel) (pa_cons (pv 2) pa_nil)) (nomark _)) (pw_or1 (pt_cmpR (ka_ne K hr.units) (pe_callB (ka_reprQ K hgd (hu120 hr)) (by rfl) T.nb_repr (by decide +kernel) (pa_cons (pv 8) pa_nil)) (pe_callB (ka_reprQ K hgd (hu120 hr)) (by rfl) T.nb_repr (by decide +kernel) (pa_cons (pv 2) pa_nil)) (nomark _))))) (pss_one (ps_ret pe_bl)) pss_nil)
      (pss_one (ps_expr (pe_bm PySem.F.plainAttrs_list PySem.F.slot_list_append PySem.F.type_list_append mt_append (pv 5) (pa_cons (pv 7) pa_nil)))))))
      (pss_cons (ps_if (pt_not (kt_truth K (pe_callGg Gsr (hr.mono (by decide)) hgd tk (pa_cons (pv 2) (pa_cons (pv 3) (pa_cons (pv 4) pa_nil))) pk_nil) (by intro _; rfl))) (pss_one (ps_ret pe_bl)) pss_nil)
      (pss_cons (ps_set (i := 5) sc_law.nd rfl (by first | exact Or.inl rfl | exact Or.inr rfl) (pe_op (ka_add K) (pv 5) (pe_lc (own := [("_law_pair", 11)]) (g := (gName 11)) (tt := tYes) rfl sc_law.nd (ki_list K (pe_callG Gse (hr.mono (by decide)) tk (pa_cons (pv 2) (pa_cons (pv 3) (pa_cons (pv 4) pa_nil))) pk_nil)) (blkOk_by (N := (["_law_script", "_law_turn", "_law_one", "_law_two", "_law_three", "_law_made", "_law_way", "_law_error", "_law_told", "_law_at", "_law_marks_here", "_law_pair"] : List Str)) (sc := defScope s_law) (by decide +kernel)) (fun _ _ _ _ _ => (pg_name (i := 11) sc_law.nd rfl (by first | exact Or.inl rfl | exact Or.inr rfl))) (fun _ _ _ _ _ => pts_nil) (fun _ _ _ _ _ => (pe_ix (ka_ix K) (pv 11) pe_int (fun _ _ => rfl))))))
      (pss_cons (ps_set (i := 5) sc_law.nd rfl (by first | exact Or.inl rfl | exact Or.inr rfl) (pe_op (ka_add K) (pv 5) (pe_lst (pa_cons (pe_excG0 VE.V_Detached (hr.mono (by decide)) pk_nil) (pa_cons (pe_excG0 VE.V_InvalidStatement (hr.mono (by decide)) pk_nil) (pa_cons (pe_excG0 VE.V_InvalidState (hr.mono (by decide)) pk_nil) (pa_cons (pe_excG0 VE.V_InvalidCondition (hr.mono (by decide)) pk_nil) (pa_cons (pe_excG0 VE.V_InvalidBlock (hr.mono (by decide)) pk_nil) pa_nil))))))))
      (pss_one (ps_for po rfl (pi_enum (by rfl) T.nb_enumerate (pa_cons (pv 5) pa_nil)) (kg_tup (n := 2) K rfl (pgs_cons (pg_name (i := 9) sc_law.nd rfl (by first | exact Or.inl rfl | exact Or.inr rfl)) (pgs_cons (pg_name (i := 7) sc_law.nd rfl (by first | exact Or.inl rfl | exact Or.inr rfl)) pgs_nil))) (pss_cons (ps_set (i := 10) sc_law.nd rfl (by first | exact Or.inl rfl | exact Or.inr rfl) (pe_callG Gma (hr.mono (by decide)) tk (pa_cons (pv 7) pa_nil) pk_nil))
      (pss_cons (ps_if (PW.pt (pw_or (pt_cmpR (ka_ne K hr.units) (pe_bm PySem.F.plainAttrs_list PySem.F.slot_list_count PySem.F.type_list_count (mt_bcount K) (pv 10) (pa_cons pe_bl pa_nil)) pe_int (nomark _)) (pw_or1 (pt_cmpR (ka_ne K hr.units) (pe_bm PySem.F.plainAttrs_list PySem.F.slot_list_index PySem.F.type_list_index mt_index (pv 10) (pa_cons pe_bl pa_nil)) (pv 9) (nomark _))))) (pss_one (ps_ret pe_bl)) pss_nil)
      (pss_one (ps_if (PW.pt (pw_or (pt_not (kt_truth K (pe_callB (call_isV K) (by rfl) T.nb_isinstance (by decide +kernel) (pa_cons (pv 7) (pa_cons (pe_globE (by rfl) T.g_SaveError) pa_nil))) (by intro _; rfl))) (pw_or1 (pt_not (kt_truth K (pe_callB (call_isV K) (by rfl) T.nb_isinstance (by decide +kernel) (pa_cons (pv 7) (pa_cons (pe_bltn (v := .ty "ValueError") (u := .type "ValueError") (by rfl) T.nb_ValueError (by decide +kernel) rfl) pa_nil))) (by intro _; rfl)))))) (pss_one (ps_ret pe_bl)) pss_nil)))))))))))))
      (pss_one (ps_ret pe_bl))), ?_⟩
  have w0 := Wd.r0 H
  walk_at "go"
  refine ⟨3, rfl, by decide, by decide, ?_⟩
  refine for_it itf_range (fun i σ' H' => ∃ y1 y2 y3 y4 y5 y6 y7 y8 y9 y10 y11, σ' = [some (.ref sc), y1, y2, y3, y4, y5, y6, y7, y8, y9, y10, y11] ∧ Wd H R0 H') ⟨_, _, _, _, _, _, _, _, _, _, _, rfl, w0⟩ (fun _ _ _ _ _ => True.intro) ?_ ?_
  · rintro i x σ' H' H'' hi ⟨y1, y2, y3, y4, y5, y6, y7, y8, y9, y10, y11, rfl, w⟩ ⟨rfl, hx⟩
    rw [Int.zero_add] at hx
    subst hx
    have hi3 : i < 3 := hi
    walk_at "go"
    refine g_par3 ?_
    walk_at "go"
    refine ⟨rfl, rfl, H, R0, sc, ns, _, rfl, w, hsc, by omega, by omega, fun v1 d1 G1 H1 s1 q1 t1 w => ?_⟩
    walk_at "go"
    refine ⟨rfl, rfl, G1, R0, sc, ns, _, rfl, w, Evl.ex_l s1 hsc, by omega, by omega, fun v2 d2 G2 H2 s2 q2 t2 w => ?_⟩
    walk_at "go"
    refine ⟨rfl, rfl, G2, R0, sc, ns, _, rfl, w, Evl.ex_l (Same.trans s1 s2) hsc, by omega, by omega, fun v3 d3 G3 H3 s3 q3 t3 w => ?_⟩
    replace q1 := q1.mono (Same.trans s2 s3)
    replace q2 := q2.mono s3
    walk_at "go"
    refine ⟨v1, v2, v3, rfl, ?_⟩
    walk_at "go"
    refine g_newA w (by walk_at "sz") fun l G4 H4 n4 s4 h4 w => ?_
    walk_at "go"
    refine ⟨12, rfl, by decide, by decide, ?_⟩
    refine for_it itf_range (fun i' σ' H' => ∃ y6 y7 y8 G5, ∃ as : List Addr, σ' = [some (.ref sc), some (.int (i : Nat)), some v1, some v2, some v3, some (.ref l), y6, y7, y8, y9, y10, y11] ∧ Same G3 G5 ∧ G5 l = some (.lst (as.map V.ref)) ∧ as.length = i' ∧ EAll A G5 0 as ∧ Wd G5 R0 H') ⟨_, _, _, G4, [], rfl, s4, h4, rfl, .nil, w⟩ (fun _ _ _ _ _ => True.intro) ?_ ?_
    · rintro j x σ' H5 H6 hj ⟨y6, y7, y8, G5, as, rfl, S5, hl, la, ea, w⟩ ⟨rfl, hx⟩
      rw [Int.zero_add] at hx
      subst hx
      have hj12 : j < 12 := hj
      walk_at "go"
      refine ⟨rfl, rfl, G5, R0, j, v1, rfl, hj12, w, fun p a G6 H6 s6 hp e6 w => ?_⟩
      walk_at "go"
      refine ⟨p, _, rfl, SqT.of (w.get hp), rfl, ?_⟩
      walk_at "go"
      refine ⟨rfl, rfl, G6, R0, j, a, v1, rfl, hj12, w, e6, fun H7 w => ?_⟩
      walk_at "go"
      have q16 := q1.mono (Same.trans S5 s6)
      refine g_reprZ w q16 (th_one t1) (by decide) ?_
      walk_at "go"
      refine g_reprZ w q16 (th_one t1) (by decide) ?_
      refine g_neS rfl ?_
      rw [decide_eq_true (show V.str _ = V.str _ from rfl)]
      walk_at "go"
      refine g_reprZ w q16 (th_one t1) (by decide) ?_
      walk_at "go"
      refine g_reprZ w q16 (th_one t1) (by decide) ?_
      refine g_neS rfl ?_
      rw [decide_eq_true (show V.str _ = V.str _ from rfl)]
      walk_at "go"
      have hl6 := s6 _ _ hl
      refine g_tyL w hl6 ?_
      walk_at "go"
      refine g_app w hl6 (by rw [sizeLine_eq, List.length_map]; omega) fun H8 w => ?_
      have ea6 : EAll A G6 0 (as ++ [a]) := (ea.same s6).snoc (by rw [Nat.zero_add, la]; exact e6)
      have nl : G3 l = none := n4
      refine ⟨_, _, _, _, as ++ [a], rfl, Same.setL (Same.trans S5 s6) nl, ?_, by rw [List.length_append, la]; rfl, ea6.setL hl6, w⟩
      rw [upd_same, List.map_append]
      rfl
    · rintro σ' H' ⟨y6, y7, y8, G5, as, rfl, S5, hl, la, ea, w⟩
      have la12 : as.length = 12 := la
      walk_at "go"
      refine ⟨rfl, rfl, G5, R0, v1, v2, v3, d1, d2, d3, rfl, w, q1.mono S5, q2.mono S5, q3.mono S5, t1, t2, t3, fun H9 w => ?_⟩
      walk_at "go"
      refine ⟨rfl, rfl, G5, R0, v1, v2, v3, rfl, w, fun p x0 x1 x2 x3 x4 G6 H6 s6 h6 p0 p1 p2 p3 p4 w => ?_⟩
      refine ⟨p, rfl, ⟨_, SqL.of (w.get h6)⟩, ?_⟩
      refine lc_it (itf_list (xs := [.ref x0, .ref x1, .ref x2, .ref x3, .ref x4])) w (fun H e => SqL.of (e _ _ h6)) (by walk_at "sz") (fun i Gi acc => ∃ bs : List Addr, acc = bs.map V.ref ∧ bs.length = i ∧ EAll A Gi 12 bs) ⟨[], rfl, rfl, .nil⟩ ?_ ?_
      · rintro i x Gi acc D H7 H8 hi e nD ⟨bs, rfl, lb, eb⟩ ha wi ⟨rfl, hx⟩
        have hi5 : i < 5 := hi
        obtain ⟨t, rfl, pt⟩ : ∃ t, x = .ref t ∧ PrAt G6 t (eC A (12 + i)) (fsS v1 v2 v3 i) := by
          match i, hi5 with
          | 0, _ => cases hx; exact ⟨_, rfl, p0⟩
          | 1, _ => cases hx; exact ⟨_, rfl, p1⟩
          | 2, _ => cases hx; exact ⟨_, rfl, p2⟩
          | 3, _ => cases hx; exact ⟨_, rfl, p3⟩
          | 4, _ => cases hx; exact ⟨_, rfl, p4⟩
        obtain ⟨a, b, ht, e1, e2⟩ := pt.same e
        walk_at "go"
        refine ⟨rfl, ?_⟩
        walk_at "go"
        refine g_ixT wi (SqT.of (upd_old ht nD)) (atI_nat (j := 0) rfl) ?_
        exact lc_keep (Pv := fun i Gi acc => ∃ bs : List Addr, acc = bs.map V.ref ∧ bs.length = i ∧ EAll A Gi 12 bs) wi e nD ha hi (by walk_at "sz") ⟨bs ++ [a], by rw [List.map_append]; rfl, by rw [List.length_append, lb]; rfl, eb.snoc (by rw [lb]; exact e1)⟩
      · rintro D Gn acc H7 e nD ⟨bs, rfl, lb, eb⟩ ha w
        have lb5 : bs.length = 5 := lb
        refine g_addLA w (upd_old (e _ _ (s6 _ _ hl)) nD) upd_same (by rw [sizeLine_eq, List.length_map, List.length_map]; omega) fun l2 G8 H8 n8 s8 h8 w => ?_
        have E8 : EAll A G8 0 (as ++ bs) := (((ea.same s6).same e).same (Same.trans (Same.newG nD) s8)).app (by rw [Nat.zero_add, la12]; exact eb.same (Same.trans (Same.newG nD) s8))
        rw [← List.map_append] at h8
        have S8 : Same G3 G8 := Same.trans (Same.trans (Same.trans S5 s6) e) (Same.trans (Same.newG nD) s8)
        have L8 : (as ++ bs).length = 17 := by rw [List.length_append]; omega
        generalize as ++ bs = cs at *
        walk_at "go"
        refine g_mk0p w fun a1 G11 H11 s11 n11 e11 w => ?_
        walk_at "go"
        refine g_mk0p w fun a2 G12 H12 s12 n12 e12 w => ?_
        walk_at "go"
        refine g_mk0p w fun a3 G13 H13 s13 n13 e13 w => ?_
        walk_at "go"
        refine g_mk0p w fun a4 G14 H14 s14 n14 e14 w => ?_
        walk_at "go"
        refine g_mk0p w fun a5 G15 H15 s15 n15 e15 w => ?_
        walk_at "go"
        refine g_newA w (by walk_at "sz") fun l3 G16 H16 n16 s16 h16 w => ?_
        have r5 : Same G14 G16 := Same.trans s15 s16
        have r4 : Same G13 G16 := Same.trans s14 r5
        have r3 : Same G12 G16 := Same.trans s13 r4
        have r2 : Same G11 G16 := Same.trans s12 r3
        have r1 : Same G8 G16 := Same.trans s11 r2
        refine g_addLA w (r1 _ _ h8) h16 (by rw [sizeLine_eq, List.length_map]; simp only [List.length_cons, List.length_nil]; omega) fun l4 G17 H17 n17 s17 h17 w => ?_
        have E5 : EAll A G17 17 [a1, a2, a3, a4, a5] := fun j b hb => by
          match j, hb with
          | 0, hb => cases hb; exact ⟨_, (e11.same r2).same s17⟩
          | 1, hb => cases hb; exact ⟨_, (e12.same r3).same s17⟩
          | 2, hb => cases hb; exact ⟨_, (e13.same r4).same s17⟩
          | 3, hb => cases hb; exact ⟨_, (e14.same r5).same s17⟩
          | 4, hb => cases hb; exact ⟨_, (e15.same s16).same s17⟩
          | n + 5, hb => rw [List.getElem?_eq_none (by simp)] at hb; cases hb
        have E17 : EAll A G17 0 (cs ++ [a1, a2, a3, a4, a5]) := ((E8.same r1).same s17).app (by rw [Nat.zero_add, L8]; exact E5)
        have h17' : G17 l4 = some (.lst ((cs ++ [a1, a2, a3, a4, a5]).map V.ref)) := by rw [h17, List.map_append]; rfl
        have L17 : (cs ++ [a1, a2, a3, a4, a5]).length = 22 := by rw [List.length_append, L8]; rfl
        have S17 : Same G3 G17 := Same.trans (Same.trans S8 r1) s17
        generalize cs ++ [a1, a2, a3, a4, a5] = es at *
        clear h17 E5 e11 e12 e13 e14 e15 E8 h8
        walk_at "go"
        refine ⟨l4, _, rfl, SqL.of (w.get h17'), ?_⟩
        refine for_it (itf_enum (xs := es.map V.ref)) (fun j σ' H' => ∃ y6 y7 y8 y9 y10 y11, σ' = [some (.ref sc), some (.int (i : Nat)), some v1, some v2, some v3, some (.ref l4), y6, y7, y8, y9, y10, y11] ∧ Wd G17 R0 H') ⟨_, _, _, _, _, _, rfl, w⟩ (fun i σ' H' _ h => ?_) ?_ ?_
        · obtain ⟨_, _, _, _, _, _, _, w⟩ := h
          exact SqL.of (w.get h17')
        · rintro j x σ' H' H'' hj ⟨y6, y7, y8, y9, y10, y11, rfl, w⟩ ⟨T', y, rfl, nT, rfl, hy⟩
          rw [List.length_map] at hj
          rw [List.getElem?_map] at hy
          obtain ⟨c, hc, rfl⟩ := Option.map_eq_some_iff.mp hy
          have hj22 : j < 22 := by omega
          have wT := w.new (o := .tup [.int (j : Nat), .ref c]) nT
          have nT' := w.free nT
          obtain ⟨fs, ec⟩ := (E17.same (Same.newG (o := .tup [.int (j : Nat), .ref c]) nT')) j c hc
          rw [Nat.zero_add] at ec
          have hT : upd G17 T' (.tup [.int (j : Nat), .ref c]) T' = _ := upd_same
          have sT := Same.newG (o := .tup [.int (j : Nat), .ref c]) nT'
          generalize upd G17 T' (.tup [.int (j : Nat), .ref c]) = G20 at *
          generalize upd H' T' _ = H20 at *
          walk_at "go"
          refine ⟨T', _, rfl, SqT.of (wT.get hT), rfl, ?_⟩
          walk_at "go"
          refine ⟨rfl, rfl, G20, R0, c, j, fs, rfl, hj22, wT, ec, fun p G21 H21 s21 h21 w => ?_⟩
          walk_at "go"
          refine g_tyL w h21 ?_
          walk_at "go"
          refine ⟨p, marks j, true, rfl, rfl, SqL.of (w.get h21), ?_⟩
          rw [marks_count hj22]
          walk_at "go"
          refine g_neS rfl ?_
          rw [decide_eq_true (show V.int ((1 : Nat) : Int) = V.int 1 from rfl)]
          walk_at "go"
          refine g_tyL w h21 ?_
          walk_at "go"
          refine ⟨p, _, .bl true, j, .bl true, rfl, rfl, SqL.of (w.get h21), rfl, (by simp [flatV, List.all_map]), (by rw [List.getElem?_map, marks_at hj22]; rfl), rfl, (fun m z hm hz => by
            rw [List.getElem?_map, marks_ne hj22 hm] at hz
            cases hz
            rfl), ?_⟩
          walk_at "go"
          refine g_neS rfl ?_
          rw [decide_eq_true (show V.int (j : Int) = V.int (j : Int) from rfl)]
          walk_at "go"
          refine g_isV (c := .ref A.SaveError) (cv := .ref A.SaveError) w (ec.same s21) (EF.ec j hj22) (fun u r => r) (EF.ks j hj22) ?_
          walk_at "go"
          refine g_isV (c := .ty "ValueError") (cv := .type "ValueError") w (ec.same s21) (EF.ec j hj22) (fun u r => r) (EF.kv j hj22) ?_
          walk_at "go"
          exact ⟨_, _, _, _, _, _, rfl, w.drop (Same.trans sT s21)⟩
        · rintro σ' H' ⟨y6, y7, y8, y9, y10, y11, rfl, w⟩
          walk_at "go"
          exact ⟨_, _, _, _, _, _, _, _, _, _, _, rfl, w.drop (Same.trans (Same.trans (Same.trans s1 s2) s3) S17)⟩
  · rintro σ' H' ⟨y1, y2, y3, y4, y5, y6, y7, y8, y9, y10, y11, rfl, w⟩
    walk_at "go"
    exact k _
end
end Sv


set_option Elab.async false
set_option linter.all false
set_option maxRecDepth 100000
set_option maxHeartbeats 4000000
namespace Sv
open PySem PySem.Spec PyProof.Rows L2 Sw
def eCs (A : Ad) : List Addr := [A.InvalidName, A.InvalidColumn, A.InvalidGroup, A.UnknownTable, A.UnknownColumn, A.InvalidKey, A.InvalidValue, A.PermanentRow, A.Restricted, A.Stale, A.InvalidLog, A.InvalidText, A.KeyExists, A.KeyMissing, A.DuplicateValue, A.MissingTarget, A.StillReferenced, A.Detached, A.InvalidStatement, A.InvalidState, A.InvalidCondition, A.InvalidBlock]
theorem eC_get {A : Ad} {i : Nat} (h : i < 22) : eC A i = (eCs A).getD i 0 := by
  match i, h with
  | 0, _ => exact rfl
  | 1, _ => exact rfl
  | 2, _ => exact rfl
  | 3, _ => exact rfl
  | 4, _ => exact rfl
  | 5, _ => exact rfl
  | 6, _ => exact rfl
  | 7, _ => exact rfl
  | 8, _ => exact rfl
  | 9, _ => exact rfl
  | 10, _ => exact rfl
  | 11, _ => exact rfl
  | 12, _ => exact rfl
  | 13, _ => exact rfl
  | 14, _ => exact rfl
  | 15, _ => exact rfl
  | 16, _ => exact rfl
  | 17, _ => exact rfl
  | 18, _ => exact rfl
  | 19, _ => exact rfl
  | 20, _ => exact rfl
  | 21, _ => exact rfl
  | n + 22, h => exact absurd h (by omega)
def erB (K : PySem.W.Frag) (cs : List Addr) (sv : Addr) : Bool := (List.range 22).all fun i =>
  xfB K (cs.getD i 0) && (decide (PySem.W.findIn K (.ref (cs.getD i 0)) "__class__" = some (some (.builtin "object.__class__"))) && (decide (PySem.W.specialIn K (.builtin "object.__class__") "__get__" = some (some (.builtin "getset_descriptor.__get__"))) &&
  (decide (PySem.W.takesIn K (.builtin "object.__class__") = some true) && (decide (PySem.W.mroIn K (cs.getD i 0) (.type "object") = some true) && (decide (PySem.W.kitOne K (.ref (cs.getD i 0)) (.ref sv) = some true) && (decide (PySem.W.kitOne K (.ref (cs.getD i 0)) (.type "ValueError") = some true) &&
  (((List.range 22).all fun j => decide (PySem.W.kitOne K (.ref (cs.getD i 0)) (.ref (cs.getD j 0)) = some (decide (i = j)))) && ((eF i).all fun f => decide (PySem.W.findIn K (.ref (cs.getD i 0)) f = some none)))))))))
theorem erF_of {K : PySem.W.Frag} {A : Ad} (h : erB K (eCs A) A.SaveError = true) : ErF K A := by
  have k : ∀ i, i < 22 → _ := fun i hi => List.all_eq_true.mp h i (List.mem_range.mpr hi)
  have sp : ∀ {a b : Bool}, (a && b) = true → a = true ∧ b = true := fun h => Bool.and_eq_true_iff.mp h
  have xf : ∀ i, i < 22 → XfC K (eC A i) := fun i hi => by
    rw [eC_get hi]
    exact xfB_ok (sp (k i hi)).1
  refine ⟨fun i hi => ?_, xf, fun i j hi hj => ?_, fun i hi => ?_, fun i hi => ?_, fun i hi f hf => ?_⟩
  · have x := xf i hi
    obtain ⟨_, h1⟩ := sp (k i hi)
    obtain ⟨a1, h1⟩ := sp h1
    obtain ⟨a2, h1⟩ := sp h1
    obtain ⟨a3, h1⟩ := sp h1
    obtain ⟨a4, h1⟩ := sp h1
    refine ⟨x.ga, x.gg, x.exC, x.hdC, ?_, of_decide_eq_true a2, of_decide_eq_true a3, ?_⟩
    · rw [eC_get hi]; exact of_decide_eq_true a1
    · rw [eC_get hi]; exact of_decide_eq_true a4
  · rw [eC_get hi, eC_get hj]
    exact of_decide_eq_true (List.all_eq_true.mp (sp (sp (sp (sp (sp (sp (sp (sp (k i hi)).2).2).2).2).2).2).2).1 j (List.mem_range.mpr hj))
  · rw [eC_get hi]
    exact of_decide_eq_true (sp (sp (sp (sp (sp (sp (k i hi)).2).2).2).2).2).1
  · rw [eC_get hi]
    exact of_decide_eq_true (sp (sp (sp (sp (sp (sp (sp (k i hi)).2).2).2).2).2).2).1
  · rw [eC_get hi]
    exact of_decide_eq_true (List.all_eq_true.mp (sp (sp (sp (sp (sp (sp (sp (sp (k i hi)).2).2).2).2).2).2).2).2 f hf)
theorem vals_rev {vs : List V} {us : List Value} (h : Vals vs us) : Vals vs.reverse us.reverse := by
  induction h with
  | nil => exact .nil
  | cons r h ih =>
    rw [List.reverse_cons, List.reverse_cons]
    exact ih.append (.cons r .nil)
theorem calR {P : Program} {wo : World} {K : PySem.W.Frag} {mg : Str → Option Value} {base : Heap} {k n : Nat} {f : Addr} {fd : FuncData} {ps ks : List Str} {sp : Sp} (F : FnOk P wo K mg base (L2.CX P wo) k f fd ps sp)
    (h : ∀ us ws : List Value, us.length = n → ws.length = ks.length → bindArgs fd ⟨us, ks.zip ws⟩ = pure (ps.zip (us ++ ws.reverse))) : Cal P wo K mg base k f n ks (fun vs zs => sp (vs ++ zs.reverse)) :=
  calK (g := fun us ws => us ++ ws.reverse) (gV := fun vs zs => vs ++ zs.reverse) F ⟨fun s us ws X l1 l2 => BindsTo.of_eq (h us ws l1 l2), fun r rz => r.append (vals_rev rz)⟩

theorem all_mk {P : Program} {wo : World} {K : PySem.W.Frag} {h : Heap} {mg : Str → Option Value} {fa : Addr} (X : K.In h) (G : h.Ns mainGlobals mg) (hfa : mg "law" = some (.ref fa)) (hfile : ((P.main.file : Str) == "/claim/cut.py") = true) (htop : (P.main.scope.names.lookup ("super" : Str)).isSome = false)
    {c10 c12 c14 c16 c18 c20 c22 c24 c26 c28 c30 c32 c34 c36 c38 c40 c42 c44 c46 c48 c50 c52 c54 N59 f77 cc88 ca89 N110 f128 cc139 ca140 N161 f179 cc190 ca191 N212 f230 cc241 ca242 N263 f281 cc292 ca293 N314 f332 cc343 ca344 N365 f383 cc394 ca395 N416 f434 cc445 ca446 N467 f485 cc496 ca497 N518 f536 cc547 ca548 N569 f587 cc598 ca599 N620 f638 cc649 ca650 N671 f689 cc700 ca701 N722 f740 cc751 ca752 N773 f791 cc802 ca803 N824 f842 cc853 ca854 N875 f893 cc904 ca905 N926 f944 cc955 ca956 N977 f995 cc1006 ca1007 N1028 f1046 cc1057 ca1058 N1079 f1097 cc1108 ca1109 N1130 f1148 cc1159 ca1160 f1179 f1193 f1207 f1221 f1235 f1249 f1263 : Addr}
    {nm57 q58 nm108 q109 nm159 q160 nm210 q211 nm261 q262 nm312 q313 nm363 q364 nm414 q415 nm465 q466 nm516 q517 nm567 q568 nm618 q619 nm669 q670 nm720 q721 nm771 q772 nm822 q823 nm873 q874 nm924 q925 nm975 q976 nm1026 q1027 nm1077 q1078 nm1128 q1129 : Str}
    {bs60 bm61 sub63 bs111 bm112 sub114 bs162 bm163 sub165 bs213 bm214 sub216 bs264 bm265 sub267 bs315 bm316 sub318 bs366 bm367 sub369 bs417 bm418 sub420 bs468 bm469 sub471 bs519 bm520 sub522 bs570 bm571 sub573 bs621 bm622 sub624 bs672 bm673 sub675 bs723 bm724 sub726 bs774 bm775 sub777 bs825 bm826 sub828 bs876 bm877 sub879 bs927 bm928 sub930 bs978 bm979 sub981 bs1029 bm1030 sub1032 bs1080 bm1081 sub1083 bs1131 bm1132 sub1134 : List Value}
    {sn62 sn113 sn164 sn215 sn266 sn317 sn368 sn419 sn470 sn521 sn572 sn623 sn674 sn725 sn776 sn827 sn878 sn929 sn980 sn1031 sn1082 sn1133 : List Str}
    {ab64 ab115 ab166 ab217 ab268 ab319 ab370 ab421 ab472 ab523 ab574 ab625 ab676 ab727 ab778 ab829 ab880 ab931 ab982 ab1033 ab1084 ab1135 : Bool}
    {col65 col116 col167 col218 col269 col320 col371 col422 col473 col524 col575 col626 col677 col728 col779 col830 col881 col932 col983 col1034 col1085 col1136 : Option Bool}
    {dd66 od85 an86 od94 od100 dd117 od136 an137 od145 od151 dd168 od187 an188 od196 od202 dd219 od238 an239 od247 od253 dd270 od289 an290 od298 od304 dd321 od340 an341 od349 od355 dd372 od391 an392 od400 od406 dd423 od442 an443 od451 od457 dd474 od493 an494 od502 od508 dd525 od544 an545 od553 od559 dd576 od595 an596 od604 od610 dd627 od646 an647 od655 od661 dd678 od697 an698 od706 od712 dd729 od748 an749 od757 od763 dd780 od799 an800 od808 od814 dd831 od850 an851 od859 od865 dd882 od901 an902 od910 od916 dd933 od952 an953 od961 od967 dd984 od1003 an1004 od1012 od1018 dd1035 od1054 an1055 od1063 od1069 dd1086 od1105 an1106 od1114 od1120 dd1137 od1156 an1157 od1165 od1171 od1187 an1188 od1201 an1202 od1215 an1216 od1229 an1230 od1243 an1244 od1257 an1258 od1271 an1272 : Option Addr}
    {m67 m68 m69 m70 m71 m118 m119 m120 m121 m122 m169 m170 m171 m172 m173 m220 m221 m222 m223 m224 m271 m272 m273 m274 m275 m322 m323 m324 m325 m326 m373 m374 m375 m376 m377 m424 m425 m426 m427 m428 m475 m476 m477 m478 m479 m526 m527 m528 m529 m530 m577 m578 m579 m580 m581 m628 m629 m630 m631 m632 m679 m680 m681 m682 m683 m730 m731 m732 m733 m734 m781 m782 m783 m784 m785 m832 m833 m834 m835 m836 m883 m884 m885 m886 m887 m934 m935 m936 m937 m938 m985 m986 m987 m988 m989 m1036 m1037 m1038 m1039 m1040 m1087 m1088 m1089 m1090 m1091 m1138 m1139 m1140 m1141 m1142 : Option Value}
    {oc80 kV81 dc82 pm83 ct84 ol92 ol99 oc131 kV132 dc133 pm134 ct135 ol143 ol150 oc182 kV183 dc184 pm185 ct186 ol194 ol201 oc233 kV234 dc235 pm236 ct237 ol245 ol252 oc284 kV285 dc286 pm287 ct288 ol296 ol303 oc335 kV336 dc337 pm338 ct339 ol347 ol354 oc386 kV387 dc388 pm389 ct390 ol398 ol405 oc437 kV438 dc439 pm440 ct441 ol449 ol456 oc488 kV489 dc490 pm491 ct492 ol500 ol507 oc539 kV540 dc541 pm542 ct543 ol551 ol558 oc590 kV591 dc592 pm593 ct594 ol602 ol609 oc641 kV642 dc643 pm644 ct645 ol653 ol660 oc692 kV693 dc694 pm695 ct696 ol704 ol711 oc743 kV744 dc745 pm746 ct747 ol755 ol762 oc794 kV795 dc796 pm797 ct798 ol806 ol813 oc845 kV846 dc847 pm848 ct849 ol857 ol864 oc896 kV897 dc898 pm899 ct900 ol908 ol915 oc947 kV948 dc949 pm950 ct951 ol959 ol966 oc998 kV999 dc1000 pm1001 ct1002 ol1010 ol1017 oc1049 kV1050 dc1051 pm1052 ct1053 ol1061 ol1068 oc1100 kV1101 dc1102 pm1103 ct1104 ol1112 ol1119 oc1151 kV1152 dc1153 pm1154 ct1155 ol1163 ol1170 oc1181 kV1182 dc1183 pm1184 cd1185 ct1186 oc1195 kV1196 dc1197 pm1198 cd1199 ct1200 oc1209 kV1210 dc1211 pm1212 cd1213 ct1214 oc1223 kV1224 dc1225 pm1226 cd1227 ct1228 oc1237 kV1238 dc1239 pm1240 cd1241 ct1242 oc1251 kV1252 dc1253 pm1254 cd1255 ct1256 oc1265 kV1266 dc1267 pm1268 cd1269 ct1270 : Value}
    {sl87 sl95 sl101 sl138 sl146 sl152 sl189 sl197 sl203 sl240 sl248 sl254 sl291 sl299 sl305 sl342 sl350 sl356 sl393 sl401 sl407 sl444 sl452 sl458 sl495 sl503 sl509 sl546 sl554 sl560 sl597 sl605 sl611 sl648 sl656 sl662 sl699 sl707 sl713 sl750 sl758 sl764 sl801 sl809 sl815 sl852 sl860 sl866 sl903 sl911 sl917 sl954 sl962 sl968 sl1005 sl1013 sl1019 sl1056 sl1064 sl1070 sl1107 sl1115 sl1121 sl1158 sl1166 sl1172 sl1189 sl1203 sl1217 sl1231 sl1245 sl1259 sl1273 : Array (Option Value)}
    {va93 va144 va195 va246 va297 va348 va399 va450 va501 va552 va603 va654 va705 va756 va807 va858 va909 va960 va1011 va1062 va1113 va1164 : Array Value}
    {tf96 tf147 tf198 tf249 tf300 tf351 tf402 tf453 tf504 tf555 tf606 tf657 tf708 tf759 tf810 tf861 tf912 tf963 tf1014 tf1065 tf1116 tf1167 : Tok}
    (h1 : PySem.W.nsIn K PySem.cStatics "thirdparty.any" = some none)
    (h2 : PySem.W.nsIn K mainGlobals "super" = some none)
    (h3 : PySem.W.nsIn K mainGlobals "abs" = some none)
    (h4 : PySem.W.nsIn K mainGlobals "len" = some none)
    (h5 : PySem.W.nsIn K mainGlobals "enumerate" = some none)
    (h6 : PySem.W.nsIn K mainGlobals "repr" = some none)
    (h7 : PySem.W.nsIn K mainGlobals "isinstance" = some none)
    (h8 : PySem.W.nsIn K mainGlobals "range" = some none)
    (h9 : PySem.W.nsIn K mainGlobals "ValueError" = some none)
    (h11 : PySem.W.nsIn K mainGlobals "SaveError" = some (some (.ref c10)))
    (h13 : PySem.W.nsIn K mainGlobals "InvalidName" = some (some (.ref c12)))
    (h15 : PySem.W.nsIn K mainGlobals "InvalidColumn" = some (some (.ref c14)))
    (h17 : PySem.W.nsIn K mainGlobals "InvalidGroup" = some (some (.ref c16)))
    (h19 : PySem.W.nsIn K mainGlobals "UnknownTable" = some (some (.ref c18)))
    (h21 : PySem.W.nsIn K mainGlobals "UnknownColumn" = some (some (.ref c20)))
    (h23 : PySem.W.nsIn K mainGlobals "InvalidKey" = some (some (.ref c22)))
    (h25 : PySem.W.nsIn K mainGlobals "InvalidValue" = some (some (.ref c24)))
    (h27 : PySem.W.nsIn K mainGlobals "InvalidStatement" = some (some (.ref c26)))
    (h29 : PySem.W.nsIn K mainGlobals "KeyExists" = some (some (.ref c28)))
    (h31 : PySem.W.nsIn K mainGlobals "KeyMissing" = some (some (.ref c30)))
    (h33 : PySem.W.nsIn K mainGlobals "PermanentRow" = some (some (.ref c32)))
    (h35 : PySem.W.nsIn K mainGlobals "DuplicateValue" = some (some (.ref c34)))
    (h37 : PySem.W.nsIn K mainGlobals "MissingTarget" = some (some (.ref c36)))
    (h39 : PySem.W.nsIn K mainGlobals "StillReferenced" = some (some (.ref c38)))
    (h41 : PySem.W.nsIn K mainGlobals "InvalidState" = some (some (.ref c40)))
    (h43 : PySem.W.nsIn K mainGlobals "InvalidCondition" = some (some (.ref c42)))
    (h45 : PySem.W.nsIn K mainGlobals "Restricted" = some (some (.ref c44)))
    (h47 : PySem.W.nsIn K mainGlobals "Stale" = some (some (.ref c46)))
    (h49 : PySem.W.nsIn K mainGlobals "Detached" = some (some (.ref c48)))
    (h51 : PySem.W.nsIn K mainGlobals "InvalidBlock" = some (some (.ref c50)))
    (h53 : PySem.W.nsIn K mainGlobals "InvalidLog" = some (some (.ref c52)))
    (h55 : PySem.W.nsIn K mainGlobals "InvalidText" = some (some (.ref c54)))
    (h56 : erB K [c12, c14, c16, c18, c20, c22, c24, c32, c44, c46, c52, c54, c28, c30, c34, c36, c38, c48, c26, c40, c42, c50] c10 = true)
    (h72 : K.lookup c12 = some (excClassObj nm57 q58 c12 N59 bs60 bm61 true sn62 sub63 ab64 col65 dd66 m67 m68 m69 m70 m71 "ValueError.__new__"))
    (h73 : PySem.HandSPX.refsVE bm61 = true)
    (h74 : PySem.W.findIn K (.ref c12) "__setattr__" = some (some (.builtin "object.__setattr__")))
    (h75 : PySem.W.typeIn K (.ref c12) = some (.type "type"))
    (h76 : PySem.W.keepIn K (.ref c12) = true)
    (h78 : PySem.W.findIn K (.ref c12) "__init__" = some (some (.ref f77)))
    (h79 : PySem.W.typeIn K (.ref f77) = some (.type "function"))
    (h90 : K.lookup f77 = some ⟨oc80, od85, .func (PySem.W.ksFn "__init__" "InvalidName.__init__" (defArgs s_InvalidName___init__) (defBody s_InvalidName___init__) (defScope s_InvalidName___init__) .none kV81 dc82 pm83 an86 (.ref ca89) ct84 cc88), sl87⟩)
    (h91 : PySem.W.codeIn K (.ref ca89) "InvalidName.__init__" = true)
    (h97 : K.lookup ca89 = some ⟨ol92, od94, .fields va93, sl95⟩)
    (h98 : va93[2]? = some (.str "/claim/cut.py" tf96))
    (h102 : K.lookup cc88 = some ⟨ol99, od100, .cell (some (.ref c12)), sl101⟩)
    (h103 : PySem.W.isClsIn K c12 = true)
    (h104 : PySem.W.keepIn K (.ref f77) = true)
    (h105 : PySem.W.ks_superIn K c12 c12 "__init__" = some (some (.builtin "ValueError.__init__")))
    (h106 : PySem.W.mroIn K c12 (.ref c12) = some true)
    (h107 : PySem.W.subIn K (.ref c12) (.type "ValueError") = some true)
    (h123 : K.lookup c14 = some (excClassObj nm108 q109 c14 N110 bs111 bm112 true sn113 sub114 ab115 col116 dd117 m118 m119 m120 m121 m122 "ValueError.__new__"))
    (h124 : PySem.HandSPX.refsVE bm112 = true)
    (h125 : PySem.W.findIn K (.ref c14) "__setattr__" = some (some (.builtin "object.__setattr__")))
    (h126 : PySem.W.typeIn K (.ref c14) = some (.type "type"))
    (h127 : PySem.W.keepIn K (.ref c14) = true)
    (h129 : PySem.W.findIn K (.ref c14) "__init__" = some (some (.ref f128)))
    (h130 : PySem.W.typeIn K (.ref f128) = some (.type "function"))
    (h141 : K.lookup f128 = some ⟨oc131, od136, .func (PySem.W.ksFn "__init__" "InvalidColumn.__init__" (defArgs s_InvalidColumn___init__) (defBody s_InvalidColumn___init__) (defScope s_InvalidColumn___init__) .none kV132 dc133 pm134 an137 (.ref ca140) ct135 cc139), sl138⟩)
    (h142 : PySem.W.codeIn K (.ref ca140) "InvalidColumn.__init__" = true)
    (h148 : K.lookup ca140 = some ⟨ol143, od145, .fields va144, sl146⟩)
    (h149 : va144[2]? = some (.str "/claim/cut.py" tf147))
    (h153 : K.lookup cc139 = some ⟨ol150, od151, .cell (some (.ref c14)), sl152⟩)
    (h154 : PySem.W.isClsIn K c14 = true)
    (h155 : PySem.W.keepIn K (.ref f128) = true)
    (h156 : PySem.W.ks_superIn K c14 c14 "__init__" = some (some (.builtin "ValueError.__init__")))
    (h157 : PySem.W.mroIn K c14 (.ref c14) = some true)
    (h158 : PySem.W.subIn K (.ref c14) (.type "ValueError") = some true)
    (h174 : K.lookup c16 = some (excClassObj nm159 q160 c16 N161 bs162 bm163 true sn164 sub165 ab166 col167 dd168 m169 m170 m171 m172 m173 "ValueError.__new__"))
    (h175 : PySem.HandSPX.refsVE bm163 = true)
    (h176 : PySem.W.findIn K (.ref c16) "__setattr__" = some (some (.builtin "object.__setattr__")))
    (h177 : PySem.W.typeIn K (.ref c16) = some (.type "type"))
    (h178 : PySem.W.keepIn K (.ref c16) = true)
    (h180 : PySem.W.findIn K (.ref c16) "__init__" = some (some (.ref f179)))
    (h181 : PySem.W.typeIn K (.ref f179) = some (.type "function"))
    (h192 : K.lookup f179 = some ⟨oc182, od187, .func (PySem.W.ksFn "__init__" "InvalidGroup.__init__" (defArgs s_InvalidGroup___init__) (defBody s_InvalidGroup___init__) (defScope s_InvalidGroup___init__) .none kV183 dc184 pm185 an188 (.ref ca191) ct186 cc190), sl189⟩)
    (h193 : PySem.W.codeIn K (.ref ca191) "InvalidGroup.__init__" = true)
    (h199 : K.lookup ca191 = some ⟨ol194, od196, .fields va195, sl197⟩)
    (h200 : va195[2]? = some (.str "/claim/cut.py" tf198))
    (h204 : K.lookup cc190 = some ⟨ol201, od202, .cell (some (.ref c16)), sl203⟩)
    (h205 : PySem.W.isClsIn K c16 = true)
    (h206 : PySem.W.keepIn K (.ref f179) = true)
    (h207 : PySem.W.ks_superIn K c16 c16 "__init__" = some (some (.builtin "ValueError.__init__")))
    (h208 : PySem.W.mroIn K c16 (.ref c16) = some true)
    (h209 : PySem.W.subIn K (.ref c16) (.type "ValueError") = some true)
    (h225 : K.lookup c18 = some (excClassObj nm210 q211 c18 N212 bs213 bm214 true sn215 sub216 ab217 col218 dd219 m220 m221 m222 m223 m224 "ValueError.__new__"))
    (h226 : PySem.HandSPX.refsVE bm214 = true)
    (h227 : PySem.W.findIn K (.ref c18) "__setattr__" = some (some (.builtin "object.__setattr__")))
    (h228 : PySem.W.typeIn K (.ref c18) = some (.type "type"))
    (h229 : PySem.W.keepIn K (.ref c18) = true)
    (h231 : PySem.W.findIn K (.ref c18) "__init__" = some (some (.ref f230)))
    (h232 : PySem.W.typeIn K (.ref f230) = some (.type "function"))
    (h243 : K.lookup f230 = some ⟨oc233, od238, .func (PySem.W.ksFn "__init__" "UnknownTable.__init__" (defArgs s_UnknownTable___init__) (defBody s_UnknownTable___init__) (defScope s_UnknownTable___init__) .none kV234 dc235 pm236 an239 (.ref ca242) ct237 cc241), sl240⟩)
    (h244 : PySem.W.codeIn K (.ref ca242) "UnknownTable.__init__" = true)
    (h250 : K.lookup ca242 = some ⟨ol245, od247, .fields va246, sl248⟩)
    (h251 : va246[2]? = some (.str "/claim/cut.py" tf249))
    (h255 : K.lookup cc241 = some ⟨ol252, od253, .cell (some (.ref c18)), sl254⟩)
    (h256 : PySem.W.isClsIn K c18 = true)
    (h257 : PySem.W.keepIn K (.ref f230) = true)
    (h258 : PySem.W.ks_superIn K c18 c18 "__init__" = some (some (.builtin "ValueError.__init__")))
    (h259 : PySem.W.mroIn K c18 (.ref c18) = some true)
    (h260 : PySem.W.subIn K (.ref c18) (.type "ValueError") = some true)
    (h276 : K.lookup c20 = some (excClassObj nm261 q262 c20 N263 bs264 bm265 true sn266 sub267 ab268 col269 dd270 m271 m272 m273 m274 m275 "ValueError.__new__"))
    (h277 : PySem.HandSPX.refsVE bm265 = true)
    (h278 : PySem.W.findIn K (.ref c20) "__setattr__" = some (some (.builtin "object.__setattr__")))
    (h279 : PySem.W.typeIn K (.ref c20) = some (.type "type"))
    (h280 : PySem.W.keepIn K (.ref c20) = true)
    (h282 : PySem.W.findIn K (.ref c20) "__init__" = some (some (.ref f281)))
    (h283 : PySem.W.typeIn K (.ref f281) = some (.type "function"))
    (h294 : K.lookup f281 = some ⟨oc284, od289, .func (PySem.W.ksFn "__init__" "UnknownColumn.__init__" (defArgs s_UnknownColumn___init__) (defBody s_UnknownColumn___init__) (defScope s_UnknownColumn___init__) .none kV285 dc286 pm287 an290 (.ref ca293) ct288 cc292), sl291⟩)
    (h295 : PySem.W.codeIn K (.ref ca293) "UnknownColumn.__init__" = true)
    (h301 : K.lookup ca293 = some ⟨ol296, od298, .fields va297, sl299⟩)
    (h302 : va297[2]? = some (.str "/claim/cut.py" tf300))
    (h306 : K.lookup cc292 = some ⟨ol303, od304, .cell (some (.ref c20)), sl305⟩)
    (h307 : PySem.W.isClsIn K c20 = true)
    (h308 : PySem.W.keepIn K (.ref f281) = true)
    (h309 : PySem.W.ks_superIn K c20 c20 "__init__" = some (some (.builtin "ValueError.__init__")))
    (h310 : PySem.W.mroIn K c20 (.ref c20) = some true)
    (h311 : PySem.W.subIn K (.ref c20) (.type "ValueError") = some true)
    (h327 : K.lookup c22 = some (excClassObj nm312 q313 c22 N314 bs315 bm316 true sn317 sub318 ab319 col320 dd321 m322 m323 m324 m325 m326 "ValueError.__new__"))
    (h328 : PySem.HandSPX.refsVE bm316 = true)
    (h329 : PySem.W.findIn K (.ref c22) "__setattr__" = some (some (.builtin "object.__setattr__")))
    (h330 : PySem.W.typeIn K (.ref c22) = some (.type "type"))
    (h331 : PySem.W.keepIn K (.ref c22) = true)
    (h333 : PySem.W.findIn K (.ref c22) "__init__" = some (some (.ref f332)))
    (h334 : PySem.W.typeIn K (.ref f332) = some (.type "function"))
    (h345 : K.lookup f332 = some ⟨oc335, od340, .func (PySem.W.ksFn "__init__" "InvalidKey.__init__" (defArgs s_InvalidKey___init__) (defBody s_InvalidKey___init__) (defScope s_InvalidKey___init__) .none kV336 dc337 pm338 an341 (.ref ca344) ct339 cc343), sl342⟩)
    (h346 : PySem.W.codeIn K (.ref ca344) "InvalidKey.__init__" = true)
    (h352 : K.lookup ca344 = some ⟨ol347, od349, .fields va348, sl350⟩)
    (h353 : va348[2]? = some (.str "/claim/cut.py" tf351))
    (h357 : K.lookup cc343 = some ⟨ol354, od355, .cell (some (.ref c22)), sl356⟩)
    (h358 : PySem.W.isClsIn K c22 = true)
    (h359 : PySem.W.keepIn K (.ref f332) = true)
    (h360 : PySem.W.ks_superIn K c22 c22 "__init__" = some (some (.builtin "ValueError.__init__")))
    (h361 : PySem.W.mroIn K c22 (.ref c22) = some true)
    (h362 : PySem.W.subIn K (.ref c22) (.type "ValueError") = some true)
    (h378 : K.lookup c24 = some (excClassObj nm363 q364 c24 N365 bs366 bm367 true sn368 sub369 ab370 col371 dd372 m373 m374 m375 m376 m377 "ValueError.__new__"))
    (h379 : PySem.HandSPX.refsVE bm367 = true)
    (h380 : PySem.W.findIn K (.ref c24) "__setattr__" = some (some (.builtin "object.__setattr__")))
    (h381 : PySem.W.typeIn K (.ref c24) = some (.type "type"))
    (h382 : PySem.W.keepIn K (.ref c24) = true)
    (h384 : PySem.W.findIn K (.ref c24) "__init__" = some (some (.ref f383)))
    (h385 : PySem.W.typeIn K (.ref f383) = some (.type "function"))
    (h396 : K.lookup f383 = some ⟨oc386, od391, .func (PySem.W.ksFn "__init__" "InvalidValue.__init__" (defArgs s_InvalidValue___init__) (defBody s_InvalidValue___init__) (defScope s_InvalidValue___init__) .none kV387 dc388 pm389 an392 (.ref ca395) ct390 cc394), sl393⟩)
    (h397 : PySem.W.codeIn K (.ref ca395) "InvalidValue.__init__" = true)
    (h403 : K.lookup ca395 = some ⟨ol398, od400, .fields va399, sl401⟩)
    (h404 : va399[2]? = some (.str "/claim/cut.py" tf402))
    (h408 : K.lookup cc394 = some ⟨ol405, od406, .cell (some (.ref c24)), sl407⟩)
    (h409 : PySem.W.isClsIn K c24 = true)
    (h410 : PySem.W.keepIn K (.ref f383) = true)
    (h411 : PySem.W.ks_superIn K c24 c24 "__init__" = some (some (.builtin "ValueError.__init__")))
    (h412 : PySem.W.mroIn K c24 (.ref c24) = some true)
    (h413 : PySem.W.subIn K (.ref c24) (.type "ValueError") = some true)
    (h429 : K.lookup c32 = some (excClassObj nm414 q415 c32 N416 bs417 bm418 true sn419 sub420 ab421 col422 dd423 m424 m425 m426 m427 m428 "ValueError.__new__"))
    (h430 : PySem.HandSPX.refsVE bm418 = true)
    (h431 : PySem.W.findIn K (.ref c32) "__setattr__" = some (some (.builtin "object.__setattr__")))
    (h432 : PySem.W.typeIn K (.ref c32) = some (.type "type"))
    (h433 : PySem.W.keepIn K (.ref c32) = true)
    (h435 : PySem.W.findIn K (.ref c32) "__init__" = some (some (.ref f434)))
    (h436 : PySem.W.typeIn K (.ref f434) = some (.type "function"))
    (h447 : K.lookup f434 = some ⟨oc437, od442, .func (PySem.W.ksFn "__init__" "PermanentRow.__init__" (defArgs s_PermanentRow___init__) (defBody s_PermanentRow___init__) (defScope s_PermanentRow___init__) .none kV438 dc439 pm440 an443 (.ref ca446) ct441 cc445), sl444⟩)
    (h448 : PySem.W.codeIn K (.ref ca446) "PermanentRow.__init__" = true)
    (h454 : K.lookup ca446 = some ⟨ol449, od451, .fields va450, sl452⟩)
    (h455 : va450[2]? = some (.str "/claim/cut.py" tf453))
    (h459 : K.lookup cc445 = some ⟨ol456, od457, .cell (some (.ref c32)), sl458⟩)
    (h460 : PySem.W.isClsIn K c32 = true)
    (h461 : PySem.W.keepIn K (.ref f434) = true)
    (h462 : PySem.W.ks_superIn K c32 c32 "__init__" = some (some (.builtin "ValueError.__init__")))
    (h463 : PySem.W.mroIn K c32 (.ref c32) = some true)
    (h464 : PySem.W.subIn K (.ref c32) (.type "ValueError") = some true)
    (h480 : K.lookup c44 = some (excClassObj nm465 q466 c44 N467 bs468 bm469 true sn470 sub471 ab472 col473 dd474 m475 m476 m477 m478 m479 "ValueError.__new__"))
    (h481 : PySem.HandSPX.refsVE bm469 = true)
    (h482 : PySem.W.findIn K (.ref c44) "__setattr__" = some (some (.builtin "object.__setattr__")))
    (h483 : PySem.W.typeIn K (.ref c44) = some (.type "type"))
    (h484 : PySem.W.keepIn K (.ref c44) = true)
    (h486 : PySem.W.findIn K (.ref c44) "__init__" = some (some (.ref f485)))
    (h487 : PySem.W.typeIn K (.ref f485) = some (.type "function"))
    (h498 : K.lookup f485 = some ⟨oc488, od493, .func (PySem.W.ksFn "__init__" "Restricted.__init__" (defArgs s_Restricted___init__) (defBody s_Restricted___init__) (defScope s_Restricted___init__) .none kV489 dc490 pm491 an494 (.ref ca497) ct492 cc496), sl495⟩)
    (h499 : PySem.W.codeIn K (.ref ca497) "Restricted.__init__" = true)
    (h505 : K.lookup ca497 = some ⟨ol500, od502, .fields va501, sl503⟩)
    (h506 : va501[2]? = some (.str "/claim/cut.py" tf504))
    (h510 : K.lookup cc496 = some ⟨ol507, od508, .cell (some (.ref c44)), sl509⟩)
    (h511 : PySem.W.isClsIn K c44 = true)
    (h512 : PySem.W.keepIn K (.ref f485) = true)
    (h513 : PySem.W.ks_superIn K c44 c44 "__init__" = some (some (.builtin "ValueError.__init__")))
    (h514 : PySem.W.mroIn K c44 (.ref c44) = some true)
    (h515 : PySem.W.subIn K (.ref c44) (.type "ValueError") = some true)
    (h531 : K.lookup c46 = some (excClassObj nm516 q517 c46 N518 bs519 bm520 true sn521 sub522 ab523 col524 dd525 m526 m527 m528 m529 m530 "ValueError.__new__"))
    (h532 : PySem.HandSPX.refsVE bm520 = true)
    (h533 : PySem.W.findIn K (.ref c46) "__setattr__" = some (some (.builtin "object.__setattr__")))
    (h534 : PySem.W.typeIn K (.ref c46) = some (.type "type"))
    (h535 : PySem.W.keepIn K (.ref c46) = true)
    (h537 : PySem.W.findIn K (.ref c46) "__init__" = some (some (.ref f536)))
    (h538 : PySem.W.typeIn K (.ref f536) = some (.type "function"))
    (h549 : K.lookup f536 = some ⟨oc539, od544, .func (PySem.W.ksFn "__init__" "Stale.__init__" (defArgs s_Stale___init__) (defBody s_Stale___init__) (defScope s_Stale___init__) .none kV540 dc541 pm542 an545 (.ref ca548) ct543 cc547), sl546⟩)
    (h550 : PySem.W.codeIn K (.ref ca548) "Stale.__init__" = true)
    (h556 : K.lookup ca548 = some ⟨ol551, od553, .fields va552, sl554⟩)
    (h557 : va552[2]? = some (.str "/claim/cut.py" tf555))
    (h561 : K.lookup cc547 = some ⟨ol558, od559, .cell (some (.ref c46)), sl560⟩)
    (h562 : PySem.W.isClsIn K c46 = true)
    (h563 : PySem.W.keepIn K (.ref f536) = true)
    (h564 : PySem.W.ks_superIn K c46 c46 "__init__" = some (some (.builtin "ValueError.__init__")))
    (h565 : PySem.W.mroIn K c46 (.ref c46) = some true)
    (h566 : PySem.W.subIn K (.ref c46) (.type "ValueError") = some true)
    (h582 : K.lookup c52 = some (excClassObj nm567 q568 c52 N569 bs570 bm571 true sn572 sub573 ab574 col575 dd576 m577 m578 m579 m580 m581 "ValueError.__new__"))
    (h583 : PySem.HandSPX.refsVE bm571 = true)
    (h584 : PySem.W.findIn K (.ref c52) "__setattr__" = some (some (.builtin "object.__setattr__")))
    (h585 : PySem.W.typeIn K (.ref c52) = some (.type "type"))
    (h586 : PySem.W.keepIn K (.ref c52) = true)
    (h588 : PySem.W.findIn K (.ref c52) "__init__" = some (some (.ref f587)))
    (h589 : PySem.W.typeIn K (.ref f587) = some (.type "function"))
    (h600 : K.lookup f587 = some ⟨oc590, od595, .func (PySem.W.ksFn "__init__" "InvalidLog.__init__" (defArgs s_InvalidLog___init__) (defBody s_InvalidLog___init__) (defScope s_InvalidLog___init__) .none kV591 dc592 pm593 an596 (.ref ca599) ct594 cc598), sl597⟩)
    (h601 : PySem.W.codeIn K (.ref ca599) "InvalidLog.__init__" = true)
    (h607 : K.lookup ca599 = some ⟨ol602, od604, .fields va603, sl605⟩)
    (h608 : va603[2]? = some (.str "/claim/cut.py" tf606))
    (h612 : K.lookup cc598 = some ⟨ol609, od610, .cell (some (.ref c52)), sl611⟩)
    (h613 : PySem.W.isClsIn K c52 = true)
    (h614 : PySem.W.keepIn K (.ref f587) = true)
    (h615 : PySem.W.ks_superIn K c52 c52 "__init__" = some (some (.builtin "ValueError.__init__")))
    (h616 : PySem.W.mroIn K c52 (.ref c52) = some true)
    (h617 : PySem.W.subIn K (.ref c52) (.type "ValueError") = some true)
    (h633 : K.lookup c54 = some (excClassObj nm618 q619 c54 N620 bs621 bm622 true sn623 sub624 ab625 col626 dd627 m628 m629 m630 m631 m632 "ValueError.__new__"))
    (h634 : PySem.HandSPX.refsVE bm622 = true)
    (h635 : PySem.W.findIn K (.ref c54) "__setattr__" = some (some (.builtin "object.__setattr__")))
    (h636 : PySem.W.typeIn K (.ref c54) = some (.type "type"))
    (h637 : PySem.W.keepIn K (.ref c54) = true)
    (h639 : PySem.W.findIn K (.ref c54) "__init__" = some (some (.ref f638)))
    (h640 : PySem.W.typeIn K (.ref f638) = some (.type "function"))
    (h651 : K.lookup f638 = some ⟨oc641, od646, .func (PySem.W.ksFn "__init__" "InvalidText.__init__" (defArgs s_InvalidText___init__) (defBody s_InvalidText___init__) (defScope s_InvalidText___init__) .none kV642 dc643 pm644 an647 (.ref ca650) ct645 cc649), sl648⟩)
    (h652 : PySem.W.codeIn K (.ref ca650) "InvalidText.__init__" = true)
    (h658 : K.lookup ca650 = some ⟨ol653, od655, .fields va654, sl656⟩)
    (h659 : va654[2]? = some (.str "/claim/cut.py" tf657))
    (h663 : K.lookup cc649 = some ⟨ol660, od661, .cell (some (.ref c54)), sl662⟩)
    (h664 : PySem.W.isClsIn K c54 = true)
    (h665 : PySem.W.keepIn K (.ref f638) = true)
    (h666 : PySem.W.ks_superIn K c54 c54 "__init__" = some (some (.builtin "ValueError.__init__")))
    (h667 : PySem.W.mroIn K c54 (.ref c54) = some true)
    (h668 : PySem.W.subIn K (.ref c54) (.type "ValueError") = some true)
    (h684 : K.lookup c28 = some (excClassObj nm669 q670 c28 N671 bs672 bm673 true sn674 sub675 ab676 col677 dd678 m679 m680 m681 m682 m683 "ValueError.__new__"))
    (h685 : PySem.HandSPX.refsVE bm673 = true)
    (h686 : PySem.W.findIn K (.ref c28) "__setattr__" = some (some (.builtin "object.__setattr__")))
    (h687 : PySem.W.typeIn K (.ref c28) = some (.type "type"))
    (h688 : PySem.W.keepIn K (.ref c28) = true)
    (h690 : PySem.W.findIn K (.ref c28) "__init__" = some (some (.ref f689)))
    (h691 : PySem.W.typeIn K (.ref f689) = some (.type "function"))
    (h702 : K.lookup f689 = some ⟨oc692, od697, .func (PySem.W.ksFn "__init__" "KeyExists.__init__" (defArgs s_KeyExists___init__) (defBody s_KeyExists___init__) (defScope s_KeyExists___init__) .none kV693 dc694 pm695 an698 (.ref ca701) ct696 cc700), sl699⟩)
    (h703 : PySem.W.codeIn K (.ref ca701) "KeyExists.__init__" = true)
    (h709 : K.lookup ca701 = some ⟨ol704, od706, .fields va705, sl707⟩)
    (h710 : va705[2]? = some (.str "/claim/cut.py" tf708))
    (h714 : K.lookup cc700 = some ⟨ol711, od712, .cell (some (.ref c28)), sl713⟩)
    (h715 : PySem.W.isClsIn K c28 = true)
    (h716 : PySem.W.keepIn K (.ref f689) = true)
    (h717 : PySem.W.ks_superIn K c28 c28 "__init__" = some (some (.builtin "ValueError.__init__")))
    (h718 : PySem.W.mroIn K c28 (.ref c28) = some true)
    (h719 : PySem.W.subIn K (.ref c28) (.type "ValueError") = some true)
    (h735 : K.lookup c30 = some (excClassObj nm720 q721 c30 N722 bs723 bm724 true sn725 sub726 ab727 col728 dd729 m730 m731 m732 m733 m734 "ValueError.__new__"))
    (h736 : PySem.HandSPX.refsVE bm724 = true)
    (h737 : PySem.W.findIn K (.ref c30) "__setattr__" = some (some (.builtin "object.__setattr__")))
    (h738 : PySem.W.typeIn K (.ref c30) = some (.type "type"))
    (h739 : PySem.W.keepIn K (.ref c30) = true)
    (h741 : PySem.W.findIn K (.ref c30) "__init__" = some (some (.ref f740)))
    (h742 : PySem.W.typeIn K (.ref f740) = some (.type "function"))
    (h753 : K.lookup f740 = some ⟨oc743, od748, .func (PySem.W.ksFn "__init__" "KeyMissing.__init__" (defArgs s_KeyMissing___init__) (defBody s_KeyMissing___init__) (defScope s_KeyMissing___init__) .none kV744 dc745 pm746 an749 (.ref ca752) ct747 cc751), sl750⟩)
    (h754 : PySem.W.codeIn K (.ref ca752) "KeyMissing.__init__" = true)
    (h760 : K.lookup ca752 = some ⟨ol755, od757, .fields va756, sl758⟩)
    (h761 : va756[2]? = some (.str "/claim/cut.py" tf759))
    (h765 : K.lookup cc751 = some ⟨ol762, od763, .cell (some (.ref c30)), sl764⟩)
    (h766 : PySem.W.isClsIn K c30 = true)
    (h767 : PySem.W.keepIn K (.ref f740) = true)
    (h768 : PySem.W.ks_superIn K c30 c30 "__init__" = some (some (.builtin "ValueError.__init__")))
    (h769 : PySem.W.mroIn K c30 (.ref c30) = some true)
    (h770 : PySem.W.subIn K (.ref c30) (.type "ValueError") = some true)
    (h786 : K.lookup c34 = some (excClassObj nm771 q772 c34 N773 bs774 bm775 true sn776 sub777 ab778 col779 dd780 m781 m782 m783 m784 m785 "ValueError.__new__"))
    (h787 : PySem.HandSPX.refsVE bm775 = true)
    (h788 : PySem.W.findIn K (.ref c34) "__setattr__" = some (some (.builtin "object.__setattr__")))
    (h789 : PySem.W.typeIn K (.ref c34) = some (.type "type"))
    (h790 : PySem.W.keepIn K (.ref c34) = true)
    (h792 : PySem.W.findIn K (.ref c34) "__init__" = some (some (.ref f791)))
    (h793 : PySem.W.typeIn K (.ref f791) = some (.type "function"))
    (h804 : K.lookup f791 = some ⟨oc794, od799, .func (PySem.W.ksFn "__init__" "DuplicateValue.__init__" (defArgs s_DuplicateValue___init__) (defBody s_DuplicateValue___init__) (defScope s_DuplicateValue___init__) .none kV795 dc796 pm797 an800 (.ref ca803) ct798 cc802), sl801⟩)
    (h805 : PySem.W.codeIn K (.ref ca803) "DuplicateValue.__init__" = true)
    (h811 : K.lookup ca803 = some ⟨ol806, od808, .fields va807, sl809⟩)
    (h812 : va807[2]? = some (.str "/claim/cut.py" tf810))
    (h816 : K.lookup cc802 = some ⟨ol813, od814, .cell (some (.ref c34)), sl815⟩)
    (h817 : PySem.W.isClsIn K c34 = true)
    (h818 : PySem.W.keepIn K (.ref f791) = true)
    (h819 : PySem.W.ks_superIn K c34 c34 "__init__" = some (some (.builtin "ValueError.__init__")))
    (h820 : PySem.W.mroIn K c34 (.ref c34) = some true)
    (h821 : PySem.W.subIn K (.ref c34) (.type "ValueError") = some true)
    (h837 : K.lookup c36 = some (excClassObj nm822 q823 c36 N824 bs825 bm826 true sn827 sub828 ab829 col830 dd831 m832 m833 m834 m835 m836 "ValueError.__new__"))
    (h838 : PySem.HandSPX.refsVE bm826 = true)
    (h839 : PySem.W.findIn K (.ref c36) "__setattr__" = some (some (.builtin "object.__setattr__")))
    (h840 : PySem.W.typeIn K (.ref c36) = some (.type "type"))
    (h841 : PySem.W.keepIn K (.ref c36) = true)
    (h843 : PySem.W.findIn K (.ref c36) "__init__" = some (some (.ref f842)))
    (h844 : PySem.W.typeIn K (.ref f842) = some (.type "function"))
    (h855 : K.lookup f842 = some ⟨oc845, od850, .func (PySem.W.ksFn "__init__" "MissingTarget.__init__" (defArgs s_MissingTarget___init__) (defBody s_MissingTarget___init__) (defScope s_MissingTarget___init__) .none kV846 dc847 pm848 an851 (.ref ca854) ct849 cc853), sl852⟩)
    (h856 : PySem.W.codeIn K (.ref ca854) "MissingTarget.__init__" = true)
    (h862 : K.lookup ca854 = some ⟨ol857, od859, .fields va858, sl860⟩)
    (h863 : va858[2]? = some (.str "/claim/cut.py" tf861))
    (h867 : K.lookup cc853 = some ⟨ol864, od865, .cell (some (.ref c36)), sl866⟩)
    (h868 : PySem.W.isClsIn K c36 = true)
    (h869 : PySem.W.keepIn K (.ref f842) = true)
    (h870 : PySem.W.ks_superIn K c36 c36 "__init__" = some (some (.builtin "ValueError.__init__")))
    (h871 : PySem.W.mroIn K c36 (.ref c36) = some true)
    (h872 : PySem.W.subIn K (.ref c36) (.type "ValueError") = some true)
    (h888 : K.lookup c38 = some (excClassObj nm873 q874 c38 N875 bs876 bm877 true sn878 sub879 ab880 col881 dd882 m883 m884 m885 m886 m887 "ValueError.__new__"))
    (h889 : PySem.HandSPX.refsVE bm877 = true)
    (h890 : PySem.W.findIn K (.ref c38) "__setattr__" = some (some (.builtin "object.__setattr__")))
    (h891 : PySem.W.typeIn K (.ref c38) = some (.type "type"))
    (h892 : PySem.W.keepIn K (.ref c38) = true)
    (h894 : PySem.W.findIn K (.ref c38) "__init__" = some (some (.ref f893)))
    (h895 : PySem.W.typeIn K (.ref f893) = some (.type "function"))
    (h906 : K.lookup f893 = some ⟨oc896, od901, .func (PySem.W.ksFn "__init__" "StillReferenced.__init__" (defArgs s_StillReferenced___init__) (defBody s_StillReferenced___init__) (defScope s_StillReferenced___init__) .none kV897 dc898 pm899 an902 (.ref ca905) ct900 cc904), sl903⟩)
    (h907 : PySem.W.codeIn K (.ref ca905) "StillReferenced.__init__" = true)
    (h913 : K.lookup ca905 = some ⟨ol908, od910, .fields va909, sl911⟩)
    (h914 : va909[2]? = some (.str "/claim/cut.py" tf912))
    (h918 : K.lookup cc904 = some ⟨ol915, od916, .cell (some (.ref c38)), sl917⟩)
    (h919 : PySem.W.isClsIn K c38 = true)
    (h920 : PySem.W.keepIn K (.ref f893) = true)
    (h921 : PySem.W.ks_superIn K c38 c38 "__init__" = some (some (.builtin "ValueError.__init__")))
    (h922 : PySem.W.mroIn K c38 (.ref c38) = some true)
    (h923 : PySem.W.subIn K (.ref c38) (.type "ValueError") = some true)
    (h939 : K.lookup c48 = some (excClassObj nm924 q925 c48 N926 bs927 bm928 true sn929 sub930 ab931 col932 dd933 m934 m935 m936 m937 m938 "ValueError.__new__"))
    (h940 : PySem.HandSPX.refsVE bm928 = true)
    (h941 : PySem.W.findIn K (.ref c48) "__setattr__" = some (some (.builtin "object.__setattr__")))
    (h942 : PySem.W.typeIn K (.ref c48) = some (.type "type"))
    (h943 : PySem.W.keepIn K (.ref c48) = true)
    (h945 : PySem.W.findIn K (.ref c48) "__init__" = some (some (.ref f944)))
    (h946 : PySem.W.typeIn K (.ref f944) = some (.type "function"))
    (h957 : K.lookup f944 = some ⟨oc947, od952, .func (PySem.W.ksFn "__init__" "Detached.__init__" (defArgs s_Detached___init__) (defBody s_Detached___init__) (defScope s_Detached___init__) .none kV948 dc949 pm950 an953 (.ref ca956) ct951 cc955), sl954⟩)
    (h958 : PySem.W.codeIn K (.ref ca956) "Detached.__init__" = true)
    (h964 : K.lookup ca956 = some ⟨ol959, od961, .fields va960, sl962⟩)
    (h965 : va960[2]? = some (.str "/claim/cut.py" tf963))
    (h969 : K.lookup cc955 = some ⟨ol966, od967, .cell (some (.ref c48)), sl968⟩)
    (h970 : PySem.W.isClsIn K c48 = true)
    (h971 : PySem.W.keepIn K (.ref f944) = true)
    (h972 : PySem.W.ks_superIn K c48 c48 "__init__" = some (some (.builtin "ValueError.__init__")))
    (h973 : PySem.W.mroIn K c48 (.ref c48) = some true)
    (h974 : PySem.W.subIn K (.ref c48) (.type "ValueError") = some true)
    (h990 : K.lookup c26 = some (excClassObj nm975 q976 c26 N977 bs978 bm979 true sn980 sub981 ab982 col983 dd984 m985 m986 m987 m988 m989 "ValueError.__new__"))
    (h991 : PySem.HandSPX.refsVE bm979 = true)
    (h992 : PySem.W.findIn K (.ref c26) "__setattr__" = some (some (.builtin "object.__setattr__")))
    (h993 : PySem.W.typeIn K (.ref c26) = some (.type "type"))
    (h994 : PySem.W.keepIn K (.ref c26) = true)
    (h996 : PySem.W.findIn K (.ref c26) "__init__" = some (some (.ref f995)))
    (h997 : PySem.W.typeIn K (.ref f995) = some (.type "function"))
    (h1008 : K.lookup f995 = some ⟨oc998, od1003, .func (PySem.W.ksFn "__init__" "InvalidStatement.__init__" (defArgs s_InvalidStatement___init__) (defBody s_InvalidStatement___init__) (defScope s_InvalidStatement___init__) .none kV999 dc1000 pm1001 an1004 (.ref ca1007) ct1002 cc1006), sl1005⟩)
    (h1009 : PySem.W.codeIn K (.ref ca1007) "InvalidStatement.__init__" = true)
    (h1015 : K.lookup ca1007 = some ⟨ol1010, od1012, .fields va1011, sl1013⟩)
    (h1016 : va1011[2]? = some (.str "/claim/cut.py" tf1014))
    (h1020 : K.lookup cc1006 = some ⟨ol1017, od1018, .cell (some (.ref c26)), sl1019⟩)
    (h1021 : PySem.W.isClsIn K c26 = true)
    (h1022 : PySem.W.keepIn K (.ref f995) = true)
    (h1023 : PySem.W.ks_superIn K c26 c26 "__init__" = some (some (.builtin "ValueError.__init__")))
    (h1024 : PySem.W.mroIn K c26 (.ref c26) = some true)
    (h1025 : PySem.W.subIn K (.ref c26) (.type "ValueError") = some true)
    (h1041 : K.lookup c40 = some (excClassObj nm1026 q1027 c40 N1028 bs1029 bm1030 true sn1031 sub1032 ab1033 col1034 dd1035 m1036 m1037 m1038 m1039 m1040 "ValueError.__new__"))
    (h1042 : PySem.HandSPX.refsVE bm1030 = true)
    (h1043 : PySem.W.findIn K (.ref c40) "__setattr__" = some (some (.builtin "object.__setattr__")))
    (h1044 : PySem.W.typeIn K (.ref c40) = some (.type "type"))
    (h1045 : PySem.W.keepIn K (.ref c40) = true)
    (h1047 : PySem.W.findIn K (.ref c40) "__init__" = some (some (.ref f1046)))
    (h1048 : PySem.W.typeIn K (.ref f1046) = some (.type "function"))
    (h1059 : K.lookup f1046 = some ⟨oc1049, od1054, .func (PySem.W.ksFn "__init__" "InvalidState.__init__" (defArgs s_InvalidState___init__) (defBody s_InvalidState___init__) (defScope s_InvalidState___init__) .none kV1050 dc1051 pm1052 an1055 (.ref ca1058) ct1053 cc1057), sl1056⟩)
    (h1060 : PySem.W.codeIn K (.ref ca1058) "InvalidState.__init__" = true)
    (h1066 : K.lookup ca1058 = some ⟨ol1061, od1063, .fields va1062, sl1064⟩)
    (h1067 : va1062[2]? = some (.str "/claim/cut.py" tf1065))
    (h1071 : K.lookup cc1057 = some ⟨ol1068, od1069, .cell (some (.ref c40)), sl1070⟩)
    (h1072 : PySem.W.isClsIn K c40 = true)
    (h1073 : PySem.W.keepIn K (.ref f1046) = true)
    (h1074 : PySem.W.ks_superIn K c40 c40 "__init__" = some (some (.builtin "ValueError.__init__")))
    (h1075 : PySem.W.mroIn K c40 (.ref c40) = some true)
    (h1076 : PySem.W.subIn K (.ref c40) (.type "ValueError") = some true)
    (h1092 : K.lookup c42 = some (excClassObj nm1077 q1078 c42 N1079 bs1080 bm1081 true sn1082 sub1083 ab1084 col1085 dd1086 m1087 m1088 m1089 m1090 m1091 "ValueError.__new__"))
    (h1093 : PySem.HandSPX.refsVE bm1081 = true)
    (h1094 : PySem.W.findIn K (.ref c42) "__setattr__" = some (some (.builtin "object.__setattr__")))
    (h1095 : PySem.W.typeIn K (.ref c42) = some (.type "type"))
    (h1096 : PySem.W.keepIn K (.ref c42) = true)
    (h1098 : PySem.W.findIn K (.ref c42) "__init__" = some (some (.ref f1097)))
    (h1099 : PySem.W.typeIn K (.ref f1097) = some (.type "function"))
    (h1110 : K.lookup f1097 = some ⟨oc1100, od1105, .func (PySem.W.ksFn "__init__" "InvalidCondition.__init__" (defArgs s_InvalidCondition___init__) (defBody s_InvalidCondition___init__) (defScope s_InvalidCondition___init__) .none kV1101 dc1102 pm1103 an1106 (.ref ca1109) ct1104 cc1108), sl1107⟩)
    (h1111 : PySem.W.codeIn K (.ref ca1109) "InvalidCondition.__init__" = true)
    (h1117 : K.lookup ca1109 = some ⟨ol1112, od1114, .fields va1113, sl1115⟩)
    (h1118 : va1113[2]? = some (.str "/claim/cut.py" tf1116))
    (h1122 : K.lookup cc1108 = some ⟨ol1119, od1120, .cell (some (.ref c42)), sl1121⟩)
    (h1123 : PySem.W.isClsIn K c42 = true)
    (h1124 : PySem.W.keepIn K (.ref f1097) = true)
    (h1125 : PySem.W.ks_superIn K c42 c42 "__init__" = some (some (.builtin "ValueError.__init__")))
    (h1126 : PySem.W.mroIn K c42 (.ref c42) = some true)
    (h1127 : PySem.W.subIn K (.ref c42) (.type "ValueError") = some true)
    (h1143 : K.lookup c50 = some (excClassObj nm1128 q1129 c50 N1130 bs1131 bm1132 true sn1133 sub1134 ab1135 col1136 dd1137 m1138 m1139 m1140 m1141 m1142 "ValueError.__new__"))
    (h1144 : PySem.HandSPX.refsVE bm1132 = true)
    (h1145 : PySem.W.findIn K (.ref c50) "__setattr__" = some (some (.builtin "object.__setattr__")))
    (h1146 : PySem.W.typeIn K (.ref c50) = some (.type "type"))
    (h1147 : PySem.W.keepIn K (.ref c50) = true)
    (h1149 : PySem.W.findIn K (.ref c50) "__init__" = some (some (.ref f1148)))
    (h1150 : PySem.W.typeIn K (.ref f1148) = some (.type "function"))
    (h1161 : K.lookup f1148 = some ⟨oc1151, od1156, .func (PySem.W.ksFn "__init__" "InvalidBlock.__init__" (defArgs s_InvalidBlock___init__) (defBody s_InvalidBlock___init__) (defScope s_InvalidBlock___init__) .none kV1152 dc1153 pm1154 an1157 (.ref ca1160) ct1155 cc1159), sl1158⟩)
    (h1162 : PySem.W.codeIn K (.ref ca1160) "InvalidBlock.__init__" = true)
    (h1168 : K.lookup ca1160 = some ⟨ol1163, od1165, .fields va1164, sl1166⟩)
    (h1169 : va1164[2]? = some (.str "/claim/cut.py" tf1167))
    (h1173 : K.lookup cc1159 = some ⟨ol1170, od1171, .cell (some (.ref c50)), sl1172⟩)
    (h1174 : PySem.W.isClsIn K c50 = true)
    (h1175 : PySem.W.keepIn K (.ref f1148) = true)
    (h1176 : PySem.W.ks_superIn K c50 c50 "__init__" = some (some (.builtin "ValueError.__init__")))
    (h1177 : PySem.W.mroIn K c50 (.ref c50) = some true)
    (h1178 : PySem.W.subIn K (.ref c50) (.type "ValueError") = some true)
    (h1180 : PySem.W.nsIn K mainGlobals "_law_thing" = some (some (.ref f1179)))
    (h1190 : K.lookup f1179 = some ⟨oc1181, od1187, .func (PySem.W.fnOf "_law_thing" "_law_thing" (defArgs s__law_thing) (defBody s__law_thing) (defScope s__law_thing) .none kV1182 dc1183 pm1184 an1188 cd1185 ct1186), sl1189⟩)
    (h1191 : PySem.W.codeIn K cd1185 "_law_thing" = true)
    (h1192 : PySem.W.keepIn K (.ref f1179) = true)
    (h1194 : PySem.W.nsIn K mainGlobals "_law_single" = some (some (.ref f1193)))
    (h1204 : K.lookup f1193 = some ⟨oc1195, od1201, .func (PySem.W.fnOf "_law_single" "_law_single" (defArgs s__law_single) (defBody s__law_single) (defScope s__law_single) .none kV1196 dc1197 pm1198 an1202 cd1199 ct1200), sl1203⟩)
    (h1205 : PySem.W.codeIn K cd1199 "_law_single" = true)
    (h1206 : PySem.W.keepIn K (.ref f1193) = true)
    (h1208 : PySem.W.nsIn K mainGlobals "_law_attribute" = some (some (.ref f1207)))
    (h1218 : K.lookup f1207 = some ⟨oc1209, od1215, .func (PySem.W.fnOf "_law_attribute" "_law_attribute" (defArgs s__law_attribute) (defBody s__law_attribute) (defScope s__law_attribute) .none kV1210 dc1211 pm1212 an1216 cd1213 ct1214), sl1217⟩)
    (h1219 : PySem.W.codeIn K cd1213 "_law_attribute" = true)
    (h1220 : PySem.W.keepIn K (.ref f1207) = true)
    (h1222 : PySem.W.nsIn K mainGlobals "_law_several" = some (some (.ref f1221)))
    (h1232 : K.lookup f1221 = some ⟨oc1223, od1229, .func (PySem.W.fnOf "_law_several" "_law_several" (defArgs s__law_several) (defBody s__law_several) (defScope s__law_several) .none kV1224 dc1225 pm1226 an1230 cd1227 ct1228), sl1231⟩)
    (h1233 : PySem.W.codeIn K cd1227 "_law_several" = true)
    (h1234 : PySem.W.keepIn K (.ref f1221) = true)
    (h1236 : PySem.W.nsIn K mainGlobals "_law_several_right" = some (some (.ref f1235)))
    (h1246 : K.lookup f1235 = some ⟨oc1237, od1243, .func (PySem.W.fnOf "_law_several_right" "_law_several_right" (defArgs s__law_several_right) (defBody s__law_several_right) (defScope s__law_several_right) .none kV1238 dc1239 pm1240 an1244 cd1241 ct1242), sl1245⟩)
    (h1247 : PySem.W.codeIn K cd1241 "_law_several_right" = true)
    (h1248 : PySem.W.keepIn K (.ref f1235) = true)
    (h1250 : PySem.W.nsIn K mainGlobals "_law_marks" = some (some (.ref f1249)))
    (h1260 : K.lookup f1249 = some ⟨oc1251, od1257, .func (PySem.W.fnOf "_law_marks" "_law_marks" (defArgs s__law_marks) (defBody s__law_marks) (defScope s__law_marks) .none kV1252 dc1253 pm1254 an1258 cd1255 ct1256), sl1259⟩)
    (h1261 : PySem.W.codeIn K cd1255 "_law_marks" = true)
    (h1262 : PySem.W.keepIn K (.ref f1249) = true)
    (h1264 : PySem.W.nsIn K mainGlobals "law" = some (some (.ref f1263)))
    (h1274 : K.lookup f1263 = some ⟨oc1265, od1271, .func (PySem.W.fnOf "law" "law" (defArgs s_law) (defBody s_law) (defScope s_law) .none kV1266 dc1267 pm1268 an1272 cd1269 ct1270), sl1273⟩)
    (h1275 : PySem.W.codeIn K cd1269 "law" = true)
    (h1276 : PySem.W.keepIn K (.ref f1263) = true) :
    ∃ fd : FuncData, (∀ (s : Shared) (v : Value), BindsTo s fd ⟨[v], []⟩ [("_law_script", v)]) ∧ ∀ base : Heap, K.In base → base.Ns mainGlobals mg → FnG P wo K mg base (L2.CX P wo) 5 fa fd ["_law_script"] (spLaw K) := by
  have e := hfa.symm.trans (PySem.W.mg_of X G h1264)
  cases e
  refine ⟨(PySem.W.fnOf "law" "law" (defArgs s_law) (defBody s_law) (defScope s_law) .none kV1266 dc1267 pm1268 an1272 cd1269 ct1270), fun s v => .of_eq rfl, fun base _ _ => ?_⟩
  have hany := h1
  let A : Ad := ⟨c10, c12, c14, c16, c18, c20, c22, c24, c26, c28, c30, c32, c34, c36, c38, c40, c42, c44, c46, c48, c50, c52, c54⟩
  have T : Txt K mg A := ⟨PySem.W.mg_none_of X G h2, PySem.W.mg_none_of X G h3, PySem.W.mg_none_of X G h4, PySem.W.mg_none_of X G h5, PySem.W.mg_none_of X G h6, PySem.W.mg_none_of X G h7, PySem.W.mg_none_of X G h8, PySem.W.mg_none_of X G h9, ⟨_, PySem.W.mg_of X G h11, rfl⟩, ⟨_, PySem.W.mg_of X G h13, rfl⟩, ⟨_, PySem.W.mg_of X G h15, rfl⟩, ⟨_, PySem.W.mg_of X G h17, rfl⟩, ⟨_, PySem.W.mg_of X G h19, rfl⟩, ⟨_, PySem.W.mg_of X G h21, rfl⟩, ⟨_, PySem.W.mg_of X G h23, rfl⟩, ⟨_, PySem.W.mg_of X G h25, rfl⟩, ⟨_, PySem.W.mg_of X G h27, rfl⟩, ⟨_, PySem.W.mg_of X G h29, rfl⟩, ⟨_, PySem.W.mg_of X G h31, rfl⟩, ⟨_, PySem.W.mg_of X G h33, rfl⟩, ⟨_, PySem.W.mg_of X G h35, rfl⟩, ⟨_, PySem.W.mg_of X G h37, rfl⟩, ⟨_, PySem.W.mg_of X G h39, rfl⟩, ⟨_, PySem.W.mg_of X G h41, rfl⟩, ⟨_, PySem.W.mg_of X G h43, rfl⟩, ⟨_, PySem.W.mg_of X G h45, rfl⟩, ⟨_, PySem.W.mg_of X G h47, rfl⟩, ⟨_, PySem.W.mg_of X G h49, rfl⟩, ⟨_, PySem.W.mg_of X G h51, rfl⟩, ⟨_, PySem.W.mg_of X G h53, rfl⟩, ⟨_, PySem.W.mg_of X G h55, rfl⟩⟩
  have U : SupTop P mg := ⟨T.nb_super, htop⟩
  have EF : ErF K A := erF_of (A := A) h56
  have O_InvalidName : OexC K c12 := ⟨⟨_, _, _, _, _, _, _, _, _, _, _, _, _, _, _, h72, h73⟩, h74, (EF.ec 0 (by decide)).hs, h75, h76⟩
  have S_InvalidName___init__ : FunS P K "__init__" "InvalidName.__init__" s_InvalidName___init__ f77 cc88 c12 ca89 _ := ⟨⟨_, _, _, _, _, _, _, _, _, rfl, h90⟩, h91, ⟨_, _, _, _, _, _, h97, h98, hfile⟩, ⟨_, _, _, h102⟩, Option.isSome_iff_exists.mp h103, h104⟩
  have M_InvalidName : SupE K c12 c12 := ⟨O_InvalidName, hany, h105, h106, h107⟩
  have E_InvalidName := ok_exc1 (P := P) (w := wo) (mg := mg) (base := base) (fld := "name") S_InvalidName___init__ U M_InvalidName (EF.na 0 (by decide) _ (.head _)) ⟨rfl, rfl, rfl, by decide +kernel, rfl, by decide +kernel, by decide +kernel, by decide +kernel⟩ rfl rfl ⟨_, rfl, rfl, rfl⟩ rfl (fun _ => ⟨_, rfl⟩)
  have V_InvalidName : ExcV P wo K mg base "InvalidName" A.InvalidName 1 [] (fun vs zs => spExc1 A.InvalidName "name" (vs ++ zs.reverse)) := ⟨O_InvalidName, PySem.W.mg_of X G h13, f77, h78, h79, calR E_InvalidName (fun us ws l1 l2 => match us, ws, l1, l2 with | [_, _], [], _, _ => rfl)⟩
  have V_InvalidNamek : ExcV P wo K mg base "InvalidName" A.InvalidName 0 ["name"] (fun vs zs => spExc1 A.InvalidName "name" (vs ++ zs.reverse)) := ⟨O_InvalidName, PySem.W.mg_of X G h13, f77, h78, h79, calR E_InvalidName (fun us ws l1 l2 => match us, ws, l1, l2 with | [_], [_], _, _ => rfl)⟩
  have O_InvalidColumn : OexC K c14 := ⟨⟨_, _, _, _, _, _, _, _, _, _, _, _, _, _, _, h123, h124⟩, h125, (EF.ec 1 (by decide)).hs, h126, h127⟩
  have S_InvalidColumn___init__ : FunS P K "__init__" "InvalidColumn.__init__" s_InvalidColumn___init__ f128 cc139 c14 ca140 _ := ⟨⟨_, _, _, _, _, _, _, _, _, rfl, h141⟩, h142, ⟨_, _, _, _, _, _, h148, h149, hfile⟩, ⟨_, _, _, h153⟩, Option.isSome_iff_exists.mp h154, h155⟩
  have M_InvalidColumn : SupE K c14 c14 := ⟨O_InvalidColumn, hany, h156, h157, h158⟩
  have E_InvalidColumn := ok_exc1 (P := P) (w := wo) (mg := mg) (base := base) (fld := "name") S_InvalidColumn___init__ U M_InvalidColumn (EF.na 1 (by decide) _ (.head _)) ⟨rfl, rfl, rfl, by decide +kernel, rfl, by decide +kernel, by decide +kernel, by decide +kernel⟩ rfl rfl ⟨_, rfl, rfl, rfl⟩ rfl (fun _ => ⟨_, rfl⟩)
  have V_InvalidColumn : ExcV P wo K mg base "InvalidColumn" A.InvalidColumn 1 [] (fun vs zs => spExc1 A.InvalidColumn "name" (vs ++ zs.reverse)) := ⟨O_InvalidColumn, PySem.W.mg_of X G h15, f128, h129, h130, calR E_InvalidColumn (fun us ws l1 l2 => match us, ws, l1, l2 with | [_, _], [], _, _ => rfl)⟩
  have V_InvalidColumnk : ExcV P wo K mg base "InvalidColumn" A.InvalidColumn 0 ["name"] (fun vs zs => spExc1 A.InvalidColumn "name" (vs ++ zs.reverse)) := ⟨O_InvalidColumn, PySem.W.mg_of X G h15, f128, h129, h130, calR E_InvalidColumn (fun us ws l1 l2 => match us, ws, l1, l2 with | [_], [_], _, _ => rfl)⟩
  have O_InvalidGroup : OexC K c16 := ⟨⟨_, _, _, _, _, _, _, _, _, _, _, _, _, _, _, h174, h175⟩, h176, (EF.ec 2 (by decide)).hs, h177, h178⟩
  have S_InvalidGroup___init__ : FunS P K "__init__" "InvalidGroup.__init__" s_InvalidGroup___init__ f179 cc190 c16 ca191 _ := ⟨⟨_, _, _, _, _, _, _, _, _, rfl, h192⟩, h193, ⟨_, _, _, _, _, _, h199, h200, hfile⟩, ⟨_, _, _, h204⟩, Option.isSome_iff_exists.mp h205, h206⟩
  have M_InvalidGroup : SupE K c16 c16 := ⟨O_InvalidGroup, hany, h207, h208, h209⟩
  have E_InvalidGroup := ok_exc1 (P := P) (w := wo) (mg := mg) (base := base) (fld := "index") S_InvalidGroup___init__ U M_InvalidGroup (EF.na 2 (by decide) _ (.head _)) ⟨rfl, rfl, rfl, by decide +kernel, rfl, by decide +kernel, by decide +kernel, by decide +kernel⟩ rfl rfl ⟨_, rfl, rfl, rfl⟩ rfl (fun _ => ⟨_, rfl⟩)
  have V_InvalidGroup : ExcV P wo K mg base "InvalidGroup" A.InvalidGroup 1 [] (fun vs zs => spExc1 A.InvalidGroup "index" (vs ++ zs.reverse)) := ⟨O_InvalidGroup, PySem.W.mg_of X G h17, f179, h180, h181, calR E_InvalidGroup (fun us ws l1 l2 => match us, ws, l1, l2 with | [_, _], [], _, _ => rfl)⟩
  have V_InvalidGroupk : ExcV P wo K mg base "InvalidGroup" A.InvalidGroup 0 ["index"] (fun vs zs => spExc1 A.InvalidGroup "index" (vs ++ zs.reverse)) := ⟨O_InvalidGroup, PySem.W.mg_of X G h17, f179, h180, h181, calR E_InvalidGroup (fun us ws l1 l2 => match us, ws, l1, l2 with | [_], [_], _, _ => rfl)⟩
  have O_UnknownTable : OexC K c18 := ⟨⟨_, _, _, _, _, _, _, _, _, _, _, _, _, _, _, h225, h226⟩, h227, (EF.ec 3 (by decide)).hs, h228, h229⟩
  have S_UnknownTable___init__ : FunS P K "__init__" "UnknownTable.__init__" s_UnknownTable___init__ f230 cc241 c18 ca242 _ := ⟨⟨_, _, _, _, _, _, _, _, _, rfl, h243⟩, h244, ⟨_, _, _, _, _, _, h250, h251, hfile⟩, ⟨_, _, _, h255⟩, Option.isSome_iff_exists.mp h256, h257⟩
  have M_UnknownTable : SupE K c18 c18 := ⟨O_UnknownTable, hany, h258, h259, h260⟩
  have E_UnknownTable := ok_exc1 (P := P) (w := wo) (mg := mg) (base := base) (fld := "name") S_UnknownTable___init__ U M_UnknownTable (EF.na 3 (by decide) _ (.head _)) ⟨rfl, rfl, rfl, by decide +kernel, rfl, by decide +kernel, by decide +kernel, by decide +kernel⟩ rfl rfl ⟨_, rfl, rfl, rfl⟩ rfl (fun _ => ⟨_, rfl⟩)
  have V_UnknownTable : ExcV P wo K mg base "UnknownTable" A.UnknownTable 1 [] (fun vs zs => spExc1 A.UnknownTable "name" (vs ++ zs.reverse)) := ⟨O_UnknownTable, PySem.W.mg_of X G h19, f230, h231, h232, calR E_UnknownTable (fun us ws l1 l2 => match us, ws, l1, l2 with | [_, _], [], _, _ => rfl)⟩
  have V_UnknownTablek : ExcV P wo K mg base "UnknownTable" A.UnknownTable 0 ["name"] (fun vs zs => spExc1 A.UnknownTable "name" (vs ++ zs.reverse)) := ⟨O_UnknownTable, PySem.W.mg_of X G h19, f230, h231, h232, calR E_UnknownTable (fun us ws l1 l2 => match us, ws, l1, l2 with | [_], [_], _, _ => rfl)⟩
  have O_UnknownColumn : OexC K c20 := ⟨⟨_, _, _, _, _, _, _, _, _, _, _, _, _, _, _, h276, h277⟩, h278, (EF.ec 4 (by decide)).hs, h279, h280⟩
  have S_UnknownColumn___init__ : FunS P K "__init__" "UnknownColumn.__init__" s_UnknownColumn___init__ f281 cc292 c20 ca293 _ := ⟨⟨_, _, _, _, _, _, _, _, _, rfl, h294⟩, h295, ⟨_, _, _, _, _, _, h301, h302, hfile⟩, ⟨_, _, _, h306⟩, Option.isSome_iff_exists.mp h307, h308⟩
  have M_UnknownColumn : SupE K c20 c20 := ⟨O_UnknownColumn, hany, h309, h310, h311⟩
  have E_UnknownColumn := ok_exc1 (P := P) (w := wo) (mg := mg) (base := base) (fld := "name") S_UnknownColumn___init__ U M_UnknownColumn (EF.na 4 (by decide) _ (.head _)) ⟨rfl, rfl, rfl, by decide +kernel, rfl, by decide +kernel, by decide +kernel, by decide +kernel⟩ rfl rfl ⟨_, rfl, rfl, rfl⟩ rfl (fun _ => ⟨_, rfl⟩)
  have V_UnknownColumn : ExcV P wo K mg base "UnknownColumn" A.UnknownColumn 1 [] (fun vs zs => spExc1 A.UnknownColumn "name" (vs ++ zs.reverse)) := ⟨O_UnknownColumn, PySem.W.mg_of X G h21, f281, h282, h283, calR E_UnknownColumn (fun us ws l1 l2 => match us, ws, l1, l2 with | [_, _], [], _, _ => rfl)⟩
  have V_UnknownColumnk : ExcV P wo K mg base "UnknownColumn" A.UnknownColumn 0 ["name"] (fun vs zs => spExc1 A.UnknownColumn "name" (vs ++ zs.reverse)) := ⟨O_UnknownColumn, PySem.W.mg_of X G h21, f281, h282, h283, calR E_UnknownColumn (fun us ws l1 l2 => match us, ws, l1, l2 with | [_], [_], _, _ => rfl)⟩
  have O_InvalidKey : OexC K c22 := ⟨⟨_, _, _, _, _, _, _, _, _, _, _, _, _, _, _, h327, h328⟩, h329, (EF.ec 5 (by decide)).hs, h330, h331⟩
  have S_InvalidKey___init__ : FunS P K "__init__" "InvalidKey.__init__" s_InvalidKey___init__ f332 cc343 c22 ca344 _ := ⟨⟨_, _, _, _, _, _, _, _, _, rfl, h345⟩, h346, ⟨_, _, _, _, _, _, h352, h353, hfile⟩, ⟨_, _, _, h357⟩, Option.isSome_iff_exists.mp h358, h359⟩
  have M_InvalidKey : SupE K c22 c22 := ⟨O_InvalidKey, hany, h360, h361, h362⟩
  have E_InvalidKey := ok_exc1 (P := P) (w := wo) (mg := mg) (base := base) (fld := "key") S_InvalidKey___init__ U M_InvalidKey (EF.na 5 (by decide) _ (.head _)) ⟨rfl, rfl, rfl, by decide +kernel, rfl, by decide +kernel, by decide +kernel, by decide +kernel⟩ rfl rfl ⟨_, rfl, rfl, rfl⟩ rfl (fun _ => ⟨_, rfl⟩)
  have V_InvalidKey : ExcV P wo K mg base "InvalidKey" A.InvalidKey 1 [] (fun vs zs => spExc1 A.InvalidKey "key" (vs ++ zs.reverse)) := ⟨O_InvalidKey, PySem.W.mg_of X G h23, f332, h333, h334, calR E_InvalidKey (fun us ws l1 l2 => match us, ws, l1, l2 with | [_, _], [], _, _ => rfl)⟩
  have V_InvalidKeyk : ExcV P wo K mg base "InvalidKey" A.InvalidKey 0 ["key"] (fun vs zs => spExc1 A.InvalidKey "key" (vs ++ zs.reverse)) := ⟨O_InvalidKey, PySem.W.mg_of X G h23, f332, h333, h334, calR E_InvalidKey (fun us ws l1 l2 => match us, ws, l1, l2 with | [_], [_], _, _ => rfl)⟩
  have O_InvalidValue : OexC K c24 := ⟨⟨_, _, _, _, _, _, _, _, _, _, _, _, _, _, _, h378, h379⟩, h380, (EF.ec 6 (by decide)).hs, h381, h382⟩
  have S_InvalidValue___init__ : FunS P K "__init__" "InvalidValue.__init__" s_InvalidValue___init__ f383 cc394 c24 ca395 _ := ⟨⟨_, _, _, _, _, _, _, _, _, rfl, h396⟩, h397, ⟨_, _, _, _, _, _, h403, h404, hfile⟩, ⟨_, _, _, h408⟩, Option.isSome_iff_exists.mp h409, h410⟩
  have M_InvalidValue : SupE K c24 c24 := ⟨O_InvalidValue, hany, h411, h412, h413⟩
  have E_InvalidValue := ok_exc1 (P := P) (w := wo) (mg := mg) (base := base) (fld := "column") S_InvalidValue___init__ U M_InvalidValue (EF.na 6 (by decide) _ (.head _)) ⟨rfl, rfl, rfl, by decide +kernel, rfl, by decide +kernel, by decide +kernel, by decide +kernel⟩ rfl rfl ⟨_, rfl, rfl, rfl⟩ rfl (fun _ => ⟨_, rfl⟩)
  have V_InvalidValue : ExcV P wo K mg base "InvalidValue" A.InvalidValue 1 [] (fun vs zs => spExc1 A.InvalidValue "column" (vs ++ zs.reverse)) := ⟨O_InvalidValue, PySem.W.mg_of X G h25, f383, h384, h385, calR E_InvalidValue (fun us ws l1 l2 => match us, ws, l1, l2 with | [_, _], [], _, _ => rfl)⟩
  have V_InvalidValuek : ExcV P wo K mg base "InvalidValue" A.InvalidValue 0 ["column"] (fun vs zs => spExc1 A.InvalidValue "column" (vs ++ zs.reverse)) := ⟨O_InvalidValue, PySem.W.mg_of X G h25, f383, h384, h385, calR E_InvalidValue (fun us ws l1 l2 => match us, ws, l1, l2 with | [_], [_], _, _ => rfl)⟩
  have O_PermanentRow : OexC K c32 := ⟨⟨_, _, _, _, _, _, _, _, _, _, _, _, _, _, _, h429, h430⟩, h431, (EF.ec 7 (by decide)).hs, h432, h433⟩
  have S_PermanentRow___init__ : FunS P K "__init__" "PermanentRow.__init__" s_PermanentRow___init__ f434 cc445 c32 ca446 _ := ⟨⟨_, _, _, _, _, _, _, _, _, rfl, h447⟩, h448, ⟨_, _, _, _, _, _, h454, h455, hfile⟩, ⟨_, _, _, h459⟩, Option.isSome_iff_exists.mp h460, h461⟩
  have M_PermanentRow : SupE K c32 c32 := ⟨O_PermanentRow, hany, h462, h463, h464⟩
  have E_PermanentRow := ok_exc1 (P := P) (w := wo) (mg := mg) (base := base) (fld := "table") S_PermanentRow___init__ U M_PermanentRow (EF.na 7 (by decide) _ (.head _)) ⟨rfl, rfl, rfl, by decide +kernel, rfl, by decide +kernel, by decide +kernel, by decide +kernel⟩ rfl rfl ⟨_, rfl, rfl, rfl⟩ rfl (fun _ => ⟨_, rfl⟩)
  have V_PermanentRow : ExcV P wo K mg base "PermanentRow" A.PermanentRow 1 [] (fun vs zs => spExc1 A.PermanentRow "table" (vs ++ zs.reverse)) := ⟨O_PermanentRow, PySem.W.mg_of X G h33, f434, h435, h436, calR E_PermanentRow (fun us ws l1 l2 => match us, ws, l1, l2 with | [_, _], [], _, _ => rfl)⟩
  have V_PermanentRowk : ExcV P wo K mg base "PermanentRow" A.PermanentRow 0 ["table"] (fun vs zs => spExc1 A.PermanentRow "table" (vs ++ zs.reverse)) := ⟨O_PermanentRow, PySem.W.mg_of X G h33, f434, h435, h436, calR E_PermanentRow (fun us ws l1 l2 => match us, ws, l1, l2 with | [_], [_], _, _ => rfl)⟩
  have O_Restricted : OexC K c44 := ⟨⟨_, _, _, _, _, _, _, _, _, _, _, _, _, _, _, h480, h481⟩, h482, (EF.ec 8 (by decide)).hs, h483, h484⟩
  have S_Restricted___init__ : FunS P K "__init__" "Restricted.__init__" s_Restricted___init__ f485 cc496 c44 ca497 _ := ⟨⟨_, _, _, _, _, _, _, _, _, rfl, h498⟩, h499, ⟨_, _, _, _, _, _, h505, h506, hfile⟩, ⟨_, _, _, h510⟩, Option.isSome_iff_exists.mp h511, h512⟩
  have M_Restricted : SupE K c44 c44 := ⟨O_Restricted, hany, h513, h514, h515⟩
  have E_Restricted := ok_exc1 (P := P) (w := wo) (mg := mg) (base := base) (fld := "reason") S_Restricted___init__ U M_Restricted (EF.na 8 (by decide) _ (.head _)) ⟨rfl, rfl, rfl, by decide +kernel, rfl, by decide +kernel, by decide +kernel, by decide +kernel⟩ rfl rfl ⟨_, rfl, rfl, rfl⟩ rfl (fun _ => ⟨_, rfl⟩)
  have V_Restricted : ExcV P wo K mg base "Restricted" A.Restricted 1 [] (fun vs zs => spExc1 A.Restricted "reason" (vs ++ zs.reverse)) := ⟨O_Restricted, PySem.W.mg_of X G h45, f485, h486, h487, calR E_Restricted (fun us ws l1 l2 => match us, ws, l1, l2 with | [_, _], [], _, _ => rfl)⟩
  have V_Restrictedk : ExcV P wo K mg base "Restricted" A.Restricted 0 ["reason"] (fun vs zs => spExc1 A.Restricted "reason" (vs ++ zs.reverse)) := ⟨O_Restricted, PySem.W.mg_of X G h45, f485, h486, h487, calR E_Restricted (fun us ws l1 l2 => match us, ws, l1, l2 with | [_], [_], _, _ => rfl)⟩
  have O_Stale : OexC K c46 := ⟨⟨_, _, _, _, _, _, _, _, _, _, _, _, _, _, _, h531, h532⟩, h533, (EF.ec 9 (by decide)).hs, h534, h535⟩
  have S_Stale___init__ : FunS P K "__init__" "Stale.__init__" s_Stale___init__ f536 cc547 c46 ca548 _ := ⟨⟨_, _, _, _, _, _, _, _, _, rfl, h549⟩, h550, ⟨_, _, _, _, _, _, h556, h557, hfile⟩, ⟨_, _, _, h561⟩, Option.isSome_iff_exists.mp h562, h563⟩
  have M_Stale : SupE K c46 c46 := ⟨O_Stale, hany, h564, h565, h566⟩
  have E_Stale := ok_exc1 (P := P) (w := wo) (mg := mg) (base := base) (fld := "index") S_Stale___init__ U M_Stale (EF.na 9 (by decide) _ (.head _)) ⟨rfl, rfl, rfl, by decide +kernel, rfl, by decide +kernel, by decide +kernel, by decide +kernel⟩ rfl rfl ⟨_, rfl, rfl, rfl⟩ rfl (fun _ => ⟨_, rfl⟩)
  have V_Stale : ExcV P wo K mg base "Stale" A.Stale 1 [] (fun vs zs => spExc1 A.Stale "index" (vs ++ zs.reverse)) := ⟨O_Stale, PySem.W.mg_of X G h47, f536, h537, h538, calR E_Stale (fun us ws l1 l2 => match us, ws, l1, l2 with | [_, _], [], _, _ => rfl)⟩
  have V_Stalek : ExcV P wo K mg base "Stale" A.Stale 0 ["index"] (fun vs zs => spExc1 A.Stale "index" (vs ++ zs.reverse)) := ⟨O_Stale, PySem.W.mg_of X G h47, f536, h537, h538, calR E_Stale (fun us ws l1 l2 => match us, ws, l1, l2 with | [_], [_], _, _ => rfl)⟩
  have O_InvalidLog : OexC K c52 := ⟨⟨_, _, _, _, _, _, _, _, _, _, _, _, _, _, _, h582, h583⟩, h584, (EF.ec 10 (by decide)).hs, h585, h586⟩
  have S_InvalidLog___init__ : FunS P K "__init__" "InvalidLog.__init__" s_InvalidLog___init__ f587 cc598 c52 ca599 _ := ⟨⟨_, _, _, _, _, _, _, _, _, rfl, h600⟩, h601, ⟨_, _, _, _, _, _, h607, h608, hfile⟩, ⟨_, _, _, h612⟩, Option.isSome_iff_exists.mp h613, h614⟩
  have M_InvalidLog : SupE K c52 c52 := ⟨O_InvalidLog, hany, h615, h616, h617⟩
  have E_InvalidLog := ok_exc1 (P := P) (w := wo) (mg := mg) (base := base) (fld := "index") S_InvalidLog___init__ U M_InvalidLog (EF.na 10 (by decide) _ (.head _)) ⟨rfl, rfl, rfl, by decide +kernel, rfl, by decide +kernel, by decide +kernel, by decide +kernel⟩ rfl rfl ⟨_, rfl, rfl, rfl⟩ rfl (fun _ => ⟨_, rfl⟩)
  have V_InvalidLog : ExcV P wo K mg base "InvalidLog" A.InvalidLog 1 [] (fun vs zs => spExc1 A.InvalidLog "index" (vs ++ zs.reverse)) := ⟨O_InvalidLog, PySem.W.mg_of X G h53, f587, h588, h589, calR E_InvalidLog (fun us ws l1 l2 => match us, ws, l1, l2 with | [_, _], [], _, _ => rfl)⟩
  have V_InvalidLogk : ExcV P wo K mg base "InvalidLog" A.InvalidLog 0 ["index"] (fun vs zs => spExc1 A.InvalidLog "index" (vs ++ zs.reverse)) := ⟨O_InvalidLog, PySem.W.mg_of X G h53, f587, h588, h589, calR E_InvalidLog (fun us ws l1 l2 => match us, ws, l1, l2 with | [_], [_], _, _ => rfl)⟩
  have O_InvalidText : OexC K c54 := ⟨⟨_, _, _, _, _, _, _, _, _, _, _, _, _, _, _, h633, h634⟩, h635, (EF.ec 11 (by decide)).hs, h636, h637⟩
  have S_InvalidText___init__ : FunS P K "__init__" "InvalidText.__init__" s_InvalidText___init__ f638 cc649 c54 ca650 _ := ⟨⟨_, _, _, _, _, _, _, _, _, rfl, h651⟩, h652, ⟨_, _, _, _, _, _, h658, h659, hfile⟩, ⟨_, _, _, h663⟩, Option.isSome_iff_exists.mp h664, h665⟩
  have M_InvalidText : SupE K c54 c54 := ⟨O_InvalidText, hany, h666, h667, h668⟩
  have E_InvalidText := ok_exc1 (P := P) (w := wo) (mg := mg) (base := base) (fld := "line") S_InvalidText___init__ U M_InvalidText (EF.na 11 (by decide) _ (.head _)) ⟨rfl, rfl, rfl, by decide +kernel, rfl, by decide +kernel, by decide +kernel, by decide +kernel⟩ rfl rfl ⟨_, rfl, rfl, rfl⟩ rfl (fun _ => ⟨_, rfl⟩)
  have V_InvalidText : ExcV P wo K mg base "InvalidText" A.InvalidText 1 [] (fun vs zs => spExc1 A.InvalidText "line" (vs ++ zs.reverse)) := ⟨O_InvalidText, PySem.W.mg_of X G h55, f638, h639, h640, calR E_InvalidText (fun us ws l1 l2 => match us, ws, l1, l2 with | [_, _], [], _, _ => rfl)⟩
  have V_InvalidTextk : ExcV P wo K mg base "InvalidText" A.InvalidText 0 ["line"] (fun vs zs => spExc1 A.InvalidText "line" (vs ++ zs.reverse)) := ⟨O_InvalidText, PySem.W.mg_of X G h55, f638, h639, h640, calR E_InvalidText (fun us ws l1 l2 => match us, ws, l1, l2 with | [_], [_], _, _ => rfl)⟩
  have O_KeyExists : OexC K c28 := ⟨⟨_, _, _, _, _, _, _, _, _, _, _, _, _, _, _, h684, h685⟩, h686, (EF.ec 12 (by decide)).hs, h687, h688⟩
  have S_KeyExists___init__ : FunS P K "__init__" "KeyExists.__init__" s_KeyExists___init__ f689 cc700 c28 ca701 _ := ⟨⟨_, _, _, _, _, _, _, _, _, rfl, h702⟩, h703, ⟨_, _, _, _, _, _, h709, h710, hfile⟩, ⟨_, _, _, h714⟩, Option.isSome_iff_exists.mp h715, h716⟩
  have M_KeyExists : SupE K c28 c28 := ⟨O_KeyExists, hany, h717, h718, h719⟩
  have E_KeyExists := ok_exc2 (P := P) (w := wo) (mg := mg) (base := base) (f1 := "table") (f2 := "key") S_KeyExists___init__ U M_KeyExists (EF.na 12 (by decide) _ (.head _)) (EF.na 12 (by decide) _ (.tail _ (.head _))) ⟨rfl, rfl, rfl, by decide +kernel, rfl, by decide +kernel, by decide +kernel, by decide +kernel⟩ rfl rfl ⟨_, rfl, rfl, rfl⟩ rfl (fun _ => ⟨_, rfl⟩)
  have V_KeyExists : ExcV P wo K mg base "KeyExists" A.KeyExists 2 [] (fun vs zs => spExc2 A.KeyExists "table" "key" (vs ++ zs.reverse)) := ⟨O_KeyExists, PySem.W.mg_of X G h29, f689, h690, h691, calR E_KeyExists (fun us ws l1 l2 => match us, ws, l1, l2 with | [_, _, _], [], _, _ => rfl)⟩
  have V_KeyExistsk : ExcV P wo K mg base "KeyExists" A.KeyExists 0 ["key", "table"] (fun vs zs => spExc2 A.KeyExists "table" "key" (vs ++ zs.reverse)) := ⟨O_KeyExists, PySem.W.mg_of X G h29, f689, h690, h691, calR E_KeyExists (fun us ws l1 l2 => match us, ws, l1, l2 with | [_], [_, _], _, _ => rfl)⟩
  have O_KeyMissing : OexC K c30 := ⟨⟨_, _, _, _, _, _, _, _, _, _, _, _, _, _, _, h735, h736⟩, h737, (EF.ec 13 (by decide)).hs, h738, h739⟩
  have S_KeyMissing___init__ : FunS P K "__init__" "KeyMissing.__init__" s_KeyMissing___init__ f740 cc751 c30 ca752 _ := ⟨⟨_, _, _, _, _, _, _, _, _, rfl, h753⟩, h754, ⟨_, _, _, _, _, _, h760, h761, hfile⟩, ⟨_, _, _, h765⟩, Option.isSome_iff_exists.mp h766, h767⟩
  have M_KeyMissing : SupE K c30 c30 := ⟨O_KeyMissing, hany, h768, h769, h770⟩
  have E_KeyMissing := ok_exc2 (P := P) (w := wo) (mg := mg) (base := base) (f1 := "table") (f2 := "key") S_KeyMissing___init__ U M_KeyMissing (EF.na 13 (by decide) _ (.head _)) (EF.na 13 (by decide) _ (.tail _ (.head _))) ⟨rfl, rfl, rfl, by decide +kernel, rfl, by decide +kernel, by decide +kernel, by decide +kernel⟩ rfl rfl ⟨_, rfl, rfl, rfl⟩ rfl (fun _ => ⟨_, rfl⟩)
  have V_KeyMissing : ExcV P wo K mg base "KeyMissing" A.KeyMissing 2 [] (fun vs zs => spExc2 A.KeyMissing "table" "key" (vs ++ zs.reverse)) := ⟨O_KeyMissing, PySem.W.mg_of X G h31, f740, h741, h742, calR E_KeyMissing (fun us ws l1 l2 => match us, ws, l1, l2 with | [_, _, _], [], _, _ => rfl)⟩
  have V_KeyMissingk : ExcV P wo K mg base "KeyMissing" A.KeyMissing 0 ["key", "table"] (fun vs zs => spExc2 A.KeyMissing "table" "key" (vs ++ zs.reverse)) := ⟨O_KeyMissing, PySem.W.mg_of X G h31, f740, h741, h742, calR E_KeyMissing (fun us ws l1 l2 => match us, ws, l1, l2 with | [_], [_, _], _, _ => rfl)⟩
  have O_DuplicateValue : OexC K c34 := ⟨⟨_, _, _, _, _, _, _, _, _, _, _, _, _, _, _, h786, h787⟩, h788, (EF.ec 14 (by decide)).hs, h789, h790⟩
  have S_DuplicateValue___init__ : FunS P K "__init__" "DuplicateValue.__init__" s_DuplicateValue___init__ f791 cc802 c34 ca803 _ := ⟨⟨_, _, _, _, _, _, _, _, _, rfl, h804⟩, h805, ⟨_, _, _, _, _, _, h811, h812, hfile⟩, ⟨_, _, _, h816⟩, Option.isSome_iff_exists.mp h817, h818⟩
  have M_DuplicateValue : SupE K c34 c34 := ⟨O_DuplicateValue, hany, h819, h820, h821⟩
  have E_DuplicateValue := ok_exc3 (P := P) (w := wo) (mg := mg) (base := base) (f1 := "table") (f2 := "key") (f3 := "other") S_DuplicateValue___init__ U M_DuplicateValue (EF.na 14 (by decide) _ (.head _)) (EF.na 14 (by decide) _ (.tail _ (.head _))) (EF.na 14 (by decide) _ (.tail _ (.tail _ (.head _)))) ⟨rfl, rfl, rfl, by decide +kernel, rfl, by decide +kernel, by decide +kernel, by decide +kernel⟩ rfl rfl ⟨_, rfl, rfl, rfl⟩ rfl (fun _ => ⟨_, rfl⟩)
  have V_DuplicateValue : ExcV P wo K mg base "DuplicateValue" A.DuplicateValue 3 [] (fun vs zs => spExc3 A.DuplicateValue "table" "key" "other" (vs ++ zs.reverse)) := ⟨O_DuplicateValue, PySem.W.mg_of X G h35, f791, h792, h793, calR E_DuplicateValue (fun us ws l1 l2 => match us, ws, l1, l2 with | [_, _, _, _], [], _, _ => rfl)⟩
  have V_DuplicateValuek : ExcV P wo K mg base "DuplicateValue" A.DuplicateValue 0 ["other", "key", "table"] (fun vs zs => spExc3 A.DuplicateValue "table" "key" "other" (vs ++ zs.reverse)) := ⟨O_DuplicateValue, PySem.W.mg_of X G h35, f791, h792, h793, calR E_DuplicateValue (fun us ws l1 l2 => match us, ws, l1, l2 with | [_], [_, _, _], _, _ => rfl)⟩
  have O_MissingTarget : OexC K c36 := ⟨⟨_, _, _, _, _, _, _, _, _, _, _, _, _, _, _, h837, h838⟩, h839, (EF.ec 15 (by decide)).hs, h840, h841⟩
  have S_MissingTarget___init__ : FunS P K "__init__" "MissingTarget.__init__" s_MissingTarget___init__ f842 cc853 c36 ca854 _ := ⟨⟨_, _, _, _, _, _, _, _, _, rfl, h855⟩, h856, ⟨_, _, _, _, _, _, h862, h863, hfile⟩, ⟨_, _, _, h867⟩, Option.isSome_iff_exists.mp h868, h869⟩
  have M_MissingTarget : SupE K c36 c36 := ⟨O_MissingTarget, hany, h870, h871, h872⟩
  have E_MissingTarget := ok_exc3 (P := P) (w := wo) (mg := mg) (base := base) (f1 := "table") (f2 := "key") (f3 := "column") S_MissingTarget___init__ U M_MissingTarget (EF.na 15 (by decide) _ (.head _)) (EF.na 15 (by decide) _ (.tail _ (.head _))) (EF.na 15 (by decide) _ (.tail _ (.tail _ (.head _)))) ⟨rfl, rfl, rfl, by decide +kernel, rfl, by decide +kernel, by decide +kernel, by decide +kernel⟩ rfl rfl ⟨_, rfl, rfl, rfl⟩ rfl (fun _ => ⟨_, rfl⟩)
  have V_MissingTarget : ExcV P wo K mg base "MissingTarget" A.MissingTarget 3 [] (fun vs zs => spExc3 A.MissingTarget "table" "key" "column" (vs ++ zs.reverse)) := ⟨O_MissingTarget, PySem.W.mg_of X G h37, f842, h843, h844, calR E_MissingTarget (fun us ws l1 l2 => match us, ws, l1, l2 with | [_, _, _, _], [], _, _ => rfl)⟩
  have V_MissingTargetk : ExcV P wo K mg base "MissingTarget" A.MissingTarget 0 ["column", "key", "table"] (fun vs zs => spExc3 A.MissingTarget "table" "key" "column" (vs ++ zs.reverse)) := ⟨O_MissingTarget, PySem.W.mg_of X G h37, f842, h843, h844, calR E_MissingTarget (fun us ws l1 l2 => match us, ws, l1, l2 with | [_], [_, _, _], _, _ => rfl)⟩
  have O_StillReferenced : OexC K c38 := ⟨⟨_, _, _, _, _, _, _, _, _, _, _, _, _, _, _, h888, h889⟩, h890, (EF.ec 16 (by decide)).hs, h891, h892⟩
  have S_StillReferenced___init__ : FunS P K "__init__" "StillReferenced.__init__" s_StillReferenced___init__ f893 cc904 c38 ca905 _ := ⟨⟨_, _, _, _, _, _, _, _, _, rfl, h906⟩, h907, ⟨_, _, _, _, _, _, h913, h914, hfile⟩, ⟨_, _, _, h918⟩, Option.isSome_iff_exists.mp h919, h920⟩
  have M_StillReferenced : SupE K c38 c38 := ⟨O_StillReferenced, hany, h921, h922, h923⟩
  have E_StillReferenced := ok_exc3 (P := P) (w := wo) (mg := mg) (base := base) (f1 := "table") (f2 := "key") (f3 := "column") S_StillReferenced___init__ U M_StillReferenced (EF.na 16 (by decide) _ (.head _)) (EF.na 16 (by decide) _ (.tail _ (.head _))) (EF.na 16 (by decide) _ (.tail _ (.tail _ (.head _)))) ⟨rfl, rfl, rfl, by decide +kernel, rfl, by decide +kernel, by decide +kernel, by decide +kernel⟩ rfl rfl ⟨_, rfl, rfl, rfl⟩ rfl (fun _ => ⟨_, rfl⟩)
  have V_StillReferenced : ExcV P wo K mg base "StillReferenced" A.StillReferenced 3 [] (fun vs zs => spExc3 A.StillReferenced "table" "key" "column" (vs ++ zs.reverse)) := ⟨O_StillReferenced, PySem.W.mg_of X G h39, f893, h894, h895, calR E_StillReferenced (fun us ws l1 l2 => match us, ws, l1, l2 with | [_, _, _, _], [], _, _ => rfl)⟩
  have V_StillReferencedk : ExcV P wo K mg base "StillReferenced" A.StillReferenced 0 ["column", "key", "table"] (fun vs zs => spExc3 A.StillReferenced "table" "key" "column" (vs ++ zs.reverse)) := ⟨O_StillReferenced, PySem.W.mg_of X G h39, f893, h894, h895, calR E_StillReferenced (fun us ws l1 l2 => match us, ws, l1, l2 with | [_], [_, _, _], _, _ => rfl)⟩
  have O_Detached : OexC K c48 := ⟨⟨_, _, _, _, _, _, _, _, _, _, _, _, _, _, _, h939, h940⟩, h941, (EF.ec 17 (by decide)).hs, h942, h943⟩
  have S_Detached___init__ : FunS P K "__init__" "Detached.__init__" s_Detached___init__ f944 cc955 c48 ca956 _ := ⟨⟨_, _, _, _, _, _, _, _, _, rfl, h957⟩, h958, ⟨_, _, _, _, _, _, h964, h965, hfile⟩, ⟨_, _, _, h969⟩, Option.isSome_iff_exists.mp h970, h971⟩
  have M_Detached : SupE K c48 c48 := ⟨O_Detached, hany, h972, h973, h974⟩
  have E_Detached := ok_exc0 (P := P) (w := wo) (mg := mg) (base := base) S_Detached___init__ U M_Detached  ⟨rfl, rfl, rfl, by decide +kernel, rfl, by decide +kernel, by decide +kernel, by decide +kernel⟩ rfl rfl ⟨_, rfl, rfl, rfl⟩ rfl (fun _ => ⟨_, rfl⟩)
  have V_Detached : ExcV P wo K mg base "Detached" A.Detached 0 [] (fun vs zs => spExc0 A.Detached (vs ++ zs.reverse)) := ⟨O_Detached, PySem.W.mg_of X G h49, f944, h945, h946, calR E_Detached (fun us ws l1 l2 => match us, ws, l1, l2 with | [_], [], _, _ => rfl)⟩
  have O_InvalidStatement : OexC K c26 := ⟨⟨_, _, _, _, _, _, _, _, _, _, _, _, _, _, _, h990, h991⟩, h992, (EF.ec 18 (by decide)).hs, h993, h994⟩
  have S_InvalidStatement___init__ : FunS P K "__init__" "InvalidStatement.__init__" s_InvalidStatement___init__ f995 cc1006 c26 ca1007 _ := ⟨⟨_, _, _, _, _, _, _, _, _, rfl, h1008⟩, h1009, ⟨_, _, _, _, _, _, h1015, h1016, hfile⟩, ⟨_, _, _, h1020⟩, Option.isSome_iff_exists.mp h1021, h1022⟩
  have M_InvalidStatement : SupE K c26 c26 := ⟨O_InvalidStatement, hany, h1023, h1024, h1025⟩
  have E_InvalidStatement := ok_exc0 (P := P) (w := wo) (mg := mg) (base := base) S_InvalidStatement___init__ U M_InvalidStatement  ⟨rfl, rfl, rfl, by decide +kernel, rfl, by decide +kernel, by decide +kernel, by decide +kernel⟩ rfl rfl ⟨_, rfl, rfl, rfl⟩ rfl (fun _ => ⟨_, rfl⟩)
  have V_InvalidStatement : ExcV P wo K mg base "InvalidStatement" A.InvalidStatement 0 [] (fun vs zs => spExc0 A.InvalidStatement (vs ++ zs.reverse)) := ⟨O_InvalidStatement, PySem.W.mg_of X G h27, f995, h996, h997, calR E_InvalidStatement (fun us ws l1 l2 => match us, ws, l1, l2 with | [_], [], _, _ => rfl)⟩
  have O_InvalidState : OexC K c40 := ⟨⟨_, _, _, _, _, _, _, _, _, _, _, _, _, _, _, h1041, h1042⟩, h1043, (EF.ec 19 (by decide)).hs, h1044, h1045⟩
  have S_InvalidState___init__ : FunS P K "__init__" "InvalidState.__init__" s_InvalidState___init__ f1046 cc1057 c40 ca1058 _ := ⟨⟨_, _, _, _, _, _, _, _, _, rfl, h1059⟩, h1060, ⟨_, _, _, _, _, _, h1066, h1067, hfile⟩, ⟨_, _, _, h1071⟩, Option.isSome_iff_exists.mp h1072, h1073⟩
  have M_InvalidState : SupE K c40 c40 := ⟨O_InvalidState, hany, h1074, h1075, h1076⟩
  have E_InvalidState := ok_exc0 (P := P) (w := wo) (mg := mg) (base := base) S_InvalidState___init__ U M_InvalidState  ⟨rfl, rfl, rfl, by decide +kernel, rfl, by decide +kernel, by decide +kernel, by decide +kernel⟩ rfl rfl ⟨_, rfl, rfl, rfl⟩ rfl (fun _ => ⟨_, rfl⟩)
  have V_InvalidState : ExcV P wo K mg base "InvalidState" A.InvalidState 0 [] (fun vs zs => spExc0 A.InvalidState (vs ++ zs.reverse)) := ⟨O_InvalidState, PySem.W.mg_of X G h41, f1046, h1047, h1048, calR E_InvalidState (fun us ws l1 l2 => match us, ws, l1, l2 with | [_], [], _, _ => rfl)⟩
  have O_InvalidCondition : OexC K c42 := ⟨⟨_, _, _, _, _, _, _, _, _, _, _, _, _, _, _, h1092, h1093⟩, h1094, (EF.ec 20 (by decide)).hs, h1095, h1096⟩
  have S_InvalidCondition___init__ : FunS P K "__init__" "InvalidCondition.__init__" s_InvalidCondition___init__ f1097 cc1108 c42 ca1109 _ := ⟨⟨_, _, _, _, _, _, _, _, _, rfl, h1110⟩, h1111, ⟨_, _, _, _, _, _, h1117, h1118, hfile⟩, ⟨_, _, _, h1122⟩, Option.isSome_iff_exists.mp h1123, h1124⟩
  have M_InvalidCondition : SupE K c42 c42 := ⟨O_InvalidCondition, hany, h1125, h1126, h1127⟩
  have E_InvalidCondition := ok_exc0 (P := P) (w := wo) (mg := mg) (base := base) S_InvalidCondition___init__ U M_InvalidCondition  ⟨rfl, rfl, rfl, by decide +kernel, rfl, by decide +kernel, by decide +kernel, by decide +kernel⟩ rfl rfl ⟨_, rfl, rfl, rfl⟩ rfl (fun _ => ⟨_, rfl⟩)
  have V_InvalidCondition : ExcV P wo K mg base "InvalidCondition" A.InvalidCondition 0 [] (fun vs zs => spExc0 A.InvalidCondition (vs ++ zs.reverse)) := ⟨O_InvalidCondition, PySem.W.mg_of X G h43, f1097, h1098, h1099, calR E_InvalidCondition (fun us ws l1 l2 => match us, ws, l1, l2 with | [_], [], _, _ => rfl)⟩
  have O_InvalidBlock : OexC K c50 := ⟨⟨_, _, _, _, _, _, _, _, _, _, _, _, _, _, _, h1143, h1144⟩, h1145, (EF.ec 21 (by decide)).hs, h1146, h1147⟩
  have S_InvalidBlock___init__ : FunS P K "__init__" "InvalidBlock.__init__" s_InvalidBlock___init__ f1148 cc1159 c50 ca1160 _ := ⟨⟨_, _, _, _, _, _, _, _, _, rfl, h1161⟩, h1162, ⟨_, _, _, _, _, _, h1168, h1169, hfile⟩, ⟨_, _, _, h1173⟩, Option.isSome_iff_exists.mp h1174, h1175⟩
  have M_InvalidBlock : SupE K c50 c50 := ⟨O_InvalidBlock, hany, h1176, h1177, h1178⟩
  have E_InvalidBlock := ok_exc0 (P := P) (w := wo) (mg := mg) (base := base) S_InvalidBlock___init__ U M_InvalidBlock  ⟨rfl, rfl, rfl, by decide +kernel, rfl, by decide +kernel, by decide +kernel, by decide +kernel⟩ rfl rfl ⟨_, rfl, rfl, rfl⟩ rfl (fun _ => ⟨_, rfl⟩)
  have V_InvalidBlock : ExcV P wo K mg base "InvalidBlock" A.InvalidBlock 0 [] (fun vs zs => spExc0 A.InvalidBlock (vs ++ zs.reverse)) := ⟨O_InvalidBlock, PySem.W.mg_of X G h51, f1148, h1149, h1150, calR E_InvalidBlock (fun us ws l1 l2 => match us, ws, l1, l2 with | [_], [], _, _ => rfl)⟩
  have VE : ErV P wo K mg base A := ⟨V_InvalidName, V_InvalidNamek, V_InvalidColumn, V_InvalidColumnk, V_InvalidGroup, V_InvalidGroupk, V_UnknownTable, V_UnknownTablek, V_UnknownColumn, V_UnknownColumnk, V_InvalidKey, V_InvalidKeyk, V_InvalidValue, V_InvalidValuek, V_PermanentRow, V_PermanentRowk, V_Restricted, V_Restrictedk, V_Stale, V_Stalek, V_InvalidLog, V_InvalidLogk, V_InvalidText, V_InvalidTextk, V_KeyExists, V_KeyExistsk, V_KeyMissing, V_KeyMissingk, V_DuplicateValue, V_DuplicateValuek, V_MissingTarget, V_MissingTargetk, V_StillReferenced, V_StillReferencedk, V_Detached, V_InvalidStatement, V_InvalidState, V_InvalidCondition, V_InvalidBlock⟩
  have F__law_thing := fun_mk (st := s__law_thing) h1190 h1191 h1192
  have O__law_thing := ok_thing (P := P) (wo := wo) (base := base) F__law_thing T
  have Gth : GFn P wo K mg base _ "_law_thing" _ _ _ := ⟨f1179, PySem.W.mg_of X G h1180, h1192, cal0 O__law_thing (F__law_thing.binds (ps := ["_law_script", "_law_at"]) fun _ _ _ _ _ _ us hl => match us, hl with | [_, _], _ => rfl) rfl⟩
  have F__law_single := fun_mk (st := s__law_single) h1204 h1205 h1206
  have O__law_single := ok_single F__law_single T EF VE
  have Gsi : GFn P wo K mg base _ "_law_single" _ _ _ := ⟨f1193, PySem.W.mg_of X G h1194, h1206, cal0 O__law_single (F__law_single.binds (ps := ["_law_way", "_law_thing_here"]) fun _ _ _ _ _ _ us hl => match us, hl with | [_, _], _ => rfl) rfl⟩
  have F__law_attribute := fun_mk (st := s__law_attribute) h1218 h1219 h1220
  have O__law_attribute := ok_attr (P := P) (wo := wo) (base := base) F__law_attribute T EF
  have Gat : GFn P wo K mg base _ "_law_attribute" _ _ _ := ⟨f1207, PySem.W.mg_of X G h1208, h1220, cal0 O__law_attribute (F__law_attribute.binds (ps := ["_law_error", "_law_way"]) fun _ _ _ _ _ _ us hl => match us, hl with | [_, _], _ => rfl) rfl⟩
  have F__law_several := fun_mk (st := s__law_several) h1232 h1233 h1234
  have O__law_several := ok_sev F__law_several T VE
  have Gse : GFn P wo K mg base _ "_law_several" _ _ _ := ⟨f1221, PySem.W.mg_of X G h1222, h1234, cal0 O__law_several (F__law_several.binds (ps := ["_law_one", "_law_two", "_law_three"]) fun _ _ _ _ _ _ us hl => match us, hl with | [_, _, _], _ => rfl) rfl⟩
  have F__law_several_right := fun_mk (st := s__law_several_right) h1246 h1247 h1248
  have O__law_several_right := ok_sr F__law_several_right T EF Gse
  have Gsr : GFg P wo K mg base _ "_law_several_right" _ _ _ := ⟨f1235, PySem.W.mg_of X G h1236, h1248, calG0 O__law_several_right (F__law_several_right.binds (ps := ["_law_one", "_law_two", "_law_three"]) fun _ _ _ _ _ _ us hl => match us, hl with | [_, _, _], _ => rfl) rfl⟩
  have F__law_marks := fun_mk (st := s__law_marks) h1260 h1261 h1262
  have O__law_marks := ok_marks (P := P) (wo := wo) (base := base) F__law_marks T EF
  have Gma : GFn P wo K mg base _ "_law_marks" _ _ _ := ⟨f1249, PySem.W.mg_of X G h1250, h1262, cal0 O__law_marks (F__law_marks.binds (ps := ["_law_error"]) fun _ _ _ _ _ _ us hl => match us, hl with | [_], _ => rfl) rfl⟩
  have F_law := fun_mk (st := s_law) h1274 h1275 h1276
  exact ok_law F_law T EF VE Gth Gsi Gat Gse Gsr Gma

theorem walk {l : PySem.W.OpenLaw} {q : Program} {loose : List Str} {XP : (Str → Option Value) → Heap → Prop} {YP : World → Heap → Prop} {d : DefRec} {K : Params → PySem.W.Frag} (hn : l.most = some 63) (hdf : d.params.defaults = [])
    (hY : ∀ (w : World) (h : Heap), YP w h → (K w.params).In h)
    (F : ∀ (w : World) (mg : Str → Option Value) (fa : Addr) (h : Heap), (K w.params).In h → h.Ns mainGlobals mg → mg d.name = some (.ref fa) →
      ∃ fd : FuncData, (∀ (s : Shared) (u : Value), BindsTo s fd ⟨[u], []⟩ [("_law_script", u)]) ∧ ∀ base : Heap, (K w.params).In base → base.Ns mainGlobals mg → FnG l.prog w (K w.params) mg base (L2.CX l.prog w) 5 fa fd ["_law_script"] (spLaw (K w.params))) :
    PySem.W.WalkO q loose XP YP l.row.toRowW d [] (fun f vs => PySem.call f vs) :=
  Sw.walk_ofG (n := 63) (k := 5) (x := "_law_script") (CX := fun w => L2.CX l.prog w) (sp := fun w => spLaw (K w.params)) hn (by rw [sizeLine_eq]; decide) hdf ⟨rfl, by decide, by decide⟩ hY F (fun _ _ a ns hl _ hS => ⟨a, ns, rfl, hS, fun _ => rfl⟩) fun _ _ _ _ _ ⟨_, _, _, _, _, _, _, _, _, _, _, _, z⟩ => z
end Sv

open PySem PySem.W PyProof.Rows in
set_option maxRecDepth 100000 in
set_option maxHeartbeats 0 in
theorem PySem.Challenge.cw_savewise_k53_errors_made_holds : PySem.Challenge.rw_savewise_k53_errors_made.Holds := by
  w_on; o_law; k_head; (case hw => w_witness2)
  k_fill
  refine Sv.walk (l := PySem.Challenge.rw_savewise_k53_errors_made) rfl rfl (fun w h Y => PySem.W.kIn_of Y) ?F
  case F =>
    intro w mg fa h KX G hmg
    refine' Sv.all_mk KX G hmg (by decide +kernel) (by decide +kernel) ?h1 ?h2 ?h3 ?h4 ?h5 ?h6 ?h7 ?h8 ?h9 ?h11 ?h13 ?h15 ?h17 ?h19 ?h21 ?h23 ?h25 ?h27 ?h29 ?h31 ?h33 ?h35 ?h37 ?h39 ?h41 ?h43 ?h45 ?h47 ?h49 ?h51 ?h53 ?h55 ?h56 ?h72 ?h73 ?h74 ?h75 ?h76 ?h78 ?h79 ?h90 ?h91 ?h97 ?h98 ?h102 ?h103 ?h104 ?h105 ?h106 ?h107 ?h123 ?h124 ?h125 ?h126 ?h127 ?h129 ?h130 ?h141 ?h142 ?h148 ?h149 ?h153 ?h154 ?h155 ?h156 ?h157 ?h158 ?h174 ?h175 ?h176 ?h177 ?h178 ?h180 ?h181 ?h192 ?h193 ?h199 ?h200 ?h204 ?h205 ?h206 ?h207 ?h208 ?h209 ?h225 ?h226 ?h227 ?h228 ?h229 ?h231 ?h232 ?h243 ?h244 ?h250 ?h251 ?h255 ?h256 ?h257 ?h258 ?h259 ?h260 ?h276 ?h277 ?h278 ?h279 ?h280 ?h282 ?h283 ?h294 ?h295 ?h301 ?h302 ?h306 ?h307 ?h308 ?h309 ?h310 ?h311 ?h327 ?h328 ?h329 ?h330 ?h331 ?h333 ?h334 ?h345 ?h346 ?h352 ?h353 ?h357 ?h358 ?h359 ?h360 ?h361 ?h362 ?h378 ?h379 ?h380 ?h381 ?h382 ?h384 ?h385 ?h396 ?h397 ?h403 ?h404 ?h408 ?h409 ?h410 ?h411 ?h412 ?h413 ?h429 ?h430 ?h431 ?h432 ?h433 ?h435 ?h436 ?h447 ?h448 ?h454 ?h455 ?h459 ?h460 ?h461 ?h462 ?h463 ?h464 ?h480 ?h481 ?h482 ?h483 ?h484 ?h486 ?h487 ?h498 ?h499 ?h505 ?h506 ?h510 ?h511 ?h512 ?h513 ?h514 ?h515 ?h531 ?h532 ?h533 ?h534 ?h535 ?h537 ?h538 ?h549 ?h550 ?h556 ?h557 ?h561 ?h562 ?h563 ?h564 ?h565 ?h566 ?h582 ?h583 ?h584 ?h585 ?h586 ?h588 ?h589 ?h600 ?h601 ?h607 ?h608 ?h612 ?h613 ?h614 ?h615 ?h616 ?h617 ?h633 ?h634 ?h635 ?h636 ?h637 ?h639 ?h640 ?h651 ?h652 ?h658 ?h659 ?h663 ?h664 ?h665 ?h666 ?h667 ?h668 ?h684 ?h685 ?h686 ?h687 ?h688 ?h690 ?h691 ?h702 ?h703 ?h709 ?h710 ?h714 ?h715 ?h716 ?h717 ?h718 ?h719 ?h735 ?h736 ?h737 ?h738 ?h739 ?h741 ?h742 ?h753 ?h754 ?h760 ?h761 ?h765 ?h766 ?h767 ?h768 ?h769 ?h770 ?h786 ?h787 ?h788 ?h789 ?h790 ?h792 ?h793 ?h804 ?h805 ?h811 ?h812 ?h816 ?h817 ?h818 ?h819 ?h820 ?h821 ?h837 ?h838 ?h839 ?h840 ?h841 ?h843 ?h844 ?h855 ?h856 ?h862 ?h863 ?h867 ?h868 ?h869 ?h870 ?h871 ?h872 ?h888 ?h889 ?h890 ?h891 ?h892 ?h894 ?h895 ?h906 ?h907 ?h913 ?h914 ?h918 ?h919 ?h920 ?h921 ?h922 ?h923 ?h939 ?h940 ?h941 ?h942 ?h943 ?h945 ?h946 ?h957 ?h958 ?h964 ?h965 ?h969 ?h970 ?h971 ?h972 ?h973 ?h974 ?h990 ?h991 ?h992 ?h993 ?h994 ?h996 ?h997 ?h1008 ?h1009 ?h1015 ?h1016 ?h1020 ?h1021 ?h1022 ?h1023 ?h1024 ?h1025 ?h1041 ?h1042 ?h1043 ?h1044 ?h1045 ?h1047 ?h1048 ?h1059 ?h1060 ?h1066 ?h1067 ?h1071 ?h1072 ?h1073 ?h1074 ?h1075 ?h1076 ?h1092 ?h1093 ?h1094 ?h1095 ?h1096 ?h1098 ?h1099 ?h1110 ?h1111 ?h1117 ?h1118 ?h1122 ?h1123 ?h1124 ?h1125 ?h1126 ?h1127 ?h1143 ?h1144 ?h1145 ?h1146 ?h1147 ?h1149 ?h1150 ?h1161 ?h1162 ?h1168 ?h1169 ?h1173 ?h1174 ?h1175 ?h1176 ?h1177 ?h1178 ?h1180 ?h1190 ?h1191 ?h1192 ?h1194 ?h1204 ?h1205 ?h1206 ?h1208 ?h1218 ?h1219 ?h1220 ?h1222 ?h1232 ?h1233 ?h1234 ?h1236 ?h1246 ?h1247 ?h1248 ?h1250 ?h1260 ?h1261 ?h1262 ?h1264 ?h1274 ?h1275 ?h1276
    (case h1 => k_is)
    (case h2 => k_is)
    (case h3 => k_is)
    (case h4 => k_is)
    (case h5 => k_is)
    (case h6 => k_is)
    (case h7 => k_is)
    (case h8 => k_is)
    (case h9 => k_is)
    (case h11 => k_is)
    (case h13 => k_is)
    (case h15 => k_is)
    (case h17 => k_is)
    (case h19 => k_is)
    (case h21 => k_is)
    (case h23 => k_is)
    (case h25 => k_is)
    (case h27 => k_is)
    (case h29 => k_is)
    (case h31 => k_is)
    (case h33 => k_is)
    (case h35 => k_is)
    (case h37 => k_is)
    (case h39 => k_is)
    (case h41 => k_is)
    (case h43 => k_is)
    (case h45 => k_is)
    (case h47 => k_is)
    (case h49 => k_is)
    (case h51 => k_is)
    (case h53 => k_is)
    (case h55 => k_is)
    (case h56 => kernel_rfl)
    (case h72 => k_is)
    (case h73 => decide +kernel)
    (case h74 => k_is)
    (case h75 => k_is)
    (case h76 => k_is)
    (case h78 => k_is)
    (case h79 => k_is)
    (case h90 => k_is)
    (case h91 => k_is)
    (case h97 => k_is)
    (case h98 => rfl)
    (case h102 => k_is)
    (case h103 => k_is)
    (case h104 => k_is)
    (case h105 => ks_is)
    (case h106 => k_is)
    (case h107 => k_is)
    (case h123 => k_is)
    (case h124 => decide +kernel)
    (case h125 => k_is)
    (case h126 => k_is)
    (case h127 => k_is)
    (case h129 => k_is)
    (case h130 => k_is)
    (case h141 => k_is)
    (case h142 => k_is)
    (case h148 => k_is)
    (case h149 => rfl)
    (case h153 => k_is)
    (case h154 => k_is)
    (case h155 => k_is)
    (case h156 => ks_is)
    (case h157 => k_is)
    (case h158 => k_is)
    (case h174 => k_is)
    (case h175 => decide +kernel)
    (case h176 => k_is)
    (case h177 => k_is)
    (case h178 => k_is)
    (case h180 => k_is)
    (case h181 => k_is)
    (case h192 => k_is)
    (case h193 => k_is)
    (case h199 => k_is)
    (case h200 => rfl)
    (case h204 => k_is)
    (case h205 => k_is)
    (case h206 => k_is)
    (case h207 => ks_is)
    (case h208 => k_is)
    (case h209 => k_is)
    (case h225 => k_is)
    (case h226 => decide +kernel)
    (case h227 => k_is)
    (case h228 => k_is)
    (case h229 => k_is)
    (case h231 => k_is)
    (case h232 => k_is)
    (case h243 => k_is)
    (case h244 => k_is)
    (case h250 => k_is)
    (case h251 => rfl)
    (case h255 => k_is)
    (case h256 => k_is)
    (case h257 => k_is)
    (case h258 => ks_is)
    (case h259 => k_is)
    (case h260 => k_is)
    (case h276 => k_is)
    (case h277 => decide +kernel)
    (case h278 => k_is)
    (case h279 => k_is)
    (case h280 => k_is)
    (case h282 => k_is)
    (case h283 => k_is)
    (case h294 => k_is)
    (case h295 => k_is)
    (case h301 => k_is)
    (case h302 => rfl)
    (case h306 => k_is)
    (case h307 => k_is)
    (case h308 => k_is)
    (case h309 => ks_is)
    (case h310 => k_is)
    (case h311 => k_is)
    (case h327 => k_is)
    (case h328 => decide +kernel)
    (case h329 => k_is)
    (case h330 => k_is)
    (case h331 => k_is)
    (case h333 => k_is)
    (case h334 => k_is)
    (case h345 => k_is)
    (case h346 => k_is)
    (case h352 => k_is)
    (case h353 => rfl)
    (case h357 => k_is)
    (case h358 => k_is)
    (case h359 => k_is)
    (case h360 => ks_is)
    (case h361 => k_is)
    (case h362 => k_is)
    (case h378 => k_is)
    (case h379 => decide +kernel)
    (case h380 => k_is)
    (case h381 => k_is)
    (case h382 => k_is)
    (case h384 => k_is)
    (case h385 => k_is)
    (case h396 => k_is)
    (case h397 => k_is)
    (case h403 => k_is)
    (case h404 => rfl)
    (case h408 => k_is)
    (case h409 => k_is)
    (case h410 => k_is)
    (case h411 => ks_is)
    (case h412 => k_is)
    (case h413 => k_is)
    (case h429 => k_is)
    (case h430 => decide +kernel)
    (case h431 => k_is)
    (case h432 => k_is)
    (case h433 => k_is)
    (case h435 => k_is)
    (case h436 => k_is)
    (case h447 => k_is)
    (case h448 => k_is)
    (case h454 => k_is)
    (case h455 => rfl)
    (case h459 => k_is)
    (case h460 => k_is)
    (case h461 => k_is)
    (case h462 => ks_is)
    (case h463 => k_is)
    (case h464 => k_is)
    (case h480 => k_is)
    (case h481 => decide +kernel)
    (case h482 => k_is)
    (case h483 => k_is)
    (case h484 => k_is)
    (case h486 => k_is)
    (case h487 => k_is)
    (case h498 => k_is)
    (case h499 => k_is)
    (case h505 => k_is)
    (case h506 => rfl)
    (case h510 => k_is)
    (case h511 => k_is)
    (case h512 => k_is)
    (case h513 => ks_is)
    (case h514 => k_is)
    (case h515 => k_is)
    (case h531 => k_is)
    (case h532 => decide +kernel)
    (case h533 => k_is)
    (case h534 => k_is)
    (case h535 => k_is)
    (case h537 => k_is)
    (case h538 => k_is)
    (case h549 => k_is)
    (case h550 => k_is)
    (case h556 => k_is)
    (case h557 => rfl)
    (case h561 => k_is)
    (case h562 => k_is)
    (case h563 => k_is)
    (case h564 => ks_is)
    (case h565 => k_is)
    (case h566 => k_is)
    (case h582 => k_is)
    (case h583 => decide +kernel)
    (case h584 => k_is)
    (case h585 => k_is)
    (case h586 => k_is)
    (case h588 => k_is)
    (case h589 => k_is)
    (case h600 => k_is)
    (case h601 => k_is)
    (case h607 => k_is)
    (case h608 => rfl)
    (case h612 => k_is)
    (case h613 => k_is)
    (case h614 => k_is)
    (case h615 => ks_is)
    (case h616 => k_is)
    (case h617 => k_is)
    (case h633 => k_is)
    (case h634 => decide +kernel)
    (case h635 => k_is)
    (case h636 => k_is)
    (case h637 => k_is)
    (case h639 => k_is)
    (case h640 => k_is)
    (case h651 => k_is)
    (case h652 => k_is)
    (case h658 => k_is)
    (case h659 => rfl)
    (case h663 => k_is)
    (case h664 => k_is)
    (case h665 => k_is)
    (case h666 => ks_is)
    (case h667 => k_is)
    (case h668 => k_is)
    (case h684 => k_is)
    (case h685 => decide +kernel)
    (case h686 => k_is)
    (case h687 => k_is)
    (case h688 => k_is)
    (case h690 => k_is)
    (case h691 => k_is)
    (case h702 => k_is)
    (case h703 => k_is)
    (case h709 => k_is)
    (case h710 => rfl)
    (case h714 => k_is)
    (case h715 => k_is)
    (case h716 => k_is)
    (case h717 => ks_is)
    (case h718 => k_is)
    (case h719 => k_is)
    (case h735 => k_is)
    (case h736 => decide +kernel)
    (case h737 => k_is)
    (case h738 => k_is)
    (case h739 => k_is)
    (case h741 => k_is)
    (case h742 => k_is)
    (case h753 => k_is)
    (case h754 => k_is)
    (case h760 => k_is)
    (case h761 => rfl)
    (case h765 => k_is)
    (case h766 => k_is)
    (case h767 => k_is)
    (case h768 => ks_is)
    (case h769 => k_is)
    (case h770 => k_is)
    (case h786 => k_is)
    (case h787 => decide +kernel)
    (case h788 => k_is)
    (case h789 => k_is)
    (case h790 => k_is)
    (case h792 => k_is)
    (case h793 => k_is)
    (case h804 => k_is)
    (case h805 => k_is)
    (case h811 => k_is)
    (case h812 => rfl)
    (case h816 => k_is)
    (case h817 => k_is)
    (case h818 => k_is)
    (case h819 => ks_is)
    (case h820 => k_is)
    (case h821 => k_is)
    (case h837 => k_is)
    (case h838 => decide +kernel)
    (case h839 => k_is)
    (case h840 => k_is)
    (case h841 => k_is)
    (case h843 => k_is)
    (case h844 => k_is)
    (case h855 => k_is)
    (case h856 => k_is)
    (case h862 => k_is)
    (case h863 => rfl)
    (case h867 => k_is)
    (case h868 => k_is)
    (case h869 => k_is)
    (case h870 => ks_is)
    (case h871 => k_is)
    (case h872 => k_is)
    (case h888 => k_is)
    (case h889 => decide +kernel)
    (case h890 => k_is)
    (case h891 => k_is)
    (case h892 => k_is)
    (case h894 => k_is)
    (case h895 => k_is)
    (case h906 => k_is)
    (case h907 => k_is)
    (case h913 => k_is)
    (case h914 => rfl)
    (case h918 => k_is)
    (case h919 => k_is)
    (case h920 => k_is)
    (case h921 => ks_is)
    (case h922 => k_is)
    (case h923 => k_is)
    (case h939 => k_is)
    (case h940 => decide +kernel)
    (case h941 => k_is)
    (case h942 => k_is)
    (case h943 => k_is)
    (case h945 => k_is)
    (case h946 => k_is)
    (case h957 => k_is)
    (case h958 => k_is)
    (case h964 => k_is)
    (case h965 => rfl)
    (case h969 => k_is)
    (case h970 => k_is)
    (case h971 => k_is)
    (case h972 => ks_is)
    (case h973 => k_is)
    (case h974 => k_is)
    (case h990 => k_is)
    (case h991 => decide +kernel)
    (case h992 => k_is)
    (case h993 => k_is)
    (case h994 => k_is)
    (case h996 => k_is)
    (case h997 => k_is)
    (case h1008 => k_is)
    (case h1009 => k_is)
    (case h1015 => k_is)
    (case h1016 => rfl)
    (case h1020 => k_is)
    (case h1021 => k_is)
    (case h1022 => k_is)
    (case h1023 => ks_is)
    (case h1024 => k_is)
    (case h1025 => k_is)
    (case h1041 => k_is)
    (case h1042 => decide +kernel)
    (case h1043 => k_is)
    (case h1044 => k_is)
    (case h1045 => k_is)
    (case h1047 => k_is)
    (case h1048 => k_is)
    (case h1059 => k_is)
    (case h1060 => k_is)
    (case h1066 => k_is)
    (case h1067 => rfl)
    (case h1071 => k_is)
    (case h1072 => k_is)
    (case h1073 => k_is)
    (case h1074 => ks_is)
    (case h1075 => k_is)
    (case h1076 => k_is)
    (case h1092 => k_is)
    (case h1093 => decide +kernel)
    (case h1094 => k_is)
    (case h1095 => k_is)
    (case h1096 => k_is)
    (case h1098 => k_is)
    (case h1099 => k_is)
    (case h1110 => k_is)
    (case h1111 => k_is)
    (case h1117 => k_is)
    (case h1118 => rfl)
    (case h1122 => k_is)
    (case h1123 => k_is)
    (case h1124 => k_is)
    (case h1125 => ks_is)
    (case h1126 => k_is)
    (case h1127 => k_is)
    (case h1143 => k_is)
    (case h1144 => decide +kernel)
    (case h1145 => k_is)
    (case h1146 => k_is)
    (case h1147 => k_is)
    (case h1149 => k_is)
    (case h1150 => k_is)
    (case h1161 => k_is)
    (case h1162 => k_is)
    (case h1168 => k_is)
    (case h1169 => rfl)
    (case h1173 => k_is)
    (case h1174 => k_is)
    (case h1175 => k_is)
    (case h1176 => ks_is)
    (case h1177 => k_is)
    (case h1178 => k_is)
    (case h1180 => k_is)
    (case h1190 => k_is)
    (case h1191 => k_is)
    (case h1192 => k_is)
    (case h1194 => k_is)
    (case h1204 => k_is)
    (case h1205 => k_is)
    (case h1206 => k_is)
    (case h1208 => k_is)
    (case h1218 => k_is)
    (case h1219 => k_is)
    (case h1220 => k_is)
    (case h1222 => k_is)
    (case h1232 => k_is)
    (case h1233 => k_is)
    (case h1234 => k_is)
    (case h1236 => k_is)
    (case h1246 => k_is)
    (case h1247 => k_is)
    (case h1248 => k_is)
    (case h1250 => k_is)
    (case h1260 => k_is)
    (case h1261 => k_is)
    (case h1262 => k_is)
    (case h1264 => k_is)
    (case h1274 => k_is)
    (case h1275 => k_is)
    (case h1276 => k_is)
