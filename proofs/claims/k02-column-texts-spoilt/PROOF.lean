import PyProof.Rows.All
import Wide.All
import OpenK.AllK
import Wide.FinOn
import KE.KExcSuper
import HandS.ForMost
import HandS.Exc
import HandS.ExcOwn
import HandS.ExcInit
import HandS.WordsExc
import HandS.ClsMeth
import HandS.Defaults
import HandS.Property
import HandS.MakeKwOnly
import HandS.TryOnly
import HandS.TryMany
import HandS.ExcIs
import HandS.IsInst
import HandS.Flow
import HandS.Style
import HandS.Steps
import HandS.StrMore
import HandS.TupAny
import HandS.Evl
import KE.KUnpackStar
import KE.KTryMore
import HandS.Star
import HandS.ExcField
import PySem.Challenge.RW_savewise_k02_column_texts_spoilt
import KE.RegKSuper
set_option Elab.async false
set_option linter.all false
set_option maxRecDepth 100000
set_option maxHeartbeats 4000000
/-! SwSup: defs with super() (a closure over the class), by wpAt; super().m(..); the __init__ of an own exception that says super().__init__(text). -/
namespace Sw
open PySem PySem.Spec PyProof.Rows L2

structure SScope (N P : List Str) (sc : Scope) : Prop where
  kind : sc.kind = .function
  co : sc.isCoroutine = false
  gen : sc.isGenerator = false
  nd : N.Nodup
  pre : N.take P.length = P
  par : ∀ x ∈ P, sc.names.lookup x = some .local
  nocell : ∀ y ∈ sc.names, y.2 ≠ .cell
  free : ∀ y ∈ sc.names, y.2 = .free → y.1 = "__class__"

def cxS (CX : CXT) (P : Program) (w : World) (K : PySem.W.Frag) (mg : Str → Option Value) (base : Heap) (N : List Str) (qual : Str) (scope : Scope) (f : Addr) (cd : Value) (cc : Addr) (A : Around) (outer : List Env) (s : Shared) (H : Hp) (E : XK) : Cx where
  prog := P
  w := w
  K := K
  mg := mg
  base := base
  A := A.deeper (PySem.W.ksEnv qual scope s.heap.objs.size f cd cc)
  N := N
  s_0 := s
  H_0 := H
  env := PySem.W.ksEnv qual scope s.heap.objs.size f cd cc
  outer := outer
  stack := PySem.W.ksEnv qual scope s.heap.objs.size f cd cc :: outer
  ex := []
  calm := true
  fn := fun _ => false
  pn := []
  xe := fun e s' => wpAny (model P w) (A.deeper (PySem.W.ksEnv qual scope s.heap.objs.size f cd cc)) (leaving (PySem.W.ksEnv qual scope s.heap.objs.size f cd cc) e) (fun _ s'' => CX outer H s E e s'') (fun e' s'' => CX outer H s E e' s'') s'

theorem zip_fst_sub : ∀ (ps : List Str) (us : List Value), ((ps.zip us).map (·.1)).Sublist ps
  | [], _ => by simp
  | _ :: _, [] => by simp
  | p :: ps, u :: us => by
    rw [List.zip_cons_cons, List.map_cons]
    exact (zip_fst_sub ps us).cons_cons p
theorem zip_rev_look : ∀ {ps : List Str} {us : List Value} {i : Nat} {x : Str} {u : Value}, ps.Nodup → ps[i]? = some x → us[i]? = some u → (ps.zip us).reverse.lookup x = some u := by
  intro ps us i x u nd hp hu
  have hmem : (x, u) ∈ (ps.zip us).reverse := by
    rw [List.mem_reverse]
    refine List.mem_iff_getElem?.mpr ⟨i, ?_⟩
    rw [List.getElem?_zip_eq_some]
    exact ⟨hp, hu⟩
  have key : ∀ (l : List (Str × Value)), (l.map (·.1)).Nodup → (x, u) ∈ l → l.lookup x = some u := by
    intro l
    induction l with
    | nil => intro _ h; cases h
    | cons p l ih =>
      intro hn hm
      obtain ⟨y, v⟩ := p
      rw [List.map_cons, List.nodup_cons] at hn
      rcases List.mem_cons.mp hm with e | hm
      · injection e with e1 e2
        subst e1 e2
        simp [List.lookup]
      · have hne : x ≠ y := fun e => hn.1 (by rw [← e]; exact List.mem_map_of_mem (f := (·.1)) hm)
        have hb : (x == y) = false := by simpa using hne
        rw [List.lookup, hb]
        exact ih hn.2 hm
  refine key _ ?_ hmem
  rw [List.map_reverse]
  refine List.pairwise_reverse.mpr (List.Pairwise.imp (fun h => Ne.symm h) ?_)
  exact nd.sublist (zip_fst_sub ps us)

section
variable {CX : CXT} {P : Program} {w : World} {K : PySem.W.Frag} {mg : Str → Option Value} {base : Heap} {N ps : List Str} {qual : Str} {scope : Scope} {f cc D : Addr} {cd : Value} {A : Around} {outer : List Env} {s : Shared} {H : Hp} {E : XK} {us : List Value} {vs : List V}
theorem inv_startS {h₁ : Heap} {tk : Nat} {cl : Value} {cld : Option Addr} {csl : Array (Option Value)} (S : SScope N ps scope) (hd : A.handled = none) (e0 : Env0 P w K mg base A outer s H) (hl : vs.length = ps.length) (r : Vals vs us)
    (hcc : K.lookup cc = some ⟨cl, cld, .cell (some (.ref D)), csl⟩) (hns : h₁.Ns s.heap.objs.size fun y => (ps.zip us).reverse.lookup y) (hk : ∀ b o, s.heap.get? b = some o → h₁.get? b = some o) :
    Inv (cxS CX P w K mg base N qual scope f cd cc A outer s H E) [] (L2.start N vs) H { s with heap := h₁, toks := tk } := by
  have hpl : ps.length ≤ N.length := by have := congrArg List.length S.pre; rw [List.length_take] at this; omega
  have noA : ∀ b : Addr, b ∉ (cxS CX P w K mg base N qual scope f cd cc A outer s H E).ex := fun b z => absurd (show b ∈ ([] : List Addr) from z) (by simp)
  have hbc : base.get? cc = some ⟨cl, cld, .cell (some (.ref D)), csl⟩ := e0.mod.kin _ _ hcc
  have look1 : ∀ {x : Str} {c : Addr}, (cxS CX P w K mg base N qual scope f cd cc A outer s H E).env.cells.lookup x = some c → x = "__class__" ∧ c = cc := fun {x c} h => by
    have h' : List.lookup x [(("__class__" : Str), cc)] = some c := h
    by_cases e : x = "__class__"
    · subst e
      simp [List.lookup] at h'
      exact ⟨rfl, h'.symm⟩
    · have eb : (x == ("__class__" : Str)) = false := by simpa using e
      simp [List.lookup, eb] at h'
  refine ⟨⟨e0.mod, S.kind, rfl, rfl, Nat.le_refl _, fun y z c h1 h2 => (look1 h1).1.trans (look1 h2).1.symm, fun y hy => ?_, fun y c h => (Bool.noConfusion h), fun _ => hd, Around.frames_deeper e0.frames, .inr ⟨rfl, rfl⟩, fun b z => absurd z (noA b), e0.bs, e0.bsz, fun b _ _ => noA b, fun b z => absurd z (noA b), e0.funs, e0.frf⟩,
    rfl, e0.bare, Un.kept hk, ⟨_, hns, fun i y v h1 h2 h3 => ?_⟩, fun y c h => ?_, e0.hok.fresh (Nat.le_refl _), fun y c h => ?_, fun p hp => absurd (show p ∈ ([] : List (Addr × Obj)) from hp) (by simp), e0.hok.kept hk, ?_⟩
  · have hy : scope.names.lookup y = some .cell ∨ scope.names.lookup y = some .free := hy
    rcases hy with hy | hy
    · exact absurd rfl (S.nocell _ (PySem.mem_of_lookup hy))
    · have e := S.free _ (PySem.mem_of_lookup hy) rfl
      have e' : y = "__class__" := e
      exact ⟨cc, by subst e'; show List.lookup _ [_] = _; simp [List.lookup]⟩
  · have hi : i < vs.length := by
      unfold L2.start at h2
      by_cases hi : i < vs.length
      · exact hi
      · rw [List.getElem?_append_right (by simpa using hi)] at h2
        rw [List.getElem?_replicate] at h2
        split at h2 <;> cases h2
    have ha : vs[i]? = some v := by
      unfold L2.start at h2
      rw [List.getElem?_append_left (by simpa using hi), List.getElem?_map] at h2
      cases e : vs[i]? with
      | none => rw [e] at h2; cases h2
      | some a => rw [e] at h2; cases h2; rfl
    obtain ⟨u, hu, rv⟩ := r.get ha
    have hp : ps[i]? = some y := by
      rw [← S.pre, List.getElem?_take_of_lt (by omega)]; exact h1
    have ndP : ps.Nodup := by rw [← S.pre]; exact S.nd.sublist (List.take_sublist _ _)
    exact ⟨u, rv, .inl ⟨S.par y (List.mem_of_getElem? hp), zip_rev_look ndP hp hu⟩⟩
  · obtain ⟨_, rfl⟩ := look1 h
    exact ⟨_, _, hk _ _ (e0.bs _ _ hbc).1, rfl⟩
  · obtain ⟨_, rfl⟩ := look1 h
    exact (e0.bs _ _ hbc).2
  · unfold L2.start
    show _ = N.length
    rw [List.length_append, List.length_map, List.length_replicate]
    omega
end

/-! ### the judgements at the body's own activation -/
structure PSt (X : Cx) (body : List Stmt) (st : Stmt) (t : TS) : Prop where
  run : ∀ (pins : List (Addr × Obj)) (s : Shared) (σ : L2.St) (H : Hp) (D : Ends), Inv X pins σ H s → t D σ H → _root_.PySem.wpAt (model X.prog X.w) X.A (.func body X.env) (exec st X.env) (SP X pins D) X.xe s
structure PSst (X : Cx) (body : List Stmt) (st : List Stmt) (t : TS) : Prop where
  run : ∀ (pins : List (Addr × Obj)) (s : Shared) (σ : L2.St) (H : Hp) (D : Ends), Inv X pins σ H s → t D σ H → _root_.PySem.wpAt (model X.prog X.w) X.A (.func body X.env) (execs st X.env) (SP X pins D) X.xe s
structure PEt (X : Cx) (body : List Stmt) (e : Expr) (t : TE) : Prop where
  run : ∀ (pins : List (Addr × Obj)) (s : Shared) (σ : L2.St) (H : Hp) (Q : VK), Inv X pins σ H s → t σ H Q → _root_.PySem.wpAt (model X.prog X.w) X.A (.func body X.env) (eval e X.env) (EP X pins σ Q) X.xe s
section
variable {X : Cx} {body : List Stmt} {st : Stmt} {rest : List Stmt} {t u : TS} {e : Expr} {te : TE} {pos : Pos}
theorem PSt.of (h : PS X st t) : PSt X body st t := ⟨fun pins s σ H D I hw => wpAt_of_wpAny (h.run pins s σ H D I hw)⟩
theorem PSst.of (h : PSs X rest t) : PSst X body rest t := ⟨fun pins s σ H D I hw => wpAt_of_wpAny (h.run pins s σ H D I hw)⟩
theorem PEt.of (h : PE X e te) : PEt X body e te := ⟨fun pins s σ H Q I hw => wpAt_of_wpAny (h.run pins s σ H Q I hw)⟩
theorem PSst.cons (h1 : PSt X body st t) (h2 : PSst X body rest u) : PSst X body (st :: rest) (tSeq t u) := by
  refine ⟨fun pins s σ H D I h => ?_⟩
  refine ks_wpAt_execs_cons (ks_wpAt_mono (h1.run pins s σ H { D with nx := u D } I h) (fun f s1 q => ?_) fun _ _ z => z)
  cases f with
  | next =>
    obtain ⟨σ', H', I', q⟩ := q
    exact h2.run pins s1 σ' H' D I' q
  | ret v => exact q
  | brk => exact q
  | cont => exact q
theorem PSst.one (h1 : PSt X body st t) : PSst X body [st] t := by
  refine ⟨fun pins s σ H D I h => ?_⟩
  refine ks_wpAt_execs_cons (ks_wpAt_mono (h1.run pins s σ H D I h) (fun f s1 q => ?_) fun _ _ z => z)
  cases f with
  | next => exact wpAt_of_wpAny (wpAny_execs_nil q)
  | ret v => exact q
  | brk => exact q
  | cont => exact q
theorem pst_expr (he : PEt X body e te) (hs : swapsWith e none pos.line X.env = pure false := by rfl) : PSt X body (.Expr e pos) (tDrop te) := by
  refine ⟨fun pins s σ H D I h => ?_⟩
  exact ks_wpAt_Expr_any (ks_wpAt_mono (he.run pins s σ H _ I h) (fun v s1 ⟨x, H1, I1, r1, q1⟩ => ⟨σ, H1, I1, q1⟩) fun _ _ z => z) I.quiet hs
theorem pst_ret (he : PEt X body e te) : PSt X body (.Return (some e) pos) (tRet te) := by
  refine ⟨fun pins s σ H D I h => ?_⟩
  exact ks_wpAt_Return_some (ks_wpAt_mono (he.run pins s σ H _ I h) (fun v s1 ⟨x, H1, I1, r1, q1⟩ => ⟨x, σ, H1, I1, r1, q1⟩) fun _ _ z => z)
end

/-! ### THE RULE for a def with super() -/
section
variable {CX : CXT} {P : Program} {w : World} {K : PySem.W.Frag} {mg : Str → Option Value} {base : Heap} {k : Nat} {f cc D : Addr} {name qual : Str} {params : Arguments} {body : List Stmt} {scope : Scope} {dV kV doc pm cdv ct oc cl : Value} {an od cld : Option Addr}
    {osl csl : Array (Option Value)} {N ps : List Str} {sp : Sp}
theorem fn_sup (lk : K.lookup f = some ⟨oc, od, .func (PySem.W.ksFn name qual params body scope dV kV doc pm an cdv ct cc), osl⟩) (hcd : PySem.W.codeIn K cdv qual = true) (hcc : K.lookup cc = some ⟨cl, cld, .cell (some (.ref D)), csl⟩) (S : SScope N ps scope)
    (len : ∀ vs H Q E, sp vs H Q E → vs.length = ps.length)
    (hbody : ∀ (A : Around) (outer : List Env) (s : Shared) (H : Hp) (vs : List V) (Q : VK) (E : XK), Room k (A.deeper (PySem.W.ksEnv qual scope s.heap.objs.size f cdv cc)) → sp vs H Q E →
      ∃ t, PSst (cxS CX P w K mg base N qual scope f cdv cc A outer s H E) body body t ∧ t { nx := fun _ H' => Q .non H', rt := Q } (L2.start N vs) H) :
    FnOk P w K mg base CX (k + 1) f (PySem.W.ksFn name qual params body scope dV kV doc pm an cdv ct cc) ps sp := by
  refine ⟨len, fun A outer s H args us vs Q E hr e0 hb r hsp => ?_⟩
  have hl := len _ _ _ _ hsp
  have KX : K.In s.heap := e0.mod.kin.keeps fun b o e => (e0.bs b o e).1
  have lim : s.heap.NoLimit := e0.mod.nolimit.keeps fun b o e => (e0.bs b o e).1
  refine ks_codeAny_call_defAt (fd := PySem.W.ksFn name qual params body scope dV kV doc pm an cdv ct cc) (body := body) (binds := ps.zip us) hr.depth (KX _ _ lk) rfl lim (PySem.W.codeRec_of KX hcd) rfl hb S.nocell
    (fun x hx => S.par _ (List.of_mem_zip hx).1) (fun h₁ hns hk => ?_) S.co S.gen S.kind
  obtain ⟨t, ht, hq⟩ := hbody A outer s H vs Q E (hr.deeper _) hsp
  have I : Inv (cxS CX P w K mg base N qual scope f cdv cc A outer s H E) [] (L2.start N vs) H { s with heap := h₁, toks := s.toks + (ps.zip us).length } := inv_startS S hr.hd e0 hl r hcc hns hk
  refine ks_wpAt_mono (ht.run [] _ (L2.start N vs) H _ I hq) (fun fl s' hs => ?_) fun e s' hs => hs
  have fin : ∀ {σ' : L2.St} {H' : Hp} {v : V} {u : Value}, Inv (cxS CX P w K mg base N qual scope f cdv cc A outer s H E) [] σ' H' s' → RelV v u → Q v H' → CE outer P w H s Q u s' :=
    fun {σ' H' v u} J rv q => ⟨v, H', J.os, J.bare, J.base, J.hok, rv, q⟩
  cases fl with
  | ret u =>
    obtain ⟨v, σ', H', J, rv, q⟩ := hs
    exact fin J rv q
  | next =>
    obtain ⟨σ', H', J, q⟩ := hs
    exact fin (v := V.non) (u := Value.none) J rfl q
  | brk =>
    obtain ⟨_, _, _, q⟩ := hs
    exact False.elim q
  | cont =>
    obtain ⟨_, _, _, q⟩ := hs
    exact False.elim q
end
end Sw

set_option Elab.async false
set_option linter.all false
set_option maxRecDepth 100000
set_option maxHeartbeats 4000000
namespace Sw
open PySem PySem.Spec PyProof.Rows L2

/-! ### super() -/
/-- what the written part and the text must say around a super() in the def at f, a method of the class D, called with an instance of C -/
structure SupT (X : Cx) (f cda cc D : Addr) : Prop where
  fu : X.env.func = some f
  co : X.env.code = .ref cda
  fd : ∃ oc od fd osl ar, X.K.lookup f = some ⟨oc, od, .func fd, osl⟩ ∧ (fd.params.posonlyargs ++ fd.params.args).head? = some ar ∧ X.N[0]? = some ar.arg ∧ X.env.scope.names.lookup ar.arg = some .local
  cd : ∃ ccl cdd vs ccs file tf, X.K.lookup cda = some ⟨ccl, cdd, .fields vs, ccs⟩ ∧ vs[2]? = some (.str file tf) ∧ ((X.prog.main.file : Str) == file) = true
  ce : ∃ cl cld csl, X.K.lookup cc = some ⟨cl, cld, .cell (some (.ref D)), csl⟩
  cz : X.env.cells.lookup ("__class__" : Str) = some cc
  dc : ∃ cdD, PySem.W.clsIn X.K D = some cdD
  su : X.mg "super" = none
  ks : X.env.scope.names.lookup ("super" : Str) = some .globalImplicit
  kc : X.env.scope.names.lookup ("__class__" : Str) = some .free
  tp : (X.prog.main.scope.names.lookup ("super" : Str)).isSome = false

section
variable {X : Cx} {pins : List (Addr × Obj)} {σ : L2.St} {H : Hp} {s : Shared} {a C D f cda cc : Addr} {ox : Obj} {odx : Option Obj} {body : List Stmt} {E : Value → Shared → Prop}
theorem super_base {p0 p1 : Pos} {attr : Str} {whole : Sem Value} {Q : Value → Shared → Prop} (T : SupT X f cda cc D) (I : Inv X pins σ H s) (h0 : σ[0]? = some (some (.ref a))) (J : PySem.W.InstAt s.heap a ox C odx)
    (hsub : PySem.W.mroIn X.K C (.ref D) = some true) (hat : (attr == ("__class__" : Str)) = false)
    (h : ∀ s', Inv X ((s.heap.objs.size, PySem.W.ks_superObj D a C) :: pins) σ H s' → (∀ b o, s.heap.get? b = some o → s'.heap.get? b = some o) → Q (.ref s.heap.objs.size) s') :
    _root_.PySem.wpAt (model X.prog X.w) X.A (.func body X.env) (attributeBase (.Call (.Name "super" p0) [] [] p1) attr X.env whole) Q E s := by
  obtain ⟨oc, od, fd, osl, ar, hf, hp, hN0, hka⟩ := T.fd
  obtain ⟨ccl, cdd, vs, ccs, file, tf, hcode, hvs, hfile⟩ := T.cd
  obtain ⟨cl, cld, csl, hcell⟩ := T.ce
  obtain ⟨cdD, hD⟩ := T.dc
  have KX : X.K.In s.heap := I.kIn
  have I0 := I
  obtain ⟨m, hn, hl⟩ := I.loc
  obtain ⟨u, ru, lk⟩ := hl 0 _ _ hN0 h0 (.inl hka)
  obtain rfl : u = Value.ref a := ru
  have hm : m ar.arg = some (.ref a) := by
    rcases lk with ⟨_, e⟩ | ⟨k, _⟩
    · exact e
    · have k' : X.env.scope.names.lookup ar.arg = some .cell ∨ X.env.scope.names.lookup ar.arg = some .free := k
      rw [hka] at k'
      rcases k' with k' | k' <;> cases k'
  obtain ⟨hh, g, d, t, os⟩ := s
  obtain ⟨oD, hD1, hD2⟩ : ∃ oD, hh.get? D = some oD ∧ oD.data = .cls cdD := by
    unfold PySem.W.clsIn at hD
    split at hD
    · rename_i c d cd' sl ho
      cases hD
      exact ⟨_, KX _ _ ho, rfl⟩
    · cases hD
  obtain ⟨mb, hb1, hb2⟩ := I.mod.blt
  refine ks_wpAt_super_base (env := X.env) (cc := cda) T.ks T.kc hat T.fu (KX _ _ hf) rfl hp T.co (KX _ _ hcode) rfl hvs hfile T.tp ?_
  refine PySem.W.ks_loadName_global I.ok.kind T.ks (Calls.loadGlobal_builtin (by rw [I.ok.glob]; exact I.mod.glob.keeps I.bk) T.su (by rw [I.ok.blt]; exact hb1.keeps I.bk) ((hb2 "super" (by decide +kernel)).trans (by first | boot_by_name | rfl | kernel_rfl)) ⟨rfl, ?_⟩)
  refine wpAny_loadName_free I.ok.kind T.kc T.cz ⟨_, KX _ _ hcell, rfl⟩ ?_
  refine wpAny_loadName_local I.ok.kind hka hn hm ?_
  refine ks_wpAny_isType_cls hD1 hD2 ⟨rfl, ?_⟩
  refine ks_wpAny_call_super hD1 hD2 J.at_ J.cls (fun c e => ?_) (PySem.W.looks_mroIn KX hsub) (fun h' e k => ?_)
  · have := J.no
    unfold PySem.W.notCls at this
    rw [e] at this
    exact Bool.noConfusion this
  · exact h _ (ClX.pin_new I0 k (Nat.le_refl _) e (fun v z => nomatch z)) k

/-- the method found above D in the order of C -/
structure SupM (K : PySem.W.Frag) (C D : Addr) (m : Str) (g : Addr) : Prop where
  any : PySem.W.nsIn K PySem.cStatics "thirdparty.any" = some none
  at_ : PySem.W.ks_superIn K C D m = some (some (.ref g))
  ty : PySem.W.typeIn K (.ref g) = some (.type "function")
  fi : PySem.W.fnIn K g = true
  sub : PySem.W.mroIn K C (.ref D) = some true
  nc : (m == ("__class__" : Str)) = false

theorem super_meth {m : Str} {g so : Addr} {pl : Sem Bool} {A : Around} {Q : Value × List Value → Shared → Prop} (M : SupM X.K C D m g) (I : Inv X ((so, PySem.W.ks_superObj D a C) :: pins) σ H s) (J : PySem.W.InstAt s.heap a ox C odx)
    (h : ∀ s', Inv X ((s.heap.objs.size, PySem.W.methodObj (.ref g) (.ref a)) :: pins) σ H s' → Q (.ref s.heap.objs.size, []) s') : wpAny (model X.prog X.w) A (getMethod (.ref so) m pl) Q E s := by
  have KX : X.K.In s.heap := I.kIn
  have hso := ClX.pin_at I
  have hm := M.at_
  have I0 := I
  obtain ⟨hh, gg, d, t, os⟩ := s
  cases hc : PySem.W.clsIn X.K C with
  | none => unfold PySem.W.ks_superIn at hm; rw [hc] at hm; cases hm
  | some cd =>
    unfold PySem.W.ks_superIn at hm
    rw [hc] at hm
    obtain ⟨of, hof, hofc⟩ : ∃ of, hh.get? g = some of ∧ of.cls = .type "function" := by
      have ht' : (X.K.lookup g).map (·.cls) = some (.type "function") := M.ty
      cases z : X.K.lookup g with
      | none => rw [z] at ht'; cases ht'
      | some of => rw [z] at ht'; exact ⟨of, KX _ _ z, Option.some.inj ht'⟩
    refine ks_wpAny_getMethod_super hso (PySem.W.looks_opaque KX M.any) (l₀ := cd.mro) ?_ rfl KX hm hof hofc (PySem.W.ks_ne KX J hc) M.nc ?_
    · exact fun A Q E s k q => wpAny_bind ((PySem.W.looks_clsIn KX hc) A _ E s k (wpAny_pure q))
    · exact h _ (ClX.pin_new (ClX.unpin I0) (fun b o e => Heap.get?_push_of_some _ e) (Nat.le_refl _) (Heap.get?_push_size _ rfl) (fun v z => nomatch z))


end

/-! ### callees by their conventions: n positional values, keywords ks -/
abbrev SpC := List V → List V → Hp → VK → XK → Prop
def Cal (P : Program) (w : World) (K : PySem.W.Frag) (mg : Str → Option Value) (base : Heap) (k : Nat) (f : Addr) (n : Nat) (ks : List Str) (sp : SpC) : Prop :=
  ∀ (A : Around) (outer : List Env) (s : Shared) (H : Hp) (us ws : List Value) (vs zs : List V) (Q : VK) (E : XK), Room k A → Env0 P w K mg base A outer s H → Vals vs us → Vals zs ws → vs.length = n → zs.length = ks.length → sp vs zs H Q E →
    codeAny (model P w) A (.call (.ref f) ⟨us, ks.zip ws⟩) (CR (L2.CX P w) outer P w H s Q E) s
section
variable {P : Program} {w : World} {K : PySem.W.Frag} {mg : Str → Option Value} {base : Heap} {j k : Nat} {f : Addr} {fd : FuncData} {ps ks : List Str} {n : Nat} {sp : Sp} {spc spc' : SpC}
theorem ok_lift {sp : Sp} (F : FnOk P w K mg base CX0 k f fd ps sp) : FnOk P w K mg base (L2.CX P w) k f fd ps sp :=
  ⟨F.len, fun A outer s H args us vs Q E hr e0 hb r h => codeAny_mono (F.run A outer s H args us vs Q E hr e0 hb r h) fun r s' hq => by
    cases r with
    | error e => exact False.elim hq
    | ok fl => cases fl <;> exact hq⟩
theorem calK {g : List Value → List Value → List Value} {gV : List V → List V → List V} (F : FnOk P w K mg base (L2.CX P w) k f fd ps sp) (hb : KBn K fd ps n ks g gV) : Cal P w K mg base k f n ks (fun vs zs => sp (gV vs zs)) :=
  fun A outer s H us ws vs zs Q E hr e0 r rz l1 l2 h =>
    F.run A outer s H ⟨us, ks.zip ws⟩ (g us ws) (gV vs zs) Q E hr e0 (hb.to s us ws (e0.mod.kin.keeps fun b o e => (e0.bs b o e).1) (r.length.symm.trans l1) (rz.length.symm.trans l2)) (hb.rel r rz) h
/-- positional values, the defaults behind them -/
theorem calP {ds : List Value} {dvs : List V} (F : FnOk P w K mg base (L2.CX P w) k f fd ps sp) (hb : Binds K fd ps ds) (hd : Vals dvs ds) (hn : n + ds.length = ps.length) : Cal P w K mg base k f n [] (fun vs _ => sp (vs ++ dvs)) :=
  fun A outer s H us ws vs zs Q E hr e0 r rz l1 l2 h => by
    have e : (⟨us, ([] : List Str).zip ws⟩ : Args) = ⟨us, []⟩ := by rw [List.zip_nil_left]
    rw [e]
    exact F.run A outer s H ⟨us, []⟩ (us ++ ds) (vs ++ dvs) Q E hr e0 (hb s us (e0.mod.kin.keeps fun b o e => (e0.bs b o e).1) (by rw [List.length_append, ← r.length, l1, hn])) (r.append hd) h
theorem cal0 (F : FnOk P w K mg base (L2.CX P w) k f fd ps sp) (hb : Binds K fd ps []) (hn : n = ps.length) : Cal P w K mg base k f n [] (fun vs _ => sp vs) :=
  fun A outer s H us ws vs zs Q E hr e0 r rz l1 l2 h => by
    have e : (⟨us, ([] : List Str).zip ws⟩ : Args) = ⟨us, []⟩ := by rw [List.zip_nil_left]
    rw [e]
    have hl : (us ++ []).length = ps.length := by rw [List.append_nil, ← r.length, l1, hn]
    have hb' := hb s us (e0.mod.kin.keeps fun b o e => (e0.bs b o e).1) hl
    rw [List.append_nil] at hb'
    exact F.run A outer s H ⟨us, []⟩ us vs Q E hr e0 hb' r h
theorem Cal.mono (F : Cal P w K mg base j f n ks spc) (h : j ≤ k) : Cal P w K mg base k f n ks spc := fun A outer s H us ws vs zs Q E hr => F A outer s H us ws vs zs Q E (hr.mono h)
theorem Cal.imp (F : Cal P w K mg base k f n ks spc) (h : ∀ vs zs H Q E, spc' vs zs H Q E → spc vs zs H Q E) : Cal P w K mg base k f n ks spc' := fun A outer s H us ws vs zs Q E hr e0 r rz l1 l2 q => F A outer s H us ws vs zs Q E hr e0 r rz l1 l2 (h _ _ _ _ _ q)
/-- a global def by its name -/
structure GFn (P : Program) (w : World) (K : PySem.W.Frag) (mg : Str → Option Value) (base : Heap) (k : Nat) (x : Str) (n : Nat) (ks : List Str) (sp : SpC) : Prop where
  ex : ∃ f, mg x = some (.ref f) ∧ PySem.W.keepIn K (.ref f) = true ∧ Cal P w K mg base k f n ks sp
/-- a class by its name: C(..) with its __init__ -/
structure GMk (P : Program) (w : World) (K : PySem.W.Frag) (mg : Str → Option Value) (base : Heap) (k : Nat) (x : Str) (C : Addr) (n : Nat) (ks : List Str) (sp : SpC) : Prop where
  at_ : mg x = some (.ref C)
  ex : ∃ f, Mk K C f ∧ Cal P w K mg base k f (n + 1) ks sp
/-- a method of the class at C -/
structure GMt (P : Program) (w : World) (K : PySem.W.Frag) (mg : Str → Option Value) (base : Heap) (k : Nat) (C : Addr) (m : Str) (n : Nat) (ks : List Str) (sp : SpC) : Prop where
  cl : Cls K C
  ex : ∃ f, Meth K C m f ∧ Cal P w K mg base k f (n + 1) ks sp
/-- a property of the class at C -/
structure GPr (P : Program) (w : World) (K : PySem.W.Frag) (mg : Str → Option Value) (base : Heap) (k : Nat) (C : Addr) (m : Str) (sp : SpC) : Prop where
  cl : Cls K C
  ex : ∃ p g, PropOf K C m p g ∧ Cal P w K mg base k g 1 [] sp
end

section
variable {X : Cx} {k n : Nat} {f C : Addr} {ks : List Str} {sp : SpC} {W : WX} {x : Str}
theorem run_cal {pins : List (Addr × Obj)} {σ : L2.St} {H : Hp} {s : Shared} {Q : VK} {us ws : List Value} {vs zs : List V} (F : Cal X.prog X.w X.K X.mg X.base k f n ks sp) (hr : Room k X.A) (tw : Takes X W) (I : Inv X pins σ H s) (r : Vals vs us) (rz : Vals zs ws)
    (l1 : vs.length = n) (l2 : zs.length = ks.length) (h : sp vs zs H Q (WE W σ)) :
    codeAny (model X.prog X.w) X.A (.call (.ref f) ⟨us, ks.zip ws⟩) (fun r s' => match r with | .ok (.ret v) => EP X pins σ Q v s' | .ok _ => False | .error e => X.xe e s') s := by
  refine codeAny_mono (F X.A X.stack s H us ws vs zs Q (WE W σ) hr I.env0 r rz l1 l2 h) fun r s' hq => ?_
  cases r with
  | error e => exact passAt tw σ pins H s e s' I hq
  | ok fl =>
    cases fl with
    | ret u => exact I.after hq
    | next => exact False.elim hq
    | brk => exact False.elim hq
    | cont => exact False.elim hq
end

/-- f(e, .., k = v, ..) -/
def tCalG (n m : Nat) (sp : SpC) (W : WX) (t tk : TA) : TE := fun σ H Q => t σ H fun vs H1 => tk σ H1 fun zs H2 => vs.length = n ∧ zs.length = m ∧ sp vs zs H2 Q (WE W σ)
/-- C(e, .., k = v, ..) -/
def tMkG (C : Addr) (n m : Nat) (sp : SpC) (W : WX) (t tk : TA) : TE := fun σ H Q => t σ H fun vs H1 => tk σ H1 fun zs H2 => vs.length = n ∧ zs.length = m ∧ ∀ x dx, H2 x = none → H2 dx = none → dx ≠ x →
  sp (.ref x :: vs) zs (upd (upd H2 dx (.own x)) x (.ins C dx [])) (fun v H3 => v = .non ∧ Q (.ref x) H3) (WE W σ)
section
variable {X : Cx} {k n : Nat} {f C : Addr} {ks : List Str} {sp : SpC} {W : WX} {x m : Str} {p pos apos : Pos} {e o : Expr} {es : List Expr} {kws : List Keyword} {t tk : TA} {ta : TE}
theorem pe_callG (G : GFn X.prog X.w X.K X.mg X.base k x n ks sp) (hr : Room k X.A) (tw : Takes X W) (ha : PA X (e :: es) t) (hkw : PK X kws tk) (hg : Gl X x := by rfl)
    (hall : (backToKw pos (keywordEach kws X.env)).all (·.1.isSome) = true := by rfl) (hks : (backToKw pos (keywordEach kws X.env)).filterMap (·.1) = ks := by rfl) (hdb : (x == ("__debug__" : Str)) = false := by decide)
    (he : starEach (e :: es) X.env = (false, eval e X.env) :: starEach es X.env := by rfl)
    (hpl : ((backTo pos (starEach (e :: es) X.env)).any (·.1) || (backToKw pos (keywordEach kws X.env)).any (·.1.isNone)) = false := by rfl) :
    PE X (.Call (.Name x p) (e :: es) kws pos) (tCalG n ks.length sp W t tk) := by
  refine ⟨fun pins s σ H Q I h => ?_⟩
  obtain ⟨f, hm, hk, F⟩ := G.ex
  refine wpAny_Call_Name_kw (ld_glob I hg hm ?_ hdb)
  refine PySem.W.callWith_KW (h₀ := X.base) I.ok.mod.kin hk hall (thn (ha.run pos pins s σ H _ I h) fun us s1 ⟨vs, H1, I1, r, q⟩ => ?_) hpl he
  refine thn (hkw.run pos pins s1 σ H1 _ I1 q) fun ws s2 ⟨zs, H2, I2, rz, l1, l2, q2⟩ => ⟨I2.kIn, ?_⟩
  rw [hks]
  exact wpAny_call (run_cal F hr tw I2 r rz l1 l2 q2)
theorem pe_callG0 (G : GFn X.prog X.w X.K X.mg X.base k x n ks sp) (hr : Room k X.A) (tw : Takes X W) (hkw : PK X kws tk) (hg : Gl X x := by rfl)
    (hall : (backToKw pos (keywordEach kws X.env)).all (·.1.isSome) = true := by rfl) (hks : (backToKw pos (keywordEach kws X.env)).filterMap (·.1) = ks := by rfl) (hdb : (x == ("__debug__" : Str)) = false := by decide)
    (hpl : ((backTo pos (starEach [] X.env)).any (·.1) || (backToKw pos (keywordEach kws X.env)).any (·.1.isNone)) = false := by rfl) :
    PE X (.Call (.Name x p) [] kws pos) (tCalG n ks.length sp W tNil tk) := by
  refine ⟨fun pins s σ H Q I h => ?_⟩
  obtain ⟨f, hm, hk, F⟩ := G.ex
  refine wpAny_Call_Name_kw (ld_glob I hg hm ?_ hdb)
  refine PySem.W.callWith_KW0 (h₀ := X.base) I.ok.mod.kin hk hall ?_ hpl
  refine thn (hkw.run pos pins s σ H _ I h) fun ws s2 ⟨zs, H2, I2, rz, l1, l2, q2⟩ => ⟨I2.kIn, ?_⟩
  rw [hks]
  exact wpAny_call (run_cal (us := []) (vs := []) F hr tw I2 .nil rz l1 l2 q2)
theorem run_mk {pins : List (Addr × Obj)} {σ : L2.St} {H : Hp} {s : Shared} {Q : VK} {us ws : List Value} {vs zs : List V} (M : Mk X.K C f) (F : Cal X.prog X.w X.K X.mg X.base k f (n + 1) ks sp) (hr : Room (k + 1) X.A) (tw : Takes X W)
    (I : Inv X pins σ H s) (r : Vals vs us) (rz : Vals zs ws) (l1 : vs.length = n) (l2 : zs.length = ks.length)
    (h : ∀ x dx, H x = none → H dx = none → dx ≠ x → sp (.ref x :: vs) zs (upd (upd H dx (.own x)) x (.ins C dx [])) (fun v H2 => v = .non ∧ Q (.ref x) H2) (WE W σ)) :
    wpAny (model X.prog X.w) X.A (call (.ref C) us (ks.zip ws)) (EP X pins σ Q) X.xe s := by
  have hq := h (s.heap.objs.size + 1) s.heap.objs.size (I.hok.fresh (Nat.le_succ _)) (I.hok.fresh (Nat.le_refl _)) (Nat.ne_of_lt (Nat.lt_succ_self _))
  have I2 := Inv.made (C := C) I
  have r1 : Vals (V.ref (s.heap.objs.size + 1) :: vs) (Value.ref (s.heap.objs.size + 1) :: us) := .cons rfl r
  have n1 : (V.ref (s.heap.objs.size + 1) :: vs).length = n + 1 := by
    rw [List.length_cons, l1]
  refine wpAny_call (make_map (f := f) I.kIn M.makes M.init (beq_iff_eq.mp M.fn) (codeAny_mono (F _ X.stack _ _ (Value.ref (s.heap.objs.size + 1) :: us) ws _ _ _ (WE W σ) (hr.make C us (ks.zip ws))
    (I2.env0.make C us (ks.zip ws)) r1 rz n1 l2 hq) fun r s' hq' => ?_))
  cases r with
  | error e => exact passAt tw σ pins _ _ e s' I2 hq'
  | ok fl =>
    cases fl with
    | ret u =>
      obtain ⟨v, H', I3, rv, ev, q3⟩ := I2.after hq'
      subst ev
      exact ⟨rv, ⟨V.ref (s.heap.objs.size + 1), H', I3, rfl, q3⟩⟩
    | next => exact False.elim hq'
    | brk => exact False.elim hq'
    | cont => exact False.elim hq'
theorem pe_makeG (G : GMk X.prog X.w X.K X.mg X.base k x C n ks sp) (hr : Room (k + 1) X.A) (tw : Takes X W) (ha : PA X (e :: es) t) (hkw : PK X kws tk) (hg : Gl X x := by rfl)
    (hall : (backToKw pos (keywordEach kws X.env)).all (·.1.isSome) = true := by rfl) (hks : (backToKw pos (keywordEach kws X.env)).filterMap (·.1) = ks := by rfl) (hdb : (x == ("__debug__" : Str)) = false := by decide)
    (he : starEach (e :: es) X.env = (false, eval e X.env) :: starEach es X.env := by rfl) (hpl : ((backTo pos (starEach (e :: es) X.env)).any (·.1) || (backToKw pos (keywordEach kws X.env)).any (·.1.isNone)) = false := by rfl) :
    PE X (.Call (.Name x p) (e :: es) kws pos) (tMkG C n ks.length sp W t tk) := by
  refine ⟨fun pins s σ H Q I h => ?_⟩
  obtain ⟨f, M, F⟩ := G.ex
  refine wpAny_Call_Name_kw (ld_glob I hg G.at_ ?_ hdb)
  refine PySem.W.callWith_KW (h₀ := X.base) I.ok.mod.kin M.kp hall (thn (ha.run pos pins s σ H _ I h) fun us s1 ⟨vs, H1, I1, r, q⟩ => ?_) hpl he
  refine thn (hkw.run pos pins s1 σ H1 _ I1 q) fun ws s2 ⟨zs, H2, I2, rz, l1, l2, q2⟩ => ⟨I2.kIn, ?_⟩
  rw [hks]
  exact run_mk M F hr tw I2 r rz l1 l2 q2
theorem pe_makeG0 (G : GMk X.prog X.w X.K X.mg X.base k x C n ks sp) (hr : Room (k + 1) X.A) (tw : Takes X W) (hkw : PK X kws tk) (hg : Gl X x := by rfl)
    (hall : (backToKw pos (keywordEach kws X.env)).all (·.1.isSome) = true := by rfl) (hks : (backToKw pos (keywordEach kws X.env)).filterMap (·.1) = ks := by rfl) (hdb : (x == ("__debug__" : Str)) = false := by decide)
    (hpl : ((backTo pos (starEach [] X.env)).any (·.1) || (backToKw pos (keywordEach kws X.env)).any (·.1.isNone)) = false := by rfl) :
    PE X (.Call (.Name x p) [] kws pos) (tMkG C n ks.length sp W tNil tk) := by
  refine ⟨fun pins s σ H Q I h => ?_⟩
  obtain ⟨f, M, F⟩ := G.ex
  refine wpAny_Call_Name_kw (ld_glob I hg G.at_ ?_ hdb)
  refine PySem.W.callWith_KW0 (h₀ := X.base) I.ok.mod.kin M.kp hall ?_ hpl
  refine thn (hkw.run pos pins s σ H _ I h) fun ws s2 ⟨zs, H2, I2, rz, l1, l2, q2⟩ => ⟨I2.kIn, ?_⟩
  rw [hks]
  exact run_mk (us := []) (vs := []) M F hr tw I2 .nil rz l1 l2 q2
/-- o.m(e, .., k = v, ..), whatever class o is of -/
def tMtG (P : Program) (w : World) (K : PySem.W.Frag) (mg : Str → Option Value) (base : Heap) (k : Nat) (m : Str) (n : Nat) (ks : List Str) (W : WX) (ta : TE) (t tk : TA) : TE := fun σ H Q => ta σ H fun x H1 => ∃ a C dx fs sp, x = .ref a ∧ H1 a = some (.ins C dx fs) ∧ fs.lookup m = none ∧
  GMt P w K mg base k C m n ks sp ∧ t σ H1 fun vs H2 => tk σ H2 fun zs H3 => vs.length = n ∧ zs.length = ks.length ∧ sp (.ref a :: vs) zs H3 Q (WE W σ)
theorem pe_methG {pl : Sem Bool} (he : PE X o ta) (hr : Room k X.A) (tw : Takes X W) (ha : PA X (e :: es) t) (hkw : PK X kws tk)
    (hall : (backToKw pos (keywordEach kws X.env)).all (·.1.isSome) = true := by rfl) (hks : (backToKw pos (keywordEach kws X.env)).filterMap (·.1) = ks := by rfl)
    (hst : starEach (e :: es) X.env = (false, eval e X.env) :: starEach es X.env := by rfl) (hpl : ((backTo pos (starEach (e :: es) X.env)).any (·.1) || (backToKw pos (keywordEach kws X.env)).any (·.1.isNone)) = false := by rfl)
    (ht : eval (.Call (.Attribute o m apos) (e :: es) kws pos) X.env = (do
      let ov ← eval o X.env
      standAt apos.atName
      let (f, first) ← holding [ov] (getMethod ov m pl)
      callWith pos f first (backTo pos (starEach (e :: es) X.env)) (backToKw pos (keywordEach kws X.env))) := by rfl) :
    PE X (.Call (.Attribute o m apos) (e :: es) kws pos) (tMtG X.prog X.w X.K X.mg X.base k m n ks W ta t tk) := by
  refine ⟨fun pins s σ H Q I h => ?_⟩
  refine PySem.W.methodCall_KW (pl := pl) (thn (he.run pins s σ H _ I h) fun u s1 ⟨x, H1, I1, rx, a, C, dx, fs, sp, ex, ea, l, G, q⟩ => ?_) ht
  subst ex
  obtain rfl : u = Value.ref a := rx
  obtain ⟨f, M, F⟩ := G.ex
  refine getmeth_ok I1 ea G.cl M l ?_
  refine PySem.W.callWith_KW (h₀ := X.base) I.ok.mod.kin M.kp hall (thn (ha.run pos pins s1 σ H1 _ I1 q) fun us s2 ⟨vs, H2, I2, r, q⟩ => ?_) hpl hst
  refine thn (hkw.run pos pins s2 σ H2 _ I2 q) fun ws s3 ⟨zs, H3, I3, rz, l1, l2, q3⟩ => ⟨I3.kIn, ?_⟩
  rw [hks]
  exact wpAny_call (run_cal (us := .ref a :: us) (vs := .ref a :: vs) F hr tw I3 (.cons rfl r) rz (by rw [List.length_cons, l1]) l2 q3)
theorem pe_methG0 {pl : Sem Bool} (he : PE X o ta) (hr : Room k X.A) (tw : Takes X W) (hkw : PK X kws tk)
    (hall : (backToKw pos (keywordEach kws X.env)).all (·.1.isSome) = true := by rfl) (hks : (backToKw pos (keywordEach kws X.env)).filterMap (·.1) = ks := by rfl)
    (hpl : ((backTo pos (starEach [] X.env)).any (·.1) || (backToKw pos (keywordEach kws X.env)).any (·.1.isNone)) = false := by rfl)
    (ht : eval (.Call (.Attribute o m apos) [] kws pos) X.env = (do
      let ov ← eval o X.env
      standAt apos.atName
      let (f, first) ← holding [ov] (getMethod ov m pl)
      callWith pos f first (backTo pos (starEach [] X.env)) (backToKw pos (keywordEach kws X.env))) := by rfl) :
    PE X (.Call (.Attribute o m apos) [] kws pos) (tMtG X.prog X.w X.K X.mg X.base k m n ks W ta tNil tk) := by
  refine ⟨fun pins s σ H Q I h => ?_⟩
  refine PySem.W.methodCall_KW (pl := pl) (thn (he.run pins s σ H _ I h) fun u s1 ⟨x, H1, I1, rx, a, C, dx, fs, sp, ex, ea, l, G, q⟩ => ?_) ht
  subst ex
  obtain rfl : u = Value.ref a := rx
  obtain ⟨f, M, F⟩ := G.ex
  refine getmeth_ok I1 ea G.cl M l ?_
  refine PySem.W.callWith_KW0 (h₀ := X.base) I.ok.mod.kin M.kp hall ?_ hpl
  refine thn (hkw.run pos pins s1 σ H1 _ I1 q) fun ws s3 ⟨zs, H3, I3, rz, l1, l2, q3⟩ => ⟨I3.kIn, ?_⟩
  rw [hks]
  exact wpAny_call (run_cal (us := [.ref a]) (vs := [.ref a]) F hr tw I3 (.cons rfl .nil) rz (by rw [← l1]; rfl) l2 q3)
/-- o.f, a property, whatever class o is of -/
def tPrG (P : Program) (w : World) (K : PySem.W.Frag) (mg : Str → Option Value) (base : Heap) (k : Nat) (m : Str) (ta : TE) : TE := fun σ H Q => ta σ H fun x H1 => ∃ a C dx fs sp, x = .ref a ∧ H1 a = some (.ins C dx fs) ∧
  GPr P w K mg base k C m sp ∧ sp [.ref a] [] H1 Q E0
theorem pe_propG (he : PE X o ta) (hr : Room (k + 1) X.A)
    (hab : attributeBase o m X.env (eval o X.env) = eval o X.env := by rfl) : PE X (.Attribute o m pos) (tPrG X.prog X.w X.K X.mg X.base k m ta) := by
  refine ⟨fun pins s σ H Q I h => ?_⟩
  refine attr_of hab (thn (he.run pins s σ H _ I h) fun u s1 ⟨x, H1, I1, rx, a, C, dx, fs, sp, ex, ea, G, q⟩ => ?_)
  subst ex
  obtain rfl : u = Value.ref a := rx
  obtain ⟨p, g, hp, F⟩ := G.ex
  obtain ⟨mA, O, _, _, _, _⟩ := ins_get I1.hok ea
  obtain ⟨od, J, _⟩ := O.look
  obtain ⟨rest, hrec⟩ := hp.rec_
  have I2 := I1.tok (s1.toks + 1)
  have hc : (PySem.W.clsIn X.K C).isSome = true := by
    obtain ⟨cd, hc, _⟩ := PySem.W.any_some G.cl.hd
    rw [hc]
    rfl
  refine PySem.W.get_bind I1.kIn J (PySem.W.plainGet_of (G.cl.get m)).1 (PySem.W.findObj_data hc hp.at_ hp.get hp.tak) (PySem.W.plainGet_of (G.cl.get m)).2 (wpAny_call (PySem.W.prop_get (s := { s1 with toks := s1.toks + 1 }) I1.kIn hrec ?_))
  refine codeAny_mono (F X.A.in1 X.stack { s1 with toks := s1.toks + 1 } H1 [.ref a] [] [.ref a] [] Q E0 hr.in1 I2.env0.in1 (.cons rfl .nil) .nil rfl rfl q) fun r s' hq => ?_
  cases r with
  | error er => exact False.elim (passL (X := X.nox) pins σ H1 { s1 with toks := s1.toks + 1 } er s' (I2.wish _) hq)
  | ok fl =>
    cases fl with
    | ret u =>
      obtain ⟨v, H', I3, rv, q3⟩ := I2.after hq
      show wpAny _ _ (handedOut u) _ _ _
      rw [PySem.W.handedOut_of (handed_of rv)]
      exact wpAny_pure ⟨v, H', I3, rv, q3⟩
    | next => exact False.elim hq
    | brk => exact False.elim hq
    | cont => exact False.elim hq
end
end Sw

set_option Elab.async false
set_option linter.all false
set_option maxRecDepth 100000
set_option maxHeartbeats 4000000
namespace Sw
open PySem PySem.Spec PyProof.Rows L2

theorem run_sup {X : Cx} {pins : List (Addr × Obj)} {σ : L2.St} {H : Hp} {s : Shared} {a : Addr} {k n : Nat} {g q : Addr} {ks : List Str} {sp : SpC} {W : WX} {Q : VK} {us ws : List Value} {vs zs : List V} (F : Cal X.prog X.w X.K X.mg X.base k g (n + 1) ks sp) (hr : Room k X.A) (tw : Takes X W)
    (I : Inv X ((q, PySem.W.methodObj (.ref g) (.ref a)) :: pins) σ H s) (r : Vals vs us) (rz : Vals zs ws) (l1 : vs.length = n) (l2 : zs.length = ks.length) (h : sp (.ref a :: vs) zs H Q (WE W σ)) : wpAny (model X.prog X.w) X.A (call (.ref q) us (ks.zip ws)) (EP X pins σ Q) X.xe s := by
  have hrun := run_cal (us := .ref a :: us) (vs := .ref a :: vs) F hr tw I (.cons rfl r) rz (by rw [List.length_cons, l1]) l2 h
  have z : wpAny (model X.prog X.w) X.A (call (.ref q) us (ks.zip ws)) (EP X ((q, PySem.W.methodObj (.ref g) (.ref a)) :: pins) σ Q) X.xe s :=
    wpAny_call (PySem.W.method_call (ClX.pin_at I) hrun)
  exact thn z fun _ _ y => ClX.unpinE y

/-- a method call on super(), with keywords too -/
theorem wpAt_superCall {M : Model} {A : Around} {c : Code} {env : Env} {o : Expr} {name : Str} {apos pos : Pos} {args : List Expr} {kws : List Keyword} {pl : Sem Bool} {E : Value → Shared → Prop} {s : Shared} {Q : Value → Shared → Prop}
    (h : _root_.PySem.wpAt M A c (attributeBase o name env (eval o env)) (fun ov s₁ => wpAny M A (getMethod ov name pl) (fun fx s₂ => wpAny M A (callWith pos fx.1 fx.2 (backTo pos (starEach args env)) (backToKw pos (keywordEach kws env))) Q E s₂) E s₁) E s)
    (he : eval (.Call (.Attribute o name apos) args kws pos) env = (do
      let ov ← attributeBase o name env (eval o env)
      standAt apos.atName
      let (f, first) ← holding [ov] (getMethod ov name pl)
      callWith pos f first (backTo pos (starEach args env)) (backToKw pos (keywordEach kws env)))) :
    _root_.PySem.wpAt M A c (eval (.Call (.Attribute o name apos) args kws pos) env) Q E s := by
  rw [he]
  refine PySem.wpAt_bind (ks_wpAt_mono h (fun ov s₁ h₁ => wpAt_of_wpAny (wpAny_bind (wpAny_standAt (wpAny_bind (wpAny_holding (wpAny_mono h₁ (fun fx s₂ h₂ => ?_) fun _ _ x => x)))))) fun _ _ x => x)
  exact h₂

/-- super().m(e, .., k = v, ..) in a method of D called with an instance of C: the def found above D -/
def tSup (C : Addr) (n : Nat) (ks : List Str) (sp : SpC) (W : WX) (t tk : TA) : TE := fun σ H Q => ∃ a dx fs, σ[0]? = some (some (.ref a)) ∧ H a = some (.ins C dx fs) ∧
  t σ H fun vs H1 => tk σ H1 fun zs H2 => vs.length = n ∧ zs.length = ks.length ∧ sp (.ref a :: vs) zs H2 Q (WE W σ)
section
variable {X : Cx} {k n : Nat} {f g C D cda cc : Addr} {ks : List Str} {sp : SpC} {W : WX} {m : Str} {p0 p1 pos apos : Pos} {e : Expr} {es : List Expr} {kws : List Keyword} {t tk : TA} {body : List Stmt} {pl : Sem Bool}
theorem pet_sup (T : SupT X f cda cc D) (M : SupM X.K C D m g) (F : Cal X.prog X.w X.K X.mg X.base k g (n + 1) ks sp) (hr : Room k X.A) (tw : Takes X W) (ha : PA X (e :: es) t) (hkw : PK X kws tk)
    (hall : (backToKw pos (keywordEach kws X.env)).all (·.1.isSome) = true := by rfl) (hks : (backToKw pos (keywordEach kws X.env)).filterMap (·.1) = ks := by rfl)
    (hst : starEach (e :: es) X.env = (false, eval e X.env) :: starEach es X.env := by rfl) (hpl : ((backTo pos (starEach (e :: es) X.env)).any (·.1) || (backToKw pos (keywordEach kws X.env)).any (·.1.isNone)) = false := by rfl)
    (ht : eval (.Call (.Attribute (.Call (.Name "super" p0) [] [] p1) m apos) (e :: es) kws pos) X.env = (do
      let ov ← attributeBase (.Call (.Name "super" p0) [] [] p1) m X.env (eval (.Call (.Name "super" p0) [] [] p1) X.env)
      standAt apos.atName
      let (f, first) ← holding [ov] (getMethod ov m pl)
      callWith pos f first (backTo pos (starEach (e :: es) X.env)) (backToKw pos (keywordEach kws X.env))) := by rfl) :
    PEt X body (.Call (.Attribute (.Call (.Name "super" p0) [] [] p1) m apos) (e :: es) kws pos) (tSup C n ks sp W t tk) := by
  refine ⟨fun pins s σ H Q I h => ?_⟩
  obtain ⟨a, dx, fs, h0, ea, q⟩ := h
  obtain ⟨mA, O, _, _, _, _⟩ := ins_get I.hok ea
  obtain ⟨od, J, _⟩ := O.look
  refine wpAt_superCall (pl := pl) (super_base T I h0 J M.sub M.nc fun s1 I1 k1 => ?_) ht
  obtain ⟨mA1, O1, _, _, _, _⟩ := ins_get I1.hok ea
  obtain ⟨od1, J1, _⟩ := O1.look
  refine super_meth M I1 J1 fun s2 I2 => ?_
  have hq := ClX.pin_at I2
  have hb : X.base.get? s1.heap.objs.size = none := ClX.base_none I1 (Nat.le_refl _)
  refine PySem.W.callWith_of hpl (P := PySem.W.MethP X.K s1.heap.objs.size g (.ref a)) (PySem.W.keeps_M M.fi) (PyProof.Rows.evalArgs_kw2 hall (thn (ha.run pos _ s2 σ H _ I2 q) fun us s3 ⟨vs, H1, I3, r, q⟩ => ?_) hst)
  refine thn (hkw.run pos _ s3 σ H1 _ I3 q) fun ws s4 ⟨zs, H2, I4, rz, l1, l2, q4⟩ => ⟨⟨ClX.pin_at I4, I4.kIn⟩, ?_⟩
  rw [hks]
  exact run_sup F hr tw I4 r rz l1 l2 q4
theorem pet_sup0 (T : SupT X f cda cc D) (M : SupM X.K C D m g) (F : Cal X.prog X.w X.K X.mg X.base k g (n + 1) ks sp) (hr : Room k X.A) (tw : Takes X W) (hkw : PK X kws tk)
    (hall : (backToKw pos (keywordEach kws X.env)).all (·.1.isSome) = true := by rfl) (hks : (backToKw pos (keywordEach kws X.env)).filterMap (·.1) = ks := by rfl)
    (hpl : ((backTo pos (starEach [] X.env)).any (·.1) || (backToKw pos (keywordEach kws X.env)).any (·.1.isNone)) = false := by rfl)
    (ht : eval (.Call (.Attribute (.Call (.Name "super" p0) [] [] p1) m apos) [] kws pos) X.env = (do
      let ov ← attributeBase (.Call (.Name "super" p0) [] [] p1) m X.env (eval (.Call (.Name "super" p0) [] [] p1) X.env)
      standAt apos.atName
      let (f, first) ← holding [ov] (getMethod ov m pl)
      callWith pos f first (backTo pos (starEach [] X.env)) (backToKw pos (keywordEach kws X.env))) := by rfl) :
    PEt X body (.Call (.Attribute (.Call (.Name "super" p0) [] [] p1) m apos) [] kws pos) (tSup C n ks sp W tNil tk) := by
  refine ⟨fun pins s σ H Q I h => ?_⟩
  obtain ⟨a, dx, fs, h0, ea, q⟩ := h
  obtain ⟨mA, O, _, _, _, _⟩ := ins_get I.hok ea
  obtain ⟨od, J, _⟩ := O.look
  refine wpAt_superCall (pl := pl) (super_base T I h0 J M.sub M.nc fun s1 I1 k1 => ?_) ht
  obtain ⟨mA1, O1, _, _, _, _⟩ := ins_get I1.hok ea
  obtain ⟨od1, J1, _⟩ := O1.look
  refine super_meth M I1 J1 fun s2 I2 => ?_
  refine PySem.W.callWith_of hpl (P := PySem.W.MethP X.K s1.heap.objs.size g (.ref a)) (PySem.W.keeps_M M.fi) (PyProof.Rows.evalArgs_kw2_nil hall ?_)
  refine thn (hkw.run pos _ s2 σ H _ I2 q) fun ws s4 ⟨zs, H2, I4, rz, l1, l2, q4⟩ => ⟨⟨ClX.pin_at I4, I4.kIn⟩, ?_⟩
  rw [hks]
  exact run_sup (us := []) (vs := []) F hr tw I4 .nil rz l1 l2 q4
end

/-! ### an own exception's __init__: super().__init__(text), then the fields -/
/-- what the written part says of the class C (over ValueError by own classes), above D its __init__ is ValueError's -/
structure SupE (K : PySem.W.Frag) (C D : Addr) : Prop where
  ox : OexC K C
  any : PySem.W.nsIn K PySem.cStatics "thirdparty.any" = some none
  at_ : PySem.W.ks_superIn K C D "__init__" = some (some (.builtin "ValueError.__init__"))
  sub : PySem.W.mroIn K C (.ref D) = some true
  ve : PySem.W.subIn K (.ref C) (.type "ValueError") = some true
/-- super().__init__(e, ..): nothing of it is told -/
def tSupE (C : Addr) (t : TA) : TE := fun σ H Q => ∃ a, σ[0]? = some (some (.ref a)) ∧ H a = some (exo a C none) ∧ t σ H fun vs H1 => vs.length ≤ 1000 ∧ H1 a = some (exo a C none) ∧ Q .non H1
section
variable {X : Cx} {f C D cda cc : Addr} {p0 p1 pos apos : Pos} {e : Expr} {es : List Expr} {t : TA} {body : List Stmt} {pl : Sem Bool}
theorem call_mw {pins : List (Addr × Obj)} {σ : L2.St} {H : Hp} {s : Shared} {a u : Addr} {rest : List Value} {Q : Value → Shared → Prop} {A : Around} {E : Value → Shared → Prop} (T : OexC X.K C) (I : Inv X ((u, PySem.W.kxs_mw "ValueError.__init__" a) :: pins) σ H s) (e : H a = some (exo a C none)) (hl : rest.length ≤ sizeLine)
    (h : ∀ s', Inv X pins σ H s' → Q .none s') : wpAny (model X.prog X.w) A (call (.ref u) rest) Q E s := by
  obtain ⟨nm, q, N, bs, bm, sn, sub, ab, col, dd, k0, k1, k2, k3, k5, hC, hbm⟩ := T.cls
  have hu := ClX.pin_at I
  have KX := I.kIn
  obtain ⟨t1, ho⟩ := exo_at I.hok e
  have I0 := ClX.unpin I
  obtain ⟨hp, g, d, tk, os⟩ := s
  refine wpAny_call (codeAny_of_tree ?_)
  show wpAny _ A.in1 (callAny (.ref u) ⟨rest, []⟩) _ _ _
  simp only [callAny]
  refine wpAny_bind (wpAny_load hu ?_)
  simp only [PySem.W.kxs_mw, show (Value.type "method-wrapper" == Value.type "method" || Value.type "method-wrapper" == Value.type "builtin_function_or_method" || Value.type "method-wrapper" == Value.type "method-wrapper") = true by decide, if_true]
  refine PySem.W.KFB.if_so (by decide) ?_
  refine wpAny_bind (PySem.W.check_bound_init F.excBase_ValueError.toExcCallFacts (KX _ _ hC) ho rfl ?_)
  refine wpAny_bind (wpAny_pure (wpAny_pure ?_))
  refine ⟨PySem.plainId_quiet F.excBase_ValueError.init.plain _, codeAny_builtin F.excBase_ValueError.initEntry ?_⟩
  refine PySem.W.exc_init_tree (cls := .ref C) (t0 := t1) (dv := none) (c2 := .none) (c3 := .none) (b4 := .bool false) ho hl fun h' k hx _ => ?_
  have J := I0.write (t' := tk) (x := a) (e := a) (o := exo a C none) (by rw [e]; exact True.intro) (.inl rfl) k ⟨_, hx⟩ (exo_ok hx)
  have eu : upd H a (exo a C none) = H := by
    funext b
    by_cases hb : b = a
    · rw [hb, upd_same, e]
    · rw [upd_ne hb]
  rw [eu] at J
  exact h _ J
theorem pet_supE (T : SupT X f cda cc D) (M : SupE X.K C D) (ha : PA X (e :: es) t)
    (hst : starEach (e :: es) X.env = (false, eval e X.env) :: starEach es X.env := by rfl) (hpl : (backTo pos (starEach es X.env)).any (·.1) = false := by rfl)
    (ht : eval (.Call (.Attribute (.Call (.Name "super" p0) [] [] p1) "__init__" apos) (e :: es) [] pos) X.env = (do
      let ov ← attributeBase (.Call (.Name "super" p0) [] [] p1) "__init__" X.env (eval (.Call (.Name "super" p0) [] [] p1) X.env)
      standAt apos.atName
      let (f, first) ← holding [ov] (getMethod ov "__init__" pl)
      callWith pos f first (backTo pos (starEach (e :: es) X.env)) (backToKw pos (keywordEach [] X.env))) := by rfl) :
    PEt X body (.Call (.Attribute (.Call (.Name "super" p0) [] [] p1) "__init__" apos) (e :: es) [] pos) (tSupE C t) := by
  refine ⟨fun pins s σ H Q I h => ?_⟩
  obtain ⟨a, h0, ea, q⟩ := h
  have mk : ∀ {s : Shared} {pins : List (Addr × Obj)} {H : Hp}, Inv X pins σ H s → H a = some (exo a C none) → ∃ ox, PySem.W.InstAt s.heap a ox C none := fun I ea => by
    obtain ⟨t1, ho⟩ := exo_at I.hok ea
    exact ⟨_, ho, rfl, rfl, trivial⟩
  obtain ⟨ox, J⟩ := mk I ea
  refine wpAt_superCall (pl := pl) (super_base T I h0 J M.sub (by decide +kernel) fun s1 I1 k1 => ?_) ht
  obtain ⟨ox1, J1⟩ := mk I1 ea
  have KX : X.K.In s1.heap := I1.kIn
  have hso := ClX.pin_at I1
  have hm := M.at_
  have hI : PySem.W.Looks (model X.prog X.w) s1.heap (isInstance (.ref a) (.type "ValueError")) true := J1.type.andThen (PySem.W.looks_subIn KX M.ve)
  obtain ⟨hh, gg, d, tt, os⟩ := s1
  cases hc : PySem.W.clsIn X.K C with
  | none => unfold PySem.W.ks_superIn at hm; rw [hc] at hm; cases hm
  | some cd =>
    unfold PySem.W.ks_superIn at hm
    rw [hc] at hm
    refine PySem.W.kxs_getMethod PySem.W.kxs_ValueError hso (PySem.W.looks_opaque KX M.any) (l₀ := cd.mro) ?_ rfl KX hm hI (PySem.W.ks_ne KX J1 hc) (by decide +kernel) ?_
    · exact fun A Q E s k q => wpAny_bind ((PySem.W.looks_clsIn KX hc) A _ E s k (wpAny_pure q))
    · have I2 : Inv X ((hh.objs.size, PySem.W.kxs_mw "ValueError.__init__" a) :: pins) σ H ⟨hh.push (PySem.W.kxs_mw "ValueError.__init__" a), gg, d, tt + 1, os⟩ :=
        ClX.pin_new (s := ⟨hh, gg, d, tt, os⟩) (t' := tt + 1) (ClX.unpin I1) (fun b o e => Heap.get?_push_of_some _ e) (Nat.le_refl _) (Heap.get?_push_size hh rfl) (fun v z => nomatch z)
      show wpAny _ _ (callWith pos (.ref hh.objs.size) [] (backTo pos (starEach (e :: es) X.env)) []) _ _ _
      rw [hst]
      refine PySem.W.kxs_callWith (i := "ValueError.__init__") (u := hh.objs.size) (x := a) (first := []) (by show (false || (backTo pos (starEach es X.env)).any (·.1)) = false; rw [hpl]; rfl) ?_
      have hrun := thn (ha.run pos _ _ σ H _ I2 q) (Q' := fun us s3 => PySem.W.KxsAt "ValueError.__init__" hh.objs.size a s3.heap ∧ wpAny (model X.prog X.w) X.A (call (.ref hh.objs.size) us) (EP X pins σ Q) X.xe s3) fun us s3 ⟨vs, H1, I3, r, hl, e3, q3⟩ =>
        ⟨ClX.pin_at I3, call_mw M.ox I3 e3 (by rw [← r.length, sizeLine_eq]; omega) fun s4 I4 => ⟨.non, H1, I4, rfl, q3⟩⟩
      rw [hst] at hrun
      exact PySem.Calls.evalArgs_plain hrun
end
end Sw

set_option Elab.async false
set_option linter.all false
set_option maxRecDepth 100000
set_option maxHeartbeats 4000000
namespace Sw
open PySem PySem.Spec PyProof.Rows L2

/-! ### a def with super() as it stands behind the top -/
structure FunS (P : Program) (K : PySem.W.Frag) (x qual : Str) (st : Stmt) (f cc D cda : Addr) (fd : FuncData) : Prop where
  ex : ∃ (oc : Value) (od : Option Addr) (dV kV doc pm : Value) (an : Option Addr) (ct : Value) (osl : Array (Option Value)), fd = PySem.W.ksFn x qual (defArgs st) (defBody st) (defScope st) dV kV doc pm an (.ref cda) ct cc ∧ K.lookup f = some ⟨oc, od, .func fd, osl⟩
  cd : PySem.W.codeIn K (.ref cda) qual = true
  co : ∃ ccl cdd vs ccs file tf, K.lookup cda = some ⟨ccl, cdd, .fields vs, ccs⟩ ∧ vs[2]? = some (.str file tf) ∧ ((P.main.file : Str) == file) = true
  ce : ∃ cl cld csl, K.lookup cc = some ⟨cl, cld, .cell (some (.ref D)), csl⟩
  dc : ∃ cdD, PySem.W.clsIn K D = some cdD
  kp : PySem.W.keepIn K (.ref f) = true
/-- what the text and the top say of super -/
structure SupTop (P : Program) (mg : Str → Option Value) : Prop where
  su : mg "super" = none
  tp : (P.main.scope.names.lookup ("super" : Str)).isSome = false

section
variable {P : Program} {w : World} {K : PySem.W.Frag} {mg : Str → Option Value} {base : Heap}
theorem FunS.ok {x qual : Str} {st : Stmt} {f cc D cda : Addr} {fd : FuncData} {N ps : List Str} {k : Nat} {sp : Sp} (F : FunS P K x qual st f cc D cda fd) (S : SScope N ps (defScope st)) (U : SupTop P mg)
    (ks : (defScope st).names.lookup ("super" : Str) = some .globalImplicit) (kc : (defScope st).names.lookup ("__class__" : Str) = some .free)
    (hp : ∃ ar, ((defArgs st).posonlyargs ++ (defArgs st).args).head? = some ar ∧ N[0]? = some ar.arg ∧ (defScope st).names.lookup ar.arg = some .local)
    (len : ∀ vs H Q E, sp vs H Q E → vs.length = ps.length)
    (hbody : ∀ (A : Around) (outer : List Env) (s : Shared) (H : Hp) (vs : List V) (Q : VK) (E : XK), Room k (A.deeper (PySem.W.ksEnv qual (defScope st) s.heap.objs.size f (.ref cda) cc)) →
      SupT (cxS (L2.CX P w) P w K mg base N qual (defScope st) f (.ref cda) cc A outer s H E) f cda cc D → Takes (cxS (L2.CX P w) P w K mg base N qual (defScope st) f (.ref cda) cc A outer s H E) (fun cls d _ H => E cls d H) → sp vs H Q E →
      ∃ t, PSst (cxS (L2.CX P w) P w K mg base N qual (defScope st) f (.ref cda) cc A outer s H E) (defBody st) (defBody st) t ∧ t { nx := fun _ H' => Q .non H', rt := Q } (L2.start N vs) H) : FnOk P w K mg base (L2.CX P w) (k + 1) f fd ps sp := by
  obtain ⟨oc, od, dV, kV, doc, pm, an, ct, osl, rfl, lk⟩ := F.ex
  obtain ⟨cl, cld, csl, hcc⟩ := F.ce
  obtain ⟨ar, h1, h2, h3⟩ := hp
  exact fn_sup lk F.cd hcc S len fun A outer s H vs Q E hr hsp => hbody A outer s H vs Q E hr
    ⟨rfl, rfl, ⟨oc, od, _, osl, ar, lk, h1, h2, h3⟩, F.co, F.ce, by show List.lookup ("__class__" : Str) [(("__class__" : Str), cc)] = _; simp [List.lookup], F.dc, U.su, ks, kc, U.tp⟩ (takes_of rfl rfl rfl rfl) hsp
/-- a plain def: its takes and its frame's handing on at hand -/
theorem okT {x qual : Str} {st : Stmt} {f : Addr} {fd : FuncData} {N ps : List Str} {k : Nat} {sp : Sp} (F : Fun K x qual st f fd) (S : FnScope N ps (defScope st)) (len : ∀ vs H Q E, sp vs H Q E → vs.length = ps.length)
    (hbody : ∀ (cdv : Value) (A : Around) (outer : List Env) (s : Shared) (H : Hp) (vs : List V) (Q : VK) (E : XK), Room k (A.deeper (envOfC qual (defScope st) s.heap.objs.size f cdv)) →
      Takes (cxOf (L2.CX P w) P w K mg base N qual (defScope st) f cdv A outer s H E) (fun cls d _ H => E cls d H) →
      PassesOwn (model P w) (A.deeper (envOfC qual (defScope st) s.heap.objs.size f cdv)) (envOfC qual (defScope st) s.heap.objs.size f cdv) (cxOf (L2.CX P w) P w K mg base N qual (defScope st) f cdv A outer s H E).xe → sp vs H Q E →
      ∃ t, PSs (cxOf (L2.CX P w) P w K mg base N qual (defScope st) f cdv A outer s H E) (defBody st) t ∧ t { nx := fun _ H' => Q .non H', rt := Q } (L2.start N vs) H) : FnOk P w K mg base (L2.CX P w) (k + 1) f fd ps sp :=
  F.okX S len fun cdv A outer s H vs Q E hr h => hbody cdv A outer s H vs Q E hr (takes_of rfl rfl rfl rfl) (passes_of (X := cxOf (L2.CX P w) P w K mg base N qual (defScope st) f cdv A outer s H E) rfl) h

/-! ### the __init__ of an exception with one field -/
def spExc1 (C : Addr) (fld : Str) : Sp := fun vs H Q _ => ∃ a v, vs = [.ref a, v] ∧ H a = some (exo a C none) ∧ ∀ d, H d = none → d ≠ a → Q .non (upd (upd H d (exd d [(fld, v)])) a (exo a C (some d)))
theorem ok_exc1 {qual msg fld : Str} {st : Stmt} {f cc C cda : Addr} {fd : FuncData} {p0 p1 p2 p3 p4 p5 q1 q2 q3 q4 : Pos} {j : Nat} (F : FunS P K "__init__" qual st f cc C cda fd) (U : SupTop P mg) (M : SupE K C C) (hno : PySem.W.findIn K (.ref C) fld = some none)
    (S : SScope ["self", fld] ["self", fld] (defScope st))
    (ks : (defScope st).names.lookup ("super" : Str) = some .globalImplicit) (kc : (defScope st).names.lookup ("__class__" : Str) = some .free)
    (hp : ∃ ar, ((defArgs st).posonlyargs ++ (defArgs st).args).head? = some ar ∧ (["self", fld] : List Str)[0]? = some ar.arg ∧ (defScope st).names.lookup ar.arg = some .local)
    (hb : defBody st = [.Expr (.Call (.Attribute (.Call (.Name "super" p0) [] [] p1) "__init__" p2) [.Constant (.str msg) j p3] [] p4) p5, .Assign [.Attribute (.Name "self" q1) fld q2] (.Name fld q3) q4])
    (ht : ∀ env : Env, ∃ pl, eval (.Call (.Attribute (.Call (.Name "super" p0) [] [] p1) "__init__" p2) [.Constant (.str msg) j p3] [] p4) env = (do
      let ov ← attributeBase (.Call (.Name "super" p0) [] [] p1) "__init__" env (eval (.Call (.Name "super" p0) [] [] p1) env)
      standAt p2.atName
      let (f, first) ← holding [ov] (getMethod ov "__init__" pl)
      callWith p4 f first (backTo p4 (starEach [.Constant (.str msg) j p3] env)) (backToKw p4 (keywordEach [] env))))
    (hd : (fld == ("__debug__" : Str)) = false := by decide) (hcd : (fld == ("__classdict__" : Str)) = false := by decide) :
    FnOk P w K mg base (L2.CX P w) 1 f fd ["self", fld] (spExc1 C fld) := by
  refine F.ok S U ks kc hp (fun vs H Q E h => ?_) (fun A outer s H vs Q E hr T tk h => ?_)
  · obtain ⟨a, v, rfl, _⟩ := h
    rfl
  · obtain ⟨a, v, rfl, ha, q⟩ := h
    rw [hb]
    obtain ⟨pl, hte⟩ := ht (PySem.W.ksEnv qual (defScope st) s.heap.objs.size f (.ref cda) cc)
    refine ⟨_, PSst.cons (pst_expr (pet_supE (pl := pl) T M (pa_cons pe_str pa_nil) rfl rfl hte) rfl)
      (PSst.of (pss_one (ps_ost (pe_var (i := 0) rfl (.inl (S.par "self" (List.Mem.head _)))) (pe_var (i := 1) rfl (.inl (S.par fld (List.Mem.tail _ (List.Mem.head _)))) hd hcd) rfl))), ?_⟩
    refine ⟨a, rfl, ha, by show 1 ≤ 1000; decide, ha, v, rfl, .ref a, rfl, a, C, rfl, M.ox, hno, .inl ⟨ha, fun dx n ne => q dx n ne⟩⟩
end

/-! ### X(e), to be raised -/
structure Exc1 (P : Program) (w : World) (K : PySem.W.Frag) (mg : Str → Option Value) (base : Heap) (x : Str) (C : Addr) (fld : Str) : Prop where
  ox : OexC K C
  at_ : mg x = some (.ref C)
  ex : ∃ f, PySem.W.findIn K (.ref C) "__init__" = some (some (.ref f)) ∧ PySem.W.typeIn K (.ref f) = some (.type "function") ∧ Cal P w K mg base 1 f 2 [] (fun vs _ => spExc1 C fld vs)
/-- X(e): its class C, its dict new, the field in it -/
def tExc1 (C : Addr) (fld : Str) (ta : TA) : L2.St → Hp → XK → Prop := fun σ H Q => ta σ H fun vs H1 => ∃ v, vs = [v] ∧ ∀ d, H1 d = none → Q (.ref C) (some d) (upd H1 d (.xd [(fld, v)]))
section
variable {X : Cx} {x fld : Str} {C : Addr} {e : Expr} {p pos : Pos} {ta : TA}
theorem pmk_exc1 (T : Exc1 X.prog X.w X.K X.mg X.base x C fld) (hr : Room 2 X.A) (ha : PA X [e] ta) (hg : Gl X x := by rfl)
    (hdb : (x == ("__debug__" : Str)) = false := by decide) (he : starEach (e :: []) X.env = (false, eval e X.env) :: starEach [] X.env := by rfl) (hpl : (backTo pos (starEach [] X.env)).any (·.1) = false := by rfl) :
    PMk X (.Call (.Name x p) [e] [] pos) (tExc1 C fld ta) := by
  intro pins s σ H Q I h
  obtain ⟨nm, q, N, bs, bm, sn, sub, ab, col, dd, k0, k1, k2, k3, k5, hC, hbm⟩ := T.ox.cls
  obtain ⟨fI, iC, tI, F1⟩ := T.ex
  refine wpAny_Call_Name_kw (ld_glob I hg T.at_ ?_ hdb)
  refine PySem.W.callWith_K (h₀ := X.base) I.ok.mod.kin T.ox.kC (thn (ha.run pos pins s σ H _ I h) fun us s1 ⟨vs, H1, I1, r1, v, ev, q1⟩ => ⟨I1.kIn, ?_⟩) he hpl
  subst ev
  show wpAny _ _ (call (.ref C) us) _ _ _
  obtain ⟨hp, g, dr, tk, os⟩ := s1
  have hsz : hp.objs.size ≤ hp.objs.size + 1 := Nat.le_succ _
  have hn : H1 (hp.objs.size + 1) = none := I1.hok.fresh hsz
  have kk : ∀ b o, hp.get? b = some o → ((hp.push (PySem.W.kdv_tup us)).push (PySem.HandSPX.excO C hp.objs.size)).get? b = some o := fun b o e => Heap.get?_push_of_some _ (Heap.get?_push_of_some _ e)
  have hget : ((hp.push (PySem.W.kdv_tup us)).push (PySem.HandSPX.excO C hp.objs.size)).get? (hp.objs.size + 1) = some (PySem.HandSPX.excO C hp.objs.size) := by heap_get
  have I2 : Inv X pins σ (upd H1 (hp.objs.size + 1) (exo (hp.objs.size + 1) C none)) ⟨(hp.push (PySem.W.kdv_tup us)).push (PySem.HandSPX.excO C hp.objs.size), g, dr, tk, os⟩ :=
    I1.laid (t' := tk) (a := hp.objs.size + 1) (o := exo (hp.objs.size + 1) C none) (h' := (hp.push (PySem.W.kdv_tup us)).push (PySem.HandSPX.excO C hp.objs.size)) kk hsz (exo_ok hget)
  have r2 : Vals [V.ref (hp.objs.size + 1), v] (Value.ref (hp.objs.size + 1) :: us) := .cons rfl r1
  have hus : us.length ≤ sizeLine := by
    rw [← Paired.length r1, sizeLine_eq]
    show 1 ≤ 16777216
    decide
  have hq : spExc1 C fld [V.ref (hp.objs.size + 1), v] (upd H1 (hp.objs.size + 1) (exo (hp.objs.size + 1) C none))
      (fun u H2 => u = .non ∧ ∃ (d : Addr) (fs : List (Str × V)), H2 (hp.objs.size + 1) = some (exo (hp.objs.size + 1) C (some d)) ∧ H2 d = some (exd d fs) ∧ H1 d = none ∧ Q (.ref C) (some d) (upd (del H2 (hp.objs.size + 1)) d (.xd fs))) (fun _ _ _ => False) := by
    refine ⟨_, v, rfl, upd_same, fun d hd hne => ⟨rfl, d, _, upd_same, (upd_ne hne).trans upd_same, ?_, ?_⟩⟩
    · rw [upd_ne hne] at hd
      exact hd
    · have hd1 : H1 d = none := by
        rw [upd_ne hne] at hd
        exact hd
      have e : upd (del (upd (upd (upd H1 (hp.objs.size + 1) (exo (hp.objs.size + 1) C none)) d (exd d [(fld, v)])) (hp.objs.size + 1) (exo (hp.objs.size + 1) C (some d))) (hp.objs.size + 1)) d (.xd [(fld, v)]) = upd H1 d (.xd [(fld, v)]) := by
        funext b
        by_cases hb : b = d
        · rw [hb, upd_same, upd_same]
        · rw [upd_ne hb, upd_ne hb]
          by_cases ha : b = hp.objs.size + 1
          · rw [ha, del_same, hn]
          · rw [del_ne ha, upd_ne ha, upd_ne hb, upd_ne ha]
      rw [e]
      exact q1 d hd1
  refine wpAny_call (PySem.HandSPX.call_own F.excBase_ValueError (fun Y => PySem.HandSPX.refsVE_contains Y bm hbm) (I1.kIn _ _ hC) (PySem.W.looks_findIn I1.kIn iC) (fun self => PySem.W.bind_fn I1.kIn self tI) hus
    (codeAny_mono (F1 _ X.stack _ _ (Value.ref (hp.objs.size + 1) :: us) [] _ [] _ (fun _ _ _ => False) ((hr.mono (by decide : 2 ≤ 2)).make C us []) (I2.env0.make C us []) r2 .nil rfl rfl hq) fun r s' hq' => ?_))
  cases r with
  | error er => exact passL (X := X) pins σ _ _ er s' I2 hq'
  | ok fl =>
    cases fl with
    | ret u =>
      obtain ⟨v, H2, os2, bare2, un2, hok2, rv, ev, d, fs, ea, ed, hd1, q2⟩ := hq'
      subst ev
      obtain ⟨h2, g2, d2, t2, os'⟩ := s'
      exact ⟨rv, mk_end (raises_own T.ox.exC T.ox.tyC) I1 hsz kk un2 hok2 os2 bare2 ea ed hd1 q2⟩
    | next => exact False.elim hq'
    | brk => exact False.elim hq'
    | cont => exact False.elim hq'
end
end Sw

set_option Elab.async false
set_option linter.all false
set_option maxRecDepth 100000
set_option maxHeartbeats 4000000
namespace Sw
open PySem PySem.Spec PyProof.Rows L2

/-! ### worlds: what is known of the heap (G), and a resource that changes (R) -/
structure Res where
  L : List Addr
  S : Hp → Prop
  st : ∀ H H', S H → (∀ b ∈ L, H' b = H b) → S H'
  dm : ∀ H, S H → ∀ b ∈ L, H b ≠ none
structure Wd (G : Hp) (R : Res) (H : Hp) : Prop where
  sub : Same G H
  out : ∀ b ∈ R.L, G b = none
  res : R.S H
def R0 : Res := ⟨[], fun _ => True, fun _ _ _ _ => True.intro, fun _ _ b h => by cases h⟩
section
variable {G G' H H' : Hp} {R : Res} {p : Addr} {o o' : HO}
theorem Wd.get (w : Wd G R H) (h : G p = some o) : H p = some o := w.sub _ _ h
theorem Wd.free (w : Wd G R H) (h : H p = none) : G p = none := Same.free w.sub h
theorem Wd.notin (w : Wd G R H) (h : G p = some o) : p ∉ R.L := fun hp => by
  have := w.out p hp
  rw [h] at this
  cases this
theorem Wd.notin' (w : Wd G R H) (h : H p = none) : p ∉ R.L := fun hp => w.res |> fun r => R.dm H r p hp h
theorem Wd.same (w : Wd G R H) (e : Same H H') : Wd G R H' := ⟨Same.trans w.sub e, w.out, R.st _ _ w.res fun b hb => by
  cases q : H b with
  | none => exact absurd q (R.dm H w.res b hb)
  | some u => exact e b u q⟩
theorem Wd.new (w : Wd G R H) (h : H p = none) : Wd (upd G p o) R (upd H p o) := by
  refine ⟨fun b u e => ?_, fun b hb => ?_, R.st _ _ w.res fun b hb => ?_⟩
  · by_cases hb : b = p
    · subst hb; rw [upd_same] at e ⊢; exact e
    · rw [upd_ne hb] at e ⊢; exact w.sub _ _ e
  · rw [upd_ne (fun e => w.notin' h (by rw [← e]; exact hb))]
    exact w.out b hb
  · rw [upd_ne (fun e => w.notin' h (by rw [← e]; exact hb))]
theorem Wd.set (w : Wd G R H) (h : G p = some o) : Wd (upd G p o') R (upd H p o') := by
  refine ⟨fun b u e => ?_, fun b hb => ?_, R.st _ _ w.res fun b hb => ?_⟩
  · by_cases hb : b = p
    · subst hb; rw [upd_same] at e ⊢; exact e
    · rw [upd_ne hb] at e ⊢; exact w.sub _ _ e
  · rw [upd_ne (fun e => w.notin h (by rw [← e]; exact hb))]
    exact w.out b hb
  · rw [upd_ne (fun e => w.notin h (by rw [← e]; exact hb))]
/-- a new object that stands already -/
theorem Wd.add (w : Wd G R H) (e : Same H H') (h : H p = none) (h' : H' p = some o) : Wd (upd G p o) R H' := by
  have w' := w.same e
  refine ⟨fun b u e => ?_, fun b hb => ?_, w'.res⟩
  · by_cases hb : b = p
    · subst hb; rw [upd_same] at e; cases e; exact h'
    · rw [upd_ne hb] at e; exact w'.sub _ _ e
  · rw [upd_ne (fun e => w.notin' h (by rw [← e]; exact hb))]
    exact w.out b hb
theorem Wd.drop (w : Wd G R H) (e : Same G' G) : Wd G' R H := ⟨Same.trans e w.sub, fun b hb => Same.free e (w.out b hb), w.res⟩
theorem Same.newG (h : G p = none) : Same G (upd G p o) := fun b u e => by
  rw [upd_ne (ne_of_none e h)]
  exact e
theorem Wd.r0 (H : Hp) : Wd H R0 H := ⟨Same.refl H, fun b h => absurd h (by simp [R0]), True.intro⟩
theorem upd_old {a b : Addr} (h : G b = some o) (hn : G a = none) : upd G a o' b = some o := by
  rw [upd_ne (ne_of_none h hn)]
  exact h
theorem upd_oth {a b : Addr} (h : G b = some o) (hn : b ≠ a) : upd G a o' b = some o := by
  rw [upd_ne hn]
  exact h
theorem upd_nonne {a b : Addr} (h : upd G a o b = none) : G b = none ∧ b ≠ a := by
  have : b ≠ a := fun e => by
    subst e
    rw [upd_same] at h
    cases h
  rw [upd_ne this] at h
  exact ⟨h, this⟩
end

/-! ### one step of a reading -/
/-- a new object -/
def NewO (o : HO) (H : Hp) (Q : VK) : Prop := ∀ p, H p = none → Q (.ref p) (upd H p o)
section
variable {σ : L2.St} {H : Hp} {Q : VK} {K : PySem.W.Frag} {i : Nat} {v x y : V} {ta tb te tv to ti tk : TE} {t u c : TT} {D : Ends} {s1 s2 : TS} {g : TG} {tr tq : TA} {QA : List V → Hp → Prop} {QT : Bool → Hp → Prop}
theorem g_var (h : σ[i]? = some (some v)) (k : Q v H) : tVar i σ H Q := ⟨v, h, k⟩
theorem g_c (k : Q v H) : tC v σ H Q := k
theorem g_op {r : R2} (k : ta σ H fun x H1 => tb σ H1 fun y H2 => r x y H2 Q) : tOp r ta tb σ H Q := k
theorem g_un {r : V → Hp → VK → Prop} (k : ta σ H fun x H1 => r x H1 Q) : tUn r ta σ H Q := k
theorem g_I0 {f : Int → Int → V} {a b : Int} (k : Q (f a b) H) : rI0 f (.int a) (.int b) H Q := ⟨a, b, rfl, rfl, k⟩
theorem g_I {C : Int → Int → Prop} {f : Int → Int → V} {a b : Int} (hc : C a b) (k : Q (f a b) H) : rI C f (.int a) (.int b) H Q := ⟨a, b, rfl, rfl, hc, k⟩
theorem g_test {q : TE} (k : q σ H fun x H' => ∃ b, x = .bl b ∧ QT b H') : tTest q σ H QT := k
theorem g_B {q : TE} (k : q σ H fun x H' => ∃ b, x = .bl b ∧ QT b H') : tB q σ H QT := k
theorem g_bl {b : Bool} {P : Bool → Prop} (k : P b) : ∃ c, V.bl b = .bl c ∧ P c := ⟨b, rfl, k⟩
theorem g_and (k : t σ H fun b H1 => if b = true then u σ H1 QT else QT false H1) : tAnd t u σ H QT := k
theorem g_or (k : t σ H fun b H1 => if b = true then QT true H1 else u σ H1 QT) : tOr t u σ H QT := k
theorem g_not (k : t σ H fun b H1 => QT (!b) H1) : tNot t σ H QT := k
theorem g_if (k : c σ H fun b H1 => if b = true then ta σ H1 Q else tb σ H1 Q) : tIf c ta tb σ H Q := k
theorem g_nil (k : QA [] H) : tNil σ H QA := k
theorem g_cons (k : ta σ H fun x H1 => tr σ H1 fun xs H2 => QA (x :: xs) H2) : tCons ta tr σ H QA := k
theorem g_tup (k : tr σ H fun xs H1 => xs.length ≤ sizeLine ∧ NewO (.tup xs) H1 Q) : tTup tr σ H Q := k
theorem g_lst (k : tr σ H fun xs H1 => xs.length ≤ sizeLine ∧ NewO (.lst xs) H1 Q) : tLst tr σ H Q := k
theorem g_seq (k : s1 { D with nx := s2 D } σ H) : tSeq s1 s2 D σ H := k
theorem g_next (k : D.nx σ H) : tNext D σ H := k
theorem g_asg (k : te σ H fun x H1 => g x σ H1 D.nx) : tAsg te g D σ H := k
theorem g_name {P : L2.St → Hp → Prop} (k : P (σ.set i (some v)) H) : gName i v σ H P := k
theorem g_sub {ts : TSet} {P : L2.St → Hp → Prop} (k : to σ H fun o H1 => ti σ H1 fun i H2 => ts o i v H2 fun H3 => P σ H3) : gSub to ti ts v σ H P := k
theorem g_drop (k : te σ H fun _ H1 => D.nx σ H1) : tDrop te D σ H := k
theorem g_ret (k : te σ H D.rt) : tRet te D σ H := k
theorem g_retN (k : D.rt .non H) : tRetN D σ H := k
theorem g_ifS (k : c σ H fun b H1 => if b = true then s1 D σ H1 else s2 D σ H1) : tIfS c s1 s2 D σ H := k
theorem g_callB {r : List V → Hp → VK → Prop} (k : tr σ H fun vs H1 => r vs H1 Q) : tCB r tr σ H Q := k
theorem g_calG {n m : Nat} {sp : SpC} {W : WX} (k : tr σ H fun vs H1 => tq σ H1 fun zs H2 => vs.length = n ∧ zs.length = m ∧ sp vs zs H2 Q (WE W σ)) : tCalG n m sp W tr tq σ H Q := k
theorem g_mkG {n m : Nat} {C : Addr} {sp : SpC} {W : WX} (k : tr σ H fun vs H1 => tq σ H1 fun zs H2 => vs.length = n ∧ zs.length = m ∧ ∀ x dx, H2 x = none → H2 dx = none → dx ≠ x → sp (.ref x :: vs) zs (upd (upd H2 dx (.own x)) x (.ins C dx [])) (fun v H3 => v = .non ∧ Q (.ref x) H3) (WE W σ)) : tMkG C n m sp W tr tq σ H Q := k
theorem iteD {P A B : Prop} [Decidable P] (h1 : P → A) (h2 : ¬ P → B) : if decide P = true then A else B := by
  by_cases h : P
  · rw [decide_eq_true h]; exact iteT (h1 h)
  · rw [decide_eq_false h]; exact iteF (h2 h)
theorem iteN {P A B : Prop} [Decidable P] (h1 : ¬ P → A) (h2 : P → B) : if (!decide P) = true then A else B := by
  by_cases h : P
  · rw [decide_eq_true h]; exact iteF (h2 h)
  · rw [decide_eq_false h]; exact iteT (h1 h)
theorem iteB {b : Bool} {A B : Prop} (h1 : b = true → A) (h2 : b = false → B) : if b = true then A else B := by
  cases b
  · exact iteF (h2 rfl)
  · exact iteT (h1 rfl)
theorem iteNT {A B : Prop} (h : B) : if (!true) = true then A else B := iteF h
theorem iteNF {A B : Prop} (h : A) : if (!false) = true then A else B := iteT h
theorem iteBN {b : Bool} {A B : Prop} (h1 : b = false → A) (h2 : b = true → B) : if (!b) = true then A else B := by
  cases b
  · exact iteT (h1 rfl)
  · exact iteF (h2 rfl)
end
end Sw

set_option Elab.async false
set_option linter.all false
set_option maxRecDepth 100000
set_option maxHeartbeats 4000000
namespace Sw
open PySem PySem.Spec PyProof.Rows L2

/-! ### operators whatever the kinds -/
abbrev rAddI : R2 := rI0 fun i j => .int (i + j)
abbrev rAddS : R2 := fun x y H Q => ∃ i j, x = .str i ∧ y = .str j ∧ i.length + j.length ≤ sizeLine ∧ Q (.str (i ++ j)) H
def aAdd (K : PySem.W.Frag) : R2 := fun x y H Q => rAddI x y H Q ∨ (rAddS x y H Q ∨ (rCat x y H Q ∨ rCatA K x y H Q))
def aMul (K : PySem.W.Frag) : R2 := fun x y H Q => rI CMul (fun i j => .int (i * j)) x y H Q ∨ rRep x y H Q
/-- lists of flat values, item by item -/
def eqVs : List V → List V → Bool
  | [], [] => true
  | x :: xs, y :: ys => eqV x y && eqVs xs ys
  | [], _ :: _ => false
  | _ :: _, [] => false
theorem eqVs_len : ∀ {xs ys : List V}, xs.length ≠ ys.length → eqVs xs ys = false
  | [], [], h => absurd rfl h
  | [], _ :: _, _ => rfl
  | _ :: _, [], _ => rfl
  | x :: xs, y :: ys, h => by
    show (eqV x y && eqVs xs ys) = false
    rw [eqVs_len (xs := xs) (ys := ys) fun e => h (by rw [List.length_cons, List.length_cons, e]), Bool.and_false]
theorem eqVs_all : ∀ {xs ys : List V}, xs.length = ys.length → (List.range xs.length).all (fun j => eqV (xs.getD j .non) (ys.getD j .non)) = eqVs xs ys
  | [], [], _ => rfl
  | [], _ :: _, h => by cases h
  | _ :: _, [], h => by cases h
  | x :: xs, y :: ys, h => by
    rw [List.length_cons, List.range_succ_eq_map, List.all_cons, List.all_map]
    show (eqV x y && (List.range xs.length).all (fun j => eqV (xs.getD j .non) (ys.getD j .non))) = (eqV x y && eqVs xs ys)
    rw [eqVs_all (Nat.succ.inj h)]
def rEqF (K : PySem.W.Frag) : R2 := fun x y H Q => ∃ a b xs ys, x = .ref a ∧ y = .ref b ∧ SqL K H a xs ∧ SqL K H b ys ∧ xs.all flatV = true ∧ ys.all flatV = true ∧ Q (.bl (eqVs xs ys)) H
def rNeF (K : PySem.W.Frag) : R2 := fun x y H Q => ∃ a b xs ys, x = .ref a ∧ y = .ref b ∧ SqL K H a xs ∧ SqL K H b ys ∧ xs.all flatV = true ∧ ys.all flatV = true ∧ Q (.bl (!eqVs xs ys)) H
theorem flat_at {xs : List V} {us : List Value} (r : Vals xs us) (hf : xs.all flatV = true) {j : Nat} (h : j < us.toArray.size) : RelV (xs.getD j .non) us.toArray[j] ∧ flatV (xs.getD j .non) = true := by
  have hl := r.length
  have hj : j < us.length := by simpa using h
  have hx : xs[j]? = some xs[j] := List.getElem?_eq_getElem (by omega)
  have e : xs.getD j .non = xs[j] := by
    rw [List.getD_eq_getElem?_getD, hx]
    rfl
  rw [e]
  refine ⟨?_, List.all_eq_true.mp hf _ (List.getElem_mem _)⟩
  have := r.get hx
  obtain ⟨u, hu, ru⟩ := this
  rw [List.getElem?_eq_getElem hj] at hu
  cases hu
  simpa using ru
theorem op_eqF {X : Cx} (hu : X.A.units + 64 < cLine) : OpR X (compareOp .Eq) (rEqF X.K) := by
  intro pins s σ H x y v u Q I rx ry h
  obtain ⟨a, b, xs, ys, rfl, rfl, ha, hb, fa, fb, q⟩ := h
  cases rx
  cases ry
  obtain ⟨i1, r1, p1, z1⟩ := I.list ha
  obtain ⟨i2, r2, p2, z2⟩ := I.list hb
  have l1 := r1.length
  have l2 := r2.length
  by_cases hl : xs.length = ys.length
  · have := SeqAt.RcAt.lists (A := X.A) (e := fun j => eqV (xs.getD j .non) (ys.getD j .non)) p1.isList p2.isList (by simp; omega) (by omega) (fun j h1 h2 => by
      obtain ⟨a1, a2⟩ := flat_at r1 fa h1
      obtain ⟨b1, b2⟩ := flat_at r2 fb h2
      exact eqAt_V a1 b1 a2 b2) X.prog X.w
    refine this _ _ ?_
    rw [show i1.toArray.size = xs.length by simp; omega, eqVs_all hl]
    exact ⟨.bl _, H, I, rfl, q⟩
  · refine SeqAt.RcAt.lists_lengths (A := X.A) p1.isList p2.isList (by simp; omega) (by omega) X.prog X.w _ _ ?_
    rw [eqVs_len hl] at q
    exact ⟨.bl _, H, I, rfl, q⟩
theorem op_neF {X : Cx} (hu : X.A.units + 64 < cLine) : OpR X (compareOp .NotEq) (rNeF X.K) := by
  intro pins s σ H x y v u Q I rx ry h
  obtain ⟨a, b, xs, ys, rfl, rfl, ha, hb, fa, fb, q⟩ := h
  cases rx
  cases ry
  obtain ⟨i1, r1, p1, z1⟩ := I.list ha
  obtain ⟨i2, r2, p2, z2⟩ := I.list hb
  have l1 := r1.length
  have l2 := r2.length
  by_cases hl : xs.length = ys.length
  · have := SeqAt.RcNeAt.lists (A := X.A) (e := fun j => eqV (xs.getD j .non) (ys.getD j .non)) p1.isList p2.isList (by simp; omega) (by omega) (fun j h1 h2 => by
      obtain ⟨a1, a2⟩ := flat_at r1 fa h1
      obtain ⟨b1, b2⟩ := flat_at r2 fb h2
      exact eqAt_V a1 b1 a2 b2) X.prog X.w
    refine this _ _ ?_
    rw [show i1.toArray.size = xs.length by simp; omega, eqVs_all hl]
    exact ⟨.bl _, H, I, rfl, q⟩
  · refine SeqAt.RcNeAt.lists_lengths (A := X.A) p1.isList p2.isList (by simp; omega) (by omega) X.prog X.w _ _ ?_
    rw [eqVs_len hl] at q
    exact ⟨.bl _, H, I, rfl, q⟩
def aEq (K : PySem.W.Frag) : R2 := fun x y H Q => rEq x y H Q ∨ (rEqD K x y H Q ∨ rEqF K x y H Q)
def aNe (K : PySem.W.Frag) : R2 := fun x y H Q => rNe x y H Q ∨ (rNeD K x y H Q ∨ rNeF K x y H Q)
abbrev rInSg : R2 := fun x y H Q => ∃ (c : Nat) (z : Str), x = .str ⟨#[c]⟩ ∧ y = .str z ∧ Q (.bl (decide (c ∈ z.cps.toList))) H
abbrev rNiSg : R2 := fun x y H Q => ∃ (c : Nat) (z : Str), x = .str ⟨#[c]⟩ ∧ y = .str z ∧ Q (.bl (!decide (c ∈ z.cps.toList))) H
def aIn (K : PySem.W.Frag) : R2 := fun x y H Q => rIn K false x y H Q ∨ rInSg x y H Q
def aNi (K : PySem.W.Frag) : R2 := fun x y H Q => rIn K true x y H Q ∨ rNiSg x y H Q
def aSl (K : PySem.W.Frag) : V → Option Int → Option Int → Hp → VK → Prop := fun x lo hi H Q => rSlL K x lo hi H Q ∨ (rSlS x lo hi H Q ∨ rSlT K x lo hi H Q)
def aLen (K : PySem.W.Frag) : List V → Hp → VK → Prop := fun xs H Q => ∃ x n, xs = [x] ∧ LenV K x H n ∧ Q (.int n) H
section
variable {X : Cx}
theorem oa_add : OpR X (binaryOp .Add) (aAdd X.K) := op_add.or (op_add_str.or (op_cat.or op_catA))
theorem oa_mul : OpR X (binaryOp .Mult) (aMul X.K) := op_mul.or op_rep
theorem oa_eq (hu : X.A.units + 64 < cLine) : OpR X (compareOp .Eq) (aEq X.K) := op_eq.or ((op_eqD hu).or (op_eqF hu))
theorem oa_ne (hu : X.A.units + 64 < cLine) : OpR X (compareOp .NotEq) (aNe X.K) := op_ne.or ((op_neD hu).or (op_neF hu))
theorem oa_in : OpR X (compareOp .In) (aIn X.K) := op_in_seq.or op_in_sign
theorem oa_ni : OpR X (compareOp .NotIn) (aNi X.K) := op_notIn_seq.or op_notIn_sign
theorem sa : SlR X (aSl X.K) := sl_list.or (sl_str.or sl_tup)
theorem ca_len : CallR X (.builtin "len") (aLen X.K) := call_len
end

/-! ### their steps, in a world -/
section
variable {G H : Hp} {R : Res} {K : PySem.W.Frag} {Q : VK} {a b l p : Addr} {xs ys zs : List V} {i j : Int} {x y : Str}
theorem g_addI (k : Q (.int (i + j)) H) : aAdd K (.int i) (.int j) H Q := .inl ⟨i, j, rfl, rfl, k⟩
theorem g_addS (hz : x.length + y.length ≤ sizeLine) (k : Q (.str (x ++ y)) H) : aAdd K (.str x) (.str y) H Q := .inr (.inl ⟨x, y, rfl, rfl, hz, k⟩)
theorem g_addL (w : Wd G R H) (h1 : G a = some (.lst xs)) (h2 : G b = some (.lst ys)) (hz : xs.length + ys.length ≤ sizeLine) (k : ∀ p H', G p = none → Wd (upd G p (.lst (xs ++ ys))) R H' → Q (.ref p) H') : aAdd K (.ref a) (.ref b) H Q :=
  .inr (.inr (.inl ⟨a, b, xs, ys, rfl, rfl, w.get h1, w.get h2, hz, fun p hp => k p _ (w.free hp) (w.new hp)⟩))
theorem g_addT (w : Wd G R H) (h1 : SqT K G a xs) (h2 : SqT K G b ys) (n1 : xs ≠ []) (n2 : ys ≠ []) (hz : xs.length + ys.length ≤ sizeLine) (k : ∀ p H', G p = none → Wd (upd G p (.tup (xs ++ ys))) R H' → Q (.ref p) H') : aAdd K (.ref a) (.ref b) H Q :=
  .inr (.inr (.inr ⟨a, b, xs, ys, rfl, rfl, Evl.ex_t w.sub h1, Evl.ex_t w.sub h2, hz, fun e => absurd e n1, fun _ e => absurd e n2, fun _ _ p hp => k p _ (w.free hp) (w.new hp)⟩))
theorem g_mulI (hc : CMul i j) (k : Q (.int (i * j)) H) : aMul K (.int i) (.int j) H Q := .inl ⟨i, j, rfl, rfl, hc, k⟩
theorem g_mulL (w : Wd G R H) (h1 : G a = some (.lst xs)) (h : -(2 ^ 63) ≤ i) (h' : i < 2 ^ 63) (hz : xs.length * i.toNat ≤ sizeLine) (k : ∀ p H', G p = none → Wd (upd G p (.lst (List.replicate i.toNat xs).flatten)) R H' → Q (.ref p) H') : aMul K (.ref a) (.int i) H Q :=
  .inr ⟨a, i, xs, rfl, rfl, w.get h1, h, h', hz, fun p hp => k p _ (w.free hp) (w.new hp)⟩
theorem g_eqS {u v : V} (hs : scal u v = true) (k : Q (.bl (decide (u = v))) H) : aEq K u v H Q := .inl ⟨hs, k⟩
theorem g_neS {u v : V} (hs : scal u v = true) (k : Q (.bl (!decide (u = v))) H) : aNe K u v H Q := .inl ⟨hs, k⟩
theorem g_eqD {u v : V} {d e : PyData} (h1 : Dp K H u d) (h2 : Dp K H v e) (s1 : SeqAt.shaped d = true) (s2 : SeqAt.shaped e = true) (k : Q (.bl (PyData.eqv d e)) H) : aEq K u v H Q := .inr (.inl ⟨d, e, h1, h2, s1, s2, k⟩)
theorem g_neD {u v : V} {d e : PyData} (h1 : Dp K H u d) (h2 : Dp K H v e) (s1 : SeqAt.shaped d = true) (s2 : SeqAt.shaped e = true) (k : Q (.bl (!PyData.eqv d e)) H) : aNe K u v H Q := .inr (.inl ⟨d, e, h1, h2, s1, s2, k⟩)
theorem g_eqF (w : Wd G R H) (h1 : SqL K G a xs) (h2 : SqL K G b ys) (f1 : xs.all flatV = true) (f2 : ys.all flatV = true) (k : Q (.bl (eqVs xs ys)) H) : aEq K (.ref a) (.ref b) H Q := .inr (.inr ⟨a, b, xs, ys, rfl, rfl, Evl.ex_l w.sub h1, Evl.ex_l w.sub h2, f1, f2, k⟩)
theorem g_neF (w : Wd G R H) (h1 : SqL K G a xs) (h2 : SqL K G b ys) (f1 : xs.all flatV = true) (f2 : ys.all flatV = true) (k : Q (.bl (!eqVs xs ys)) H) : aNe K (.ref a) (.ref b) H Q := .inr (.inr ⟨a, b, xs, ys, rfl, rfl, Evl.ex_l w.sub h1, Evl.ex_l w.sub h2, f1, f2, k⟩)
theorem g_inL (w : Wd G R H) {u : V} (h : SqL K G p xs) (hx : flatV u = true) (ha : xs.all flatV = true) (k : Q (.bl (inV u xs)) H) : aIn K u (.ref p) H Q := .inl ⟨p, xs, rfl, .inl (Evl.ex_l w.sub h), hx, ha, k⟩
theorem g_inT (w : Wd G R H) {u : V} (h : SqT K G p xs) (hx : flatV u = true) (ha : xs.all flatV = true) (k : Q (.bl (inV u xs)) H) : aIn K u (.ref p) H Q := .inl ⟨p, xs, rfl, .inr (Evl.ex_t w.sub h), hx, ha, k⟩
theorem g_niL (w : Wd G R H) {u : V} (h : SqL K G p xs) (hx : flatV u = true) (ha : xs.all flatV = true) (k : Q (.bl (!inV u xs)) H) : aNi K u (.ref p) H Q := .inl ⟨p, xs, rfl, .inl (Evl.ex_l w.sub h), hx, ha, k⟩
theorem g_niT (w : Wd G R H) {u : V} (h : SqT K G p xs) (hx : flatV u = true) (ha : xs.all flatV = true) (k : Q (.bl (!inV u xs)) H) : aNi K u (.ref p) H Q := .inl ⟨p, xs, rfl, .inr (Evl.ex_t w.sub h), hx, ha, k⟩
theorem g_inSg {c : Nat} (k : Q (.bl (decide (c ∈ x.cps.toList))) H) : aIn K (.str ⟨#[c]⟩) (.str x) H Q := .inr ⟨c, x, rfl, rfl, k⟩
theorem g_niSg {c : Nat} (k : Q (.bl (!decide (c ∈ x.cps.toList))) H) : aNi K (.str ⟨#[c]⟩) (.str x) H Q := .inr ⟨c, x, rfl, rfl, k⟩
theorem g_ixL (w : Wd G R H) {v : V} (h : SqL K G p xs) (ha : atI xs i = some v) (k : Q v H) : rIx K (.ref p) (.int i) H Q := .inl ⟨p, xs, i, v, rfl, rfl, Evl.ex_l w.sub h, ha, k⟩
theorem g_ixT (w : Wd G R H) {v : V} (h : SqT K G p xs) (ha : atI xs i = some v) (k : Q v H) : rIx K (.ref p) (.int i) H Q := .inr (.inl ⟨p, xs, i, v, rfl, rfl, Evl.ex_t w.sub h, ha, k⟩)
theorem g_ixS {c : Nat} (hz : x.length ≤ sizeLine) (ha : atI x.cps.toList i = some c) (k : Q (.str ⟨#[c]⟩) H) : rIx K (.str x) (.int i) H Q := .inr (.inr ⟨x, i, c, rfl, rfl, hz, ha, k⟩)
theorem g_slL (w : Wd G R H) {lo hi : Option Int} (h : SqL K G a xs) (k : ∀ p H', G p = none → Wd (upd G p (.lst (cutV xs lo hi))) R H' → Q (.ref p) H') : aSl K (.ref a) lo hi H Q :=
  .inl ⟨a, xs, rfl, Evl.ex_l w.sub h, fun p hp => k p _ (w.free hp) (w.new hp)⟩
theorem g_slS {lo hi : Option Int} (hz : x.length ≤ sizeLine) (k : Q (.str (cutS x lo hi)) H) : aSl K (.str x) lo hi H Q := .inr (.inl ⟨x, rfl, hz, k⟩)
theorem g_slT (w : Wd G R H) {lo hi : Option Int} (h : SqT K G a xs) (hn : ¬ (HT.sIx xs.length 0 lo = 0 ∧ HT.sIx xs.length xs.length hi = xs.length)) (k : ∀ p H', G p = none → Wd (upd G p (.tup (cutV xs lo hi))) R H' → Q (.ref p) H') : aSl K (.ref a) lo hi H Q :=
  .inr (.inr ⟨a, xs, rfl, Evl.ex_t w.sub h, hn, fun p hp => k p _ (w.free hp) (w.new hp)⟩)
theorem g_lenS (hz : x.length ≤ sizeLine) (k : Q (.int x.length) H) : aLen K [.str x] H Q := ⟨.str x, _, rfl, ⟨hz, rfl⟩, k⟩
theorem g_lenL (w : Wd G R H) (h : SqL K G p xs) (k : Q (.int xs.length) H) : aLen K [.ref p] H Q := ⟨.ref p, _, rfl, .inl ⟨xs, Evl.ex_l w.sub h, rfl⟩, k⟩
theorem g_lenT (w : Wd G R H) (h : SqT K G p xs) (k : Q (.int xs.length) H) : aLen K [.ref p] H Q := ⟨.ref p, _, rfl, .inr ⟨xs, Evl.ex_t w.sub h, rfl⟩, k⟩
/-- a new object -/
theorem g_new (w : Wd G R H) {o : HO} (k : ∀ p H', G p = none → Wd (upd G p o) R H' → Q (.ref p) H') : NewO o H Q := fun p hp => k p _ (w.free hp) (w.new hp)
theorem g_newL (w : Wd G R H) {o : HO} {n : Nat} (hz : n ≤ sizeLine) (k : ∀ p H', G p = none → Wd (upd G p o) R H' → Q (.ref p) H') : n ≤ sizeLine ∧ NewO o H Q := ⟨hz, fun p hp => k p _ (w.free hp) (w.new hp)⟩
/-- lists changed -/
theorem g_app (w : Wd G R H) {v : V} (h : G l = some (.lst xs)) (hz : xs.length < sizeLine) (k : ∀ H', Wd (upd G l (.lst (xs ++ [v]))) R H' → Q .non H') : rAppend (.ref l) [v] H Q := ⟨l, xs, v, rfl, rfl, w.get h, hz, k _ (w.set h)⟩
theorem g_popAt (w : Wd G R H) {v : V} {k' : Nat} (h : G l = some (.lst xs)) (h1 : -(2 ^ 63) ≤ i) (h2 : i < 2 ^ 63) (h3 : seqIndex? i xs.length = some k') (h4 : xs[k']? = some v) (k : ∀ H', Wd (upd G l (.lst (xs.eraseIdx k'))) R H' → Q v H') : rPopAt (.ref l) [.int i] H Q :=
  ⟨l, xs, i, k', v, rfl, rfl, w.get h, h1, h2, h3, h4, k _ (w.set h)⟩
theorem g_setL (w : Wd G R H) {v : V} {j' : Nat} {P : Hp → Prop} (h : G l = some (.lst xs)) (hi : ixN xs.length i = some j') (k : ∀ H', Wd (upd G l (.lst (xs.set j' v))) R H' → P H') : rSetL (.ref l) (.int i) v H P := ⟨l, xs, i, j', rfl, rfl, w.get h, hi, k _ (w.set h)⟩
theorem g_tyL (w : Wd G R H) {P : Prop} (h : G l = some (.lst xs)) (k : P) : tyV K "list" (.ref l) H ∧ P := ⟨.inl ⟨rfl, _, SqL.of (w.get h)⟩, k⟩
end
/-! ### the rules with the written part named (within a comprehension's block the reading must not speak of the block) -/
section
variable {X : Cx} {a b e o : Expr} {es : List Expr} {rest : List Expr} {ta tb te to : TE} {t tr : TA} {pos apos : Pos} {f : Str} (K : PySem.W.Frag)
theorem ka_add (hK : X.K = K := by rfl) : OpR X (binaryOp .Add) (aAdd K) := by subst hK; exact oa_add
theorem ka_mul (hK : X.K = K := by rfl) : OpR X (binaryOp .Mult) (aMul K) := by subst hK; exact oa_mul
theorem ka_eq (hu : X.A.units + 64 < cLine) (hK : X.K = K := by rfl) : OpR X (compareOp .Eq) (aEq K) := by subst hK; exact oa_eq hu
theorem ka_ne (hu : X.A.units + 64 < cLine) (hK : X.K = K := by rfl) : OpR X (compareOp .NotEq) (aNe K) := by subst hK; exact oa_ne hu
theorem ka_in (hK : X.K = K := by rfl) : OpR X (compareOp .In) (aIn K) := by subst hK; exact oa_in
theorem ka_ni (hK : X.K = K := by rfl) : OpR X (compareOp .NotIn) (aNi K) := by subst hK; exact oa_ni
theorem ka_sl (hK : X.K = K := by rfl) : SlR X (aSl K) := by subst hK; exact sa
theorem ka_len (hK : X.K = K := by rfl) : CallR X (.builtin "len") (aLen K) := by subst hK; exact ca_len
theorem ka_ix (hK : X.K = K := by rfl) : IxR X (rIx K) := by subst hK; exact ix_seq
theorem ka_isi (hK : X.K = K := by rfl) : CallR X (.builtin "isinstance") (rIsi K) := by subst hK; exact call_isi
theorem ka_all (hc : X.calm = true) (hK : X.K = K := by rfl) : CallR X (.builtin "all") (rAll K) := by subst hK; exact cr_all hc
theorem ka_any (hc : X.calm = true) (hK : X.K = K := by rfl) : CallR X (.builtin "any") (rAny K) := by subst hK; exact cr_any hc
def rListOf (K : PySem.W.Frag) : List V → Hp → VK → Prop := fun xs H Q => ∃ p ys, xs = [.ref p] ∧ (SqL K H p ys ∨ SqT K H p ys) ∧ ∀ l, H l = none → Q (.ref l) (upd H l (.lst ys))
theorem ka_list (hK : X.K = K := by rfl) : CallR X (.type "list") (rListOf K) := by subst hK; exact call_list_of
def tTru (K : PySem.W.Frag) (ta : TE) : TT := fun σ H Q => ta σ H fun x H' => ∃ k, TruV K x H' k ∧ Q k H'
theorem kt_truth (ha : PE X a ta) (he : ∀ whole, isTrue a X.env whole = (do let v ← whole; standAt a.pos; holding [v] (truthy v))) (hK : X.K = K := by rfl) : PT X a (tTru K ta) := by subst hK; exact pt_truth ha he
theorem ke_fld (he : PE X e ta) (hb : attributeBase e f X.env (eval e X.env) = eval e X.env) (hK : X.K = K := by rfl) : PE X (.Attribute e f pos) (tFld K ta f) := by subst hK; exact pe_fld he hb
theorem ke_con (he : PE X e ta) (hb : attributeBase e f X.env (eval e X.env) = eval e X.env) (hK : X.K = K := by rfl) : PE X (.Attribute e f pos) (tCon K ta f) := by subst hK; exact pe_con he hb
theorem ke_orT (ha : PE X a ta) (hb : PE X (.BoolOp .Or (b :: rest) pos) tb) (hK : X.K = K := by rfl) : PE X (.BoolOp .Or (a :: b :: rest) pos) (tOrT K ta tb) := by subst hK; exact pe_orT ha hb
theorem ke_andT (ha : PE X a ta) (hb : PE X (.BoolOp .And (b :: rest) pos) tb) (hK : X.K = K := by rfl) : PE X (.BoolOp .And (a :: b :: rest) pos) (tAndT K ta tb) := by subst hK; exact pe_andT ha hb
def rJoin (K : PySem.W.Frag) : V → List V → Hp → VK → Prop := fun x xs H Q => ∃ a p, ∃ ys : List Str, x = .str a ∧ xs = [.ref p] ∧ (SqL K H p (ys.map V.str) ∨ SqT K H p (ys.map V.str)) ∧ (ys.map (·.length)).sum + ys.length * a.length ≤ 16777216 ∧ Q (.str (Txt.join a ys)) H
theorem ke_join (ho : PE X o to) (he : PE X e te) (hs : starEach [e] X.env = [(false, eval e X.env)] := by rfl) (hbase : attributeBase o "join" X.env (eval o X.env) = eval o X.env := by rfl) (hline : (apos.endLine == pos.line) = true := by rfl) (hK : X.K = K := by rfl) :
    PE X (.Call (.Attribute o "join" apos) [e] [] pos) (tM1 (rJoin K) to te) := by subst hK; exact pe_join ho he hs hbase hline
def rSplit : V → List V → Hp → VK → Prop := fun x xs H Q => ∃ a b, x = .str a ∧ xs = [.str b] ∧ (b.length == 0) = false ∧ a.length + 2 ≤ sizeLine ∧ rNewStrs (Txt.split a b) H Q
theorem ke_split (ho : PE X o to) (he : PE X e te) (hs : starEach [e] X.env = [(false, eval e X.env)] := by rfl) (hbase : attributeBase o "split" X.env (eval o X.env) = eval o X.env := by rfl) (hline : (apos.endLine == pos.line) = true := by rfl) :
    PE X (.Call (.Attribute o "split" apos) [e] [] pos) (tM1 rSplit to te) := pe_split ho he hs hbase hline
theorem ki_list {tg l : Expr} {tl : TE} (hl : PE X l tl) (hK : X.K = K := by rfl) : PI X tg l (iList K tl) := by subst hK; exact pi_list hl
theorem ki_tup {tg l : Expr} {tl : TE} (hl : PE X l tl) (hK : X.K = K := by rfl) : PI X tg l (iTup K tl) := by subst hK; exact pi_tup hl
end
section
variable {G H : Hp} {R : Res} {K : PySem.W.Frag} {Q : VK} {σ : L2.St} {t1 t2 : TE} {QT : Bool → Hp → Prop}
theorem g_tru (k : t1 σ H fun x H' => ∃ k, TruV K x H' k ∧ QT k H') : tTru K t1 σ H QT := k
theorem g_listL (w : Wd G R H) {p : Addr} {xs : List V} (h : SqL K G p xs) (k : ∀ l H', G l = none → Wd (upd G l (.lst xs)) R H' → Q (.ref l) H') : rListOf K [.ref p] H Q := ⟨p, xs, rfl, .inl (Evl.ex_l w.sub h), fun l hl => k l _ (w.free hl) (w.new hl)⟩
theorem g_listT (w : Wd G R H) {p : Addr} {xs : List V} (h : SqT K G p xs) (k : ∀ l H', G l = none → Wd (upd G l (.lst xs)) R H' → Q (.ref l) H') : rListOf K [.ref p] H Q := ⟨p, xs, rfl, .inr (Evl.ex_t w.sub h), fun l hl => k l _ (w.free hl) (w.new hl)⟩
theorem g_join (w : Wd G R H) {a : Str} {p : Addr} {ys : List Str} (h : SqL K G p (ys.map V.str)) (hz : (ys.map (·.length)).sum + ys.length * a.length ≤ 16777216) (k : Q (.str (Txt.join a ys)) H) : rJoin K (.str a) [.ref p] H Q := ⟨a, p, ys, rfl, rfl, .inl (Evl.ex_l w.sub h), hz, k⟩
theorem g_split (w : Wd G R H) {a b : Str} (h1 : (b.length == 0) = false) (h2 : a.length + 2 ≤ sizeLine) (k : ∀ p H', G p = none → Wd (upd G p (.lst ((Txt.split a b).map V.str))) R H' → Q (.ref p) H') : rSplit (.str a) [.str b] H Q := ⟨a, b, rfl, rfl, h1, h2, fun p hp => k p _ (w.free hp) (w.new hp)⟩
theorem g_strM {a : Str} {P : Prop} (k : P) : (∃ b, V.str a = .str b) ∧ P := ⟨⟨a, rfl⟩, k⟩
end
theorem pe_globE {X : Cx} {x : Str} {v : V} {pos : Pos} (hg : Gl X x) (h : ∃ u, X.mg x = some u ∧ RelV v u) (hd : (x == ("__debug__" : Str)) = false := by decide) : PE X (.Name x pos) (tC v) := by
  obtain ⟨u, hm, r⟩ := h
  exact pe_glob hg hm r hd
end Sw

set_option Elab.async false
set_option linter.all false
set_option maxRecDepth 100000
set_option maxHeartbeats 4000000
namespace Sw
open PySem PySem.Spec PyProof.Rows L2

/-! ### what is walked: n turns -/
structure Itf (J : It) (n : Nat) (I : Hp → Prop) (Y : Nat → V → Hp → Hp → Prop) : Prop where
  go : ∀ i H, i < n → I H → J.go i H
  stop : ∀ H, I H → J.stop n H
  yld : ∀ i H x H', i < n → I H → J.yld i H x H' → Y i x H H'
theorem itf_list {K : PySem.W.Frag} {a : Addr} {xs : List V} : Itf (Itl K a) xs.length (fun H => SqL K H a xs) (fun i x H H' => H' = H ∧ xs[i]? = some x) where
  go := fun i H hi h => ⟨xs, xs[i], h, List.getElem?_eq_getElem hi⟩
  stop := fun H h => ⟨xs, h, Nat.le_refl _⟩
  yld := fun i H x H' hi h y => ⟨y.1, y.2 xs h⟩
theorem itf_tup {K : PySem.W.Frag} {a : Addr} {xs : List V} : Itf (Itt K a) xs.length (fun H => SqT K H a xs) (fun i x H H' => H' = H ∧ xs[i]? = some x) where
  go := fun i H hi h => ⟨xs, xs[i], h, List.getElem?_eq_getElem hi⟩
  stop := fun H h => ⟨xs, h, Nat.le_refl _⟩
  yld := fun i H x H' hi h y => ⟨y.1, y.2 xs h⟩
theorem itf_range {lo : Int} {n : Nat} : Itf (Itr lo n) n (fun _ => True) (fun i x H H' => H' = H ∧ x = .int (lo + i)) where
  go := fun i H hi h => hi
  stop := fun H h => Nat.le_refl _
  yld := fun i H x H' hi h y => y
theorem itf_str {z : Str} : Itf (Its z) z.cps.size (fun _ => True) (fun i x H H' => H' = H ∧ ∃ c, z.cps[i]? = some c ∧ x = .str ⟨#[c]⟩) where
  go := fun i H hi h => hi
  stop := fun H h => Nat.le_refl _
  yld := fun i H x H' hi h y => y
theorem itf_enum {K : PySem.W.Frag} {a : Addr} {xs : List V} : Itf (Ite K a) xs.length (fun H => SqL K H a xs) (fun i v H H' => ∃ T x, v = .ref T ∧ H T = none ∧ H' = upd H T (.tup [.int (i : Nat), x]) ∧ xs[i]? = some x) where
  go := fun i H hi h => ⟨xs, xs[i], h, List.getElem?_eq_getElem hi⟩
  stop := fun H h => ⟨xs, h, Nat.le_refl _⟩
  yld := fun i H x H' hi h y => by
    obtain ⟨T, u, e1, e2, e3, e4⟩ := y
    exact ⟨T, u, e1, e2, e3, e4 xs h⟩

def ForW (J : It) (g : TG) (tb : TS) (D : Ends) (σ : L2.St) (H1 : Hp) : Prop := ∃ W : Nat → Nat → L2.St → Hp → Prop, (∃ m, W 0 m σ H1) ∧ ∀ i m σ H, W i m σ H →
  (J.stop i H ∧ D.nx σ H) ∨ (J.go i H ∧ ∃ N : L2.St → Hp → Prop, (∀ σ' H', N σ' H' → ∃ m', m' < m ∧ W (i + 1) m' σ' H') ∧ ∀ x H', J.yld i H x H' → g x σ H' fun σ2 H2 => tb { D with nx := N, ct := N, bk := D.nx } σ2 H2)
theorem for_it {J : It} {n : Nat} {I : Hp → Prop} {Y : Nat → V → Hp → Hp → Prop} (F : Itf J n I Y) {g : TG} {tb : TS} {D : Ends} {σ : L2.St} {H : Hp} (Pv : Nat → L2.St → Hp → Prop) (h0 : Pv 0 σ H) (hI : ∀ i σ H, i ≤ n → Pv i σ H → I H)
    (hs : ∀ i x σ H H', i < n → Pv i σ H → Y i x H H' → g x σ H' fun σ2 H2 => tb { D with nx := Pv (i + 1), ct := Pv (i + 1), bk := D.nx } σ2 H2) (hd : ∀ σ H, Pv n σ H → D.nx σ H) : ForW J g tb D σ H := by
  refine ⟨fun i m σ H => m = n - i ∧ i ≤ n ∧ Pv i σ H, ⟨n, by simp, Nat.zero_le _, h0⟩, ?_⟩
  rintro i m σ H ⟨rfl, hi, p⟩
  have q := hI i σ H hi p
  by_cases hlt : i < n
  · refine .inr ⟨F.go i H hlt q, Pv (i + 1), fun σ' H' p' => ⟨n - (i + 1), by omega, rfl, by omega, p'⟩, fun x H' y => hs i x σ H H' hlt p (F.yld i H x H' hlt q y)⟩
  · have e : i = n := by omega
    subst e
    exact .inl ⟨F.stop H q, hd σ H p⟩

def LcW (J : It) (g : TG) (tt : TT) (te : TE) (vs : List Nat) (σ : L2.St) (Q : VK) (H1 : Hp) : Prop := ∀ D, H1 D = none → ∃ W : Nat → Nat → Hp → Prop, (∃ m, W 0 m (upd H1 D (.lst []))) ∧ ∀ i m H, W i m H →
  (J.stop i H ∧ Q (.ref D) H) ∨ (J.go i H ∧ ∃ Nx : Hp → Prop, (∀ H', Nx H' → ∃ m', m' < m ∧ W (i + 1) m' H') ∧ ∀ x H', J.yld i H x H' → g x (wipe σ vs) H' fun σ2 H2 => wipe σ2 vs = wipe σ vs ∧ tt σ2 H2 fun b H3 =>
    if b = true then te σ2 H3 fun y H4 => ∃ acc, H4 D = some (.lst acc) ∧ acc.length < sizeLine ∧ Nx (upd H4 D (.lst (acc ++ [y]))) else Nx H3)
/-- the readings' ends must be let through: Mono of the parts -/
theorem lc_it {J : It} {n : Nat} {I : Hp → Prop} {Y : Nat → V → Hp → Hp → Prop} (F : Itf J n I Y) {G H1 : Hp} {R : Res} {g : TG} {tt : TT} {te : TE} {vs : List Nat} {σ : L2.St} {Q : VK} (w : Wd G R H1) (hI : ∀ H, Same G H → I H) (hz : n ≤ sizeLine)
    (Pv : Nat → Hp → List V → Prop) (h0 : Pv 0 G [])
    (hs : ∀ i x Gi acc D H H', i < n → Same G Gi → Gi D = none → Pv i Gi acc → acc.length ≤ i → Wd (upd Gi D (.lst acc)) R H → Y i x H H' → g x (wipe σ vs) H' fun σ2 H2 => wipe σ2 vs = wipe σ vs ∧ tt σ2 H2 fun b H3 =>
      if b = true then te σ2 H3 fun y H4 => ∃ acc', H4 D = some (.lst acc') ∧ acc'.length < sizeLine ∧ ((fun H5 => ∃ G4 acc4, Same G G4 ∧ G4 D = none ∧ Pv (i + 1) G4 acc4 ∧ acc4.length ≤ i + 1 ∧ Wd (upd G4 D (.lst acc4)) R H5) (upd H4 D (.lst (acc' ++ [y]))))
      else (fun H5 => ∃ G4 acc4, Same G G4 ∧ G4 D = none ∧ Pv (i + 1) G4 acc4 ∧ acc4.length ≤ i + 1 ∧ Wd (upd G4 D (.lst acc4)) R H5) H3)
    (hd : ∀ D Gn acc H, Same G Gn → Gn D = none → Pv n Gn acc → acc.length ≤ n → Wd (upd Gn D (.lst acc)) R H → Q (.ref D) H) : LcW J g tt te vs σ Q H1 := by
  intro D hD
  refine ⟨fun i m H => m = n - i ∧ i ≤ n ∧ ∃ Gi acc, Same G Gi ∧ Gi D = none ∧ Pv i Gi acc ∧ acc.length ≤ i ∧ Wd (upd Gi D (.lst acc)) R H, ⟨n, by simp, Nat.zero_le _, G, [], Same.refl G, w.free hD, h0, Nat.le_refl _, w.new hD⟩, ?_⟩
  rintro i m H ⟨rfl, hi, Gi, acc, e, nD, p, hl, wi⟩
  have sG : Same G H := Same.trans (Same.trans e (Same.newG nD)) wi.sub
  have q := hI H sG
  by_cases hlt : i < n
  · refine .inr ⟨F.go i H hlt q, fun H5 => ∃ G4 acc4, Same G G4 ∧ G4 D = none ∧ Pv (i + 1) G4 acc4 ∧ acc4.length ≤ i + 1 ∧ Wd (upd G4 D (.lst acc4)) R H5, fun H' p' => ⟨n - (i + 1), by omega, rfl, by omega, p'⟩, fun x H' y => ?_⟩
    exact hs i x Gi acc D H H' hlt e nD p hl wi (F.yld i H x H' hlt q y)
  · have ei : i = n := by omega
    subst ei
    exact .inl ⟨F.stop H q, hd D Gi acc H e nD p hl wi⟩
/-- the turn's end: an item kept -/
theorem lc_keep {G G4 H4 : Hp} {R : Res} {D : Addr} {acc : List V} {y : V} {i n : Nat} {Pv : Nat → Hp → List V → Prop} (w : Wd (upd G4 D (.lst acc)) R H4) (e : Same G G4) (nD : G4 D = none) (hl : acc.length ≤ i) (hi : i < n) (hz : n ≤ sizeLine) (p : Pv (i + 1) G4 (acc ++ [y])) :
    ∃ acc', H4 D = some (.lst acc') ∧ acc'.length < sizeLine ∧ ((fun H5 => ∃ G4 acc4, Same G G4 ∧ G4 D = none ∧ Pv (i + 1) G4 acc4 ∧ acc4.length ≤ i + 1 ∧ Wd (upd G4 D (.lst acc4)) R H5) (upd H4 D (.lst (acc' ++ [y])))) := by
  refine ⟨acc, w.get upd_same, by omega, G4, acc ++ [y], e, nD, p, by rw [List.length_append, List.length_singleton]; omega, ?_⟩
  have := w.set (o' := .lst (acc ++ [y])) upd_same
  rw [upd_upd] at this
  exact this
theorem lc_drop {G G4 H3 : Hp} {R : Res} {D : Addr} {acc : List V} {i : Nat} {Pv : Nat → Hp → List V → Prop} (w : Wd (upd G4 D (.lst acc)) R H3) (e : Same G G4) (nD : G4 D = none) (hl : acc.length ≤ i) (p : Pv (i + 1) G4 acc) :
    (fun H5 => ∃ G4 acc4, Same G G4 ∧ G4 D = none ∧ Pv (i + 1) G4 acc4 ∧ acc4.length ≤ i + 1 ∧ Wd (upd G4 D (.lst acc4)) R H5) H3 := ⟨G4, acc, e, nD, p, by omega, w⟩
theorem upd_comm {G : Hp} {p q : Addr} {o u : HO} (h : q ≠ p) : upd (upd G p o) q u = upd (upd G q u) p o := by
  funext b
  by_cases h1 : b = q
  · subst h1; rw [upd_same, upd_ne h, upd_same]
  · rw [upd_ne h1]
    by_cases h2 : b = p
    · subst h2; rw [upd_same, upd_same]
    · rw [upd_ne h2, upd_ne h2, upd_ne h1]

/-! ### steps -/
section
variable {σ : L2.St} {H : Hp} {Q : VK} {K : PySem.W.Frag} {D : Ends} {tl : TE} {ta : TA} {g : TG} {tb : TS} {tt : TT} {te : TE} {vs : List Nat} {z : Str} {a : Addr} {n lo : Int}
theorem g_forL (k : tl σ H fun x H1 => ∃ a, x = .ref a ∧ (∃ xs, SqL K H1 a xs) ∧ ForW (Itl K a) g tb D σ H1) : tFor (iList K tl) g tb D σ H := k
theorem g_forT (k : tl σ H fun x H1 => ∃ a, x = .ref a ∧ (∃ xs, SqT K H1 a xs) ∧ ForW (Itt K a) g tb D σ H1) : tFor (iTup K tl) g tb D σ H := k
theorem g_forR (k : ta σ H fun vs H1 => ∃ j : Int, vs = [.int j] ∧ -(2 ^ 62) ≤ j ∧ j < 2 ^ 62 ∧ ForW (Itr 0 j.toNat) g tb D σ H1) : tFor (iRng1 ta) g tb D σ H := k
theorem g_forR2 (k : ta σ H fun vs H1 => ∃ i j : Int, vs = [.int i, .int j] ∧ (-(2 ^ 62) ≤ i ∧ i < 2 ^ 62 ∧ -(2 ^ 62) ≤ j ∧ j < 2 ^ 62) ∧ ForW (Itr i (j - i).toNat) g tb D σ H1) : tFor (iRng2 ta) g tb D σ H := k
theorem g_forS (k : tl σ H fun v H1 => ∃ x, v = .str x ∧ ForW (Its x) g tb D σ H1) : tFor (iStr tl) g tb D σ H := k
theorem g_forE (k : ta σ H fun vs H1 => ∃ a xs, vs = [.ref a] ∧ SqL K H1 a xs ∧ ForW (Ite K a) g tb D σ H1) : tFor (iEnum K ta) g tb D σ H := k
theorem g_lcL (k : tl σ H fun x H1 => ∃ a, x = .ref a ∧ (∃ xs, SqL K H1 a xs) ∧ LcW (Itl K a) g tt te vs σ Q H1) : tLc (iList K tl) g tt te vs σ H Q := k
theorem g_lcT (k : tl σ H fun x H1 => ∃ a, x = .ref a ∧ (∃ xs, SqT K H1 a xs) ∧ LcW (Itt K a) g tt te vs σ Q H1) : tLc (iTup K tl) g tt te vs σ H Q := k
theorem g_lcR (k : ta σ H fun us H1 => ∃ j : Int, us = [.int j] ∧ -(2 ^ 62) ≤ j ∧ j < 2 ^ 62 ∧ LcW (Itr 0 j.toNat) g tt te vs σ Q H1) : tLc (iRng1 ta) g tt te vs σ H Q := k
theorem g_lcS (k : tl σ H fun v H1 => ∃ x, v = .str x ∧ LcW (Its x) g tt te vs σ Q H1) : tLc (iStr tl) g tt te vs σ H Q := k
theorem g_lcE (k : ta σ H fun us H1 => ∃ a xs, us = [.ref a] ∧ SqL K H1 a xs ∧ LcW (Ite K a) g tt te vs σ Q H1) : tLc (iEnum K ta) g tt te vs σ H Q := k
theorem g_orT {t1 t2 : TE} (k : t1 σ H fun x H1 => ∃ b, TruV K x H1 b ∧ if b = true then Q x H1 else t2 σ H1 Q) : tOrT K t1 t2 σ H Q := k
theorem g_slc {r : V → Option Int → Option Int → Hp → VK → Prop} {t1 : TE} {tlo thi : TO} (k : t1 σ H fun x H1 => tlo σ H1 fun l H2 => thi σ H2 fun u H3 => r x l u H3 Q) : L2.tSl r t1 tlo thi σ H Q := k
theorem g_noPart {P : Option Int → Hp → Prop} (k : P none H) : tNoPart σ H P := k
theorem g_part {t1 : TE} {P : Option Int → Hp → Prop} (k : t1 σ H fun x H1 => ∃ i, x = .int i ∧ P (some i) H1) : tPart t1 σ H P := k
theorem g_bm {T : String} {r : V → List V → Hp → VK → Prop} {t1 : TE} {tr : TA} (k : t1 σ H fun x H1 => tyV K T x H1 ∧ tr σ H1 fun xs H2 => r x xs H2 Q) : tBM K T r t1 tr σ H Q := k
theorem g_par {i j : Nat} {tr : TA} (k : tr σ H fun vs H1 => ∃ v w, vs = [v, w] ∧ D.nx ((σ.set i (some v)).set j (some w)) H1) : tPar i j tr D σ H := k
theorem g_yes {P : Bool → Hp → Prop} (k : P true H) : tYes σ H P := k
theorem g_tupG {m : Nat} {v : V} {t : TGs} {P : L2.St → Hp → Prop} (k : ∃ a xs, v = .ref a ∧ SqT K H a xs ∧ xs.length = m ∧ t xs σ H P) : gTup K m t v σ H P := k
theorem g_gcons {t : TG} {u : TGs} {v : V} {r : List V} {P : L2.St → Hp → Prop} (k : t v σ H fun σ' H' => u r σ' H' P) : gCons t u (v :: r) σ H P := ⟨v, r, rfl, k⟩
theorem g_gnil {P : L2.St → Hp → Prop} (k : P σ H) : gNil [] σ H P := ⟨rfl, k⟩
theorem g_chain {r r' : R2} {t1 t2 t3 : TE} (k : t1 σ H fun x H1 => t2 σ H1 fun y H2 => r x y H2 fun z H3 => ∃ k, z = .bl k ∧ (if k = true then t3 σ H3 fun w' H4 => r' y w' H4 Q else Q (.bl false) H3)) : tChain r r' t1 t2 t3 σ H Q := k
theorem g_truB {b : Bool} {P : Bool → Prop} (k : P b) : ∃ c, TruV K (.bl b) H c ∧ P c := ⟨b, rfl, k⟩
theorem g_truN {P : Bool → Prop} (k : P false) : ∃ c, TruV K .non H c ∧ P c := ⟨false, rfl, k⟩
theorem g_truI {i : Int} {P : Bool → Prop} (k : P (i != 0)) : ∃ c, TruV K (.int i) H c ∧ P c := ⟨_, rfl, k⟩
theorem g_truS {y : Str} {P : Bool → Prop} (hz : y.length ≤ sizeLine) (k : P ((y.length : Int) != 0)) : ∃ c, TruV K (.str y) H c ∧ P c := ⟨_, ⟨hz, rfl⟩, k⟩
theorem g_truL {G : Hp} {R : Res} {xs : List V} {P : Bool → Prop} (w : Wd G R H) (h : SqL K G a xs) (k : P (!xs.isEmpty)) : ∃ c, TruV K (.ref a) H c ∧ P c := ⟨_, .inl ⟨xs, Evl.ex_l w.sub h, rfl⟩, k⟩
theorem g_truT {G : Hp} {R : Res} {xs : List V} {P : Bool → Prop} (w : Wd G R H) (h : SqT K G a xs) (k : P (!xs.isEmpty)) : ∃ c, TruV K (.ref a) H c ∧ P c := ⟨_, .inr (.inl ⟨xs, Evl.ex_t w.sub h, rfl⟩), k⟩
theorem g_isi {x c : V} {t u : Value} {b : Bool} (hc : ClsV c u) (ht : TyX K H x t) (hk : PySem.W.kitOne K t u = some b) (k : Q (.bl b) H) : rIsi K [x, c] H Q := ⟨x, c, t, u, b, rfl, hc, ht, hk, k⟩
theorem g_isN {x : V} (k : Q (.bl (decide (x = .non))) H) : (fun x y H Q => y = V.non ∧ Q (.bl (decide (x = .non))) H : R2) x .non H Q := ⟨rfl, k⟩
theorem g_isnN {x : V} (k : Q (.bl (!decide (x = .non))) H) : (fun x y H Q => y = V.non ∧ Q (.bl (!decide (x = .non))) H : R2) x .non H Q := ⟨rfl, k⟩
theorem g_all {G : Hp} {R : Res} {bs : List Bool} (w : Wd G R H) (h : SqL K G a (bs.map V.bl)) (k : Q (.bl (bs.all id)) H) : rAll K [.ref a] H Q := ⟨a, bs, rfl, Evl.ex_l w.sub h, k⟩
theorem g_m1 {r : V → List V → Hp → VK → Prop} {t1 t2 : TE} (k : t1 σ H fun x H1 => (∃ a, x = .str a) ∧ t2 σ H1 fun y H2 => r x [y] H2 Q) : tM1 r t1 t2 σ H Q := k
theorem g_fld {t1 : TE} {f : Str} (k : t1 σ H fun x H1 => ∃ a C dx fs v, x = .ref a ∧ H1 a = some (.ins C dx fs) ∧ Cls K C ∧ NoAttr K C f ∧ fs.lookup f = some v ∧ Q v H1) : tFld K t1 f σ H Q := k
theorem g_con {t1 : TE} {f : Str} (k : t1 σ H fun x H1 => ∃ a C dx fs v u, x = .ref a ∧ H1 a = some (.ins C dx fs) ∧ Cls K C ∧ Con K C f v u ∧ fs.lookup f = none ∧ Q v H1) : tCon K t1 f σ H Q := k
/-- a list comprehension of values: each item gives one or is left out, no new object is kept -/
def FmStep (f : V → Option V) (x : V) (g : TG) (tt : TT) (te : TE) (vs : List Nat) (σ : L2.St) (G' : Hp) (R : Res) (H : Hp) : Prop :=
  g x (wipe σ vs) H fun σ2 H2 => wipe σ2 vs = wipe σ vs ∧ tt σ2 H2 fun b H3 => if b = true then te σ2 H3 fun y H4 => f x = some y ∧ Wd G' R H4 else f x = none ∧ Wd G' R H3
theorem filterMap_take {f : V → Option V} {xs : List V} {i : Nat} {x : V} (h : xs[i]? = some x) : (xs.take (i + 1)).filterMap f = (xs.take i).filterMap f ++ (match f x with | some y => [y] | none => []) := by
  rw [List.take_succ, h, List.filterMap_append]
  congr 1
  simp only [Option.toList_some, List.filterMap_cons, List.filterMap_nil]
  cases f x <;> rfl
end
/-- readings that pass on what is wanted (all of ours do) -/
def MonG (g : TG) : Prop := ∀ (v : V) (σ : L2.St) (H : Hp) (P P' : L2.St → Hp → Prop), (∀ σ H, P σ H → P' σ H) → g v σ H P → g v σ H P'
def MonT (t : TT) : Prop := ∀ (σ : L2.St) (H : Hp) (P P' : Bool → Hp → Prop), (∀ b H, P b H → P' b H) → t σ H P → t σ H P'
def MonE (t : TE) : Prop := ∀ (σ : L2.St) (H : Hp) (P P' : VK), (∀ v H, P v H → P' v H) → t σ H P → t σ H P'
end Sw

set_option Elab.async false
set_option linter.all false
set_option maxRecDepth 100000
set_option maxHeartbeats 4000000
namespace Sw
open PySem PySem.Spec PyProof.Rows L2

/-! ### a, b, *c = e, e a list -/
section
variable {X : Cx} {pos : Pos}
theorem pgs_star {e : Expr} {es : List Expr} {t : TG} {u : TGs} {p : Pos} (h1 : PG X e t) (h2 : PGs X es u) (hs : (assignEach (.Starred e p :: es) X.env).map (·.2) = assign e X.env :: (assignEach es X.env).map (·.2) := by rfl) : PGs X (.Starred e p :: es) (gCons t u) := by
  refine ⟨fun pins s σ H vs us Q I r h => ?_⟩
  obtain ⟨v, vr, e1, h⟩ := h
  subst e1
  cases r with
  | cons r rr =>
    rw [hs]
    refine assignInOrder_cons (thn (h1.run pins s σ H _ _ _ I r h) fun _ s1 ⟨σ1, H1, I1, q1⟩ => ?_)
    exact h2.run pins s1 σ1 H1 _ _ Q I1 rr q1
/-- the list's items: the first i, a new list of the middle ones, the last ones (n targets) -/
def gStarL (K : PySem.W.Frag) (n i : Nat) (t : TGs) : TG := fun v σ H Q => ∃ a xs, v = .ref a ∧ SqL K H a xs ∧ n ≤ xs.length + 1 ∧ xs.length ≤ 16384 ∧ ∀ p, H p = none → t (xs.take i ++ [.ref p] ++ (xs.drop i).drop (xs.length + 1 - n)) σ (upd H p (.lst ((xs.drop i).take (xs.length + 1 - n)))) Q
theorem vals_take {vs : List V} {us : List Value} (h : Vals vs us) : ∀ n, Vals (vs.take n) (us.take n) := by
  induction h with
  | nil => intro n; simp only [List.take_nil]; exact .nil
  | cons r _ ih =>
    intro n
    cases n with
    | zero => exact .nil
    | succ n => exact .cons r (ih n)
theorem vals_drop {vs : List V} {us : List Value} (h : Vals vs us) : ∀ n, Vals (vs.drop n) (us.drop n) := by
  induction h with
  | nil => intro n; simp only [List.drop_nil]; exact .nil
  | cons r h ih =>
    intro n
    cases n with
    | zero => exact .cons r h
    | succ n => exact ih n
theorem pg_starL {es : List Expr} {k : Nat} {t : TGs} {n i : Nat} (hc : X.calm = true) (h : PGs X es t) (hi : i < n)
    (hn : (assignEach es X.env).length = n := by rfl) (hst : (assignEach es X.env).findIdx? (·.1) = some i := by rfl) : PG X (.Tuple es k pos) (gStarL X.K n i t) := by
  refine ⟨fun pins s σ H v u Q I r hw => ?_⟩
  obtain ⟨a, xs, e1, hq, hl, hm, hw⟩ := hw
  subst e1
  cases r
  obtain ⟨its, rv, pl, hz⟩ := I.list hq
  have hlen : its.length = xs.length := rv.length.symm
  rw [PyProof.Rows.assign_Tuple]
  refine wpAny_bind (wpAny_standAt ?_)
  unfold unpack
  rw [hn, hst]
  have hl0 := pl.isList
  have hlt : a ≠ s.heap.objs.size := by obtain ⟨o, ho, _⟩ := hl0; exact Nat.ne_of_lt (Heap.lt_size ho)
  refine wpAny_bind (wpAny_holding ?_)
  have hsz : its.toArray.size = its.length := by simp
  unfold unpackItems
  refine wpAny_bind ?_
  unfold notIterableAtAll
  refine wpAny_bind (wpAny_specialOf hl0.typeIs PySem.F.slot_list_iter.lookup ?_)
  refine wpAny_pure ?_
  simp only [Bool.false_eq_true, if_false]
  refine wpAny_bind (wpAny_holding (wpAny_pyIter_list hl0 ?_))
  refine wpAny_bind (wpAny_holding (PySem.W.kun_draw hlt i 0 _ _ ⟨_, Heap.get?_push_size _ rfl, rfl, rfl⟩ (hl0.push _) (by rw [hsz]; omega) fun h₁ hit₁ hs₁ => ?_))
  have hl₁ : h₁.IsList a its.toArray := (hl0.push _).extBut hs₁.extBut hlt
  rw [Nat.zero_add] at hit₁
  have hit₁' := hit₁
  obtain ⟨oi, hoi, _⟩ := hit₁'
  have hl₁' := hl₁
  obtain ⟨ol, hol, _⟩ := hl₁'
  rw [List.drop_zero]
  have hfl : (its.toArray.toList.take i).length = i := by rw [List.length_take, Array.length_toList]; omega
  rw [if_neg (show ¬ ((its.toArray.toList.take i).length < i) by rw [hfl]; omega)]
  refine wpAny_bind (wpAny_holding (PySem.W.kun_collect (s := { s with heap := h₁ }) (T := "list_iterator") (.inr (.inr (.inl rfl))) (Walks.list (A := X.A.in1) (I.ok.hd hc) s.heap.objs.size a hlt its.toArray) (fun j u st => st.1.typeIs) (k := i) (by omega) ⟨hit₁, hl₁⟩ (Heap.lt_size hoi) (Heap.lt_size hol) (fun h₂ tk hk => ?_) (by rw [sizeLine_eq, hsz]; omega)))
  have hrl : (its.toArray.toList.drop i).length = its.length - i := by rw [List.length_drop, Array.length_toList, hsz]
  have hmid : (its.toArray.toList.drop i).length - (n - 1 - i) = xs.length + 1 - n := by rw [hrl]; omega
  show wpAny _ _ (if (its.toArray.toList.drop i).length < n - 1 - i then _ else _) _ _ _
  rw [if_neg (by rw [hrl]; omega)]
  show wpAny _ _ (newList ((its.toArray.toList.drop i).take ((its.toArray.toList.drop i).length - (n - 1 - i))) >>= fun d => pure (its.toArray.toList.take i ++ [d] ++ (its.toArray.toList.drop i).drop ((its.toArray.toList.drop i).length - (n - 1 - i)))) _ _ _
  rw [hmid]
  have hto : its.toArray.toList = its := by simp
  rw [hto]
  have I2 : Inv X pins σ H { s with heap := h₂, toks := tk } := I.kept (t' := tk) fun b o e => hk b o (Nat.ne_of_lt (Heap.lt_size e)) (hs₁.extBut b o (Nat.ne_of_lt (Heap.lt_size e)) (Heap.get?_push_of_some _ e))
  have rmid : Vals ((xs.drop i).take (xs.length + 1 - n)) ((its.drop i).take (xs.length + 1 - n)) := vals_take (vals_drop rv i) _
  have zmid : ((its.drop i).take (xs.length + 1 - n)).length ≤ sizeLine := by rw [List.length_take, List.length_drop, sizeLine_eq]; omega
  refine wpAny_bind (wpAny_newList (s := { s with heap := h₂, toks := tk }) (wpAny_pure ?_) zmid)
  have hf : H h₂.objs.size = none := I2.hok.fresh (Nat.le_refl _)
  have I3 : Inv X pins σ (upd H h₂.objs.size (.lst ((xs.drop i).take (xs.length + 1 - n)))) ⟨h₂.push { cls := .type "list", data := .seq ((its.drop i).take (xs.length + 1 - n)).toArray }, s.gens, s.drawn, tk, s.os⟩ :=
    Inv.laid (s := { s with heap := h₂, toks := tk }) (t' := tk) I2 (fun b u e => Heap.get?_push_of_some _ e) (Nat.le_refl _) ⟨by rw [List.length_take, List.length_drop, sizeLine_eq]; omega, _, 0, rmid, Heap.get?_push_size _ rfl⟩
  exact h.run pins _ σ _ _ _ Q I3 (((vals_take rv i).append (show Vals [V.ref h₂.objs.size] [Value.ref h₂.objs.size] from .cons rfl .nil)).append (vals_drop (vals_drop rv i) _)) (hw _ hf)
theorem kg_starL {es : List Expr} {k : Nat} {t : TGs} {n i : Nat} (K : PySem.W.Frag) (hc : X.calm = true) (h : PGs X es t) (hi : i < n) (hK : X.K = K := by rfl)
    (hn : (assignEach es X.env).length = n := by rfl) (hst : (assignEach es X.env).findIdx? (·.1) = some i := by rfl) : PG X (.Tuple es k pos) (gStarL K n i t) := by subst hK; exact pg_starL hc h hi hn hst
end

theorem kg_tup {X : Cx} {pos : Pos} {es : List Expr} {k : Nat} {t : TGs} {n : Nat} (K : PySem.W.Frag) (hc : X.calm = true) (h : PGs X es t) (hK : X.K = K := by rfl)
    (hn : (assignEach es X.env).length = n := by rfl) (hst : (assignEach es X.env).findIdx? (·.1) = none := by rfl) : PG X (.Tuple es k pos) (gTup K n t) := by subst hK; exact pg_tup hc h hn hst

/-! ### except (A, B): -/
theorem flyingZ_keeps {B : Heap} {l : List Env} {e : Addr} {Z : Obj → Prop} {h h' : Heap} (R : HandSPX.FlyingZ B l e Z h) (k : ∀ b o, h.get? b = some o → h'.get? b = some o) : HandSPX.FlyingZ B l e Z h' := by
  obtain ⟨f1, f2, f3, oe, ws, T, oT, ts, he, hc, hd, h1, hn, hne, hT, hdT, h3⟩ := R
  exact ⟨fun b o q => k b o (f1 b o q), f2, f3.of_keeps fun b o q _ => ⟨o, k b o q, rfl⟩, oe, ws, T, oT, ts, k _ _ he, hc, hd, h1, hn, hne, k _ _ hT, hdT, h3⟩
def wTwo (K : PySem.W.Frag) (c1 c2 : Value) (ts : Addr → Value → Option Addr → TS) (Wout : WX) (D : Ends) : WX := fun cls d σ H =>
  ∃ b, PySem.W.exmAny K cls [c1, c2] = some b ∧ (b = true → ∀ a, H a = none → ts a cls d D σ H) ∧ (b = false → Wout cls d σ H)
section
variable {X : Cx} {x y : Str} {c c' : Value} {body suite : List Stmt} {b₀ : Stmt} {np np' tp pos pos' : Pos} {kx : Nat} {tb : WX → TS} {ts : Addr → Value → Option Addr → TS} {Wout : WX}
theorem ps_try_two (hs : X.stack = X.env :: X.outer) (hf : X.env.frame = some X.env.locals) (hc : Names X x c) (hc' : Names X y c') (tk : Takes X Wout)
    (hb : ∀ (W : WX) (pn : List (Addr × Obj)) (xe : Value → Shared → Prop), Takes (X.tr pn xe) W → PassesOwn (model X.prog X.w) X.A X.env xe → PSs (X.tr pn xe) body (tb W))
    (hsu : ∀ (a : Addr) (oe : Obj) (cls : Value) (d : Option Addr) (pn : List (Addr × Obj)), Zc cls d oe → (∃ vs, oe.data = .fields vs) → PSs (X.suite a ((a, oe) :: pn)) (b₀ :: suite) (ts a cls d)) :
    PS X (.Try body [.ExceptHandler (some (.Tuple [.Name x np, .Name y np'] kx tp)) none (b₀ :: suite) pos'] [] [] pos) (fun D σ H => tb (wTwo X.K c c' ts Wout D) D σ H) := by
  refine ⟨fun pins s σ H D I h => ?_⟩
  have ok := I.ok
  have hfr : X.A.frames = some (X.env :: X.outer) := by rw [ok.frames, hs]
  refine wpAny_Try_except ?_
  refine wpAny_mono ((hb (wTwo X.K c c' ts Wout D) (X.pn ++ pins) (fun e s₁ => wpAny (model X.prog X.w) X.A (noteFrame e X.env) (fun _ s₂ => wpAny (model X.prog X.w) X.A (setFlight e none) (fun _ s₃ =>
    wpAny (model X.prog X.w) X.A (handleBy e X.env [.ExceptHandler (some (.Tuple [.Name x np, .Name y np'] kx tp)) none (b₀ :: suite) pos']) (SP X pins D) X.xe s₃) X.xe s₂) X.xe s₁) (fun u s' xx => ?_) PassesOwn.looking).run [] s σ H D (I.toTry _) h) (fun f s1 hsp => ?_) (fun e s1 he => he)
  · obtain ⟨a, B, sI, pins', σ', H', cls, d, rfl, J', nb, up, sky, na, os, ag, b, hb1, hyes, hno⟩ := xx
    have J : Inv X pins σ' H' sI := J'.ofTry ok
    have sky' : Sky B (X.env :: X.outer) a (Zc cls d) X.env.locals s'.heap := by rw [← hs]; exact sky
    show wpAny (model X.prog X.w) X.A (noteFrame (.ref a) X.env) _ _ _
    refine Sky.land Zc.steady hfr hf sky' fun h3 fl3 up3 => ?_
    have J3 : Inv X pins σ' H' { s' with heap := h3 } := J.landed nb fl3.1 (up.trans up3) os ag
    obtain ⟨oe3, vs3, he3, hz3, hd3⟩ := fl3.there
    have notFr : ∀ {h : Heap} {o : Obj} {vs : Array Value}, h.FunFrames B (X.env :: X.outer) → h.get? a = some o → o.data = .fields vs → a ∉ frs (X.env :: X.outer) := fun {h o vs} ff e dd hm => by
      obtain ⟨_, o', e', hnf⟩ := ff.mem hm
      rw [e] at e'; cases e'
      exact hnf _ dd
    have nfr := notFr fl3.2.2.1 he3 hd3
    have nL : a ≠ X.env.locals := fun z => nfr (List.mem_filterMap.mpr ⟨X.env, List.mem_cons_self, by rw [hf, z]⟩)
    have nF : a ∉ X.fs := fun hm => by
      obtain ⟨e, he, q⟩ := List.mem_filterMap.mp hm
      exact nfr (List.mem_filterMap.mpr ⟨e, List.mem_cons_of_mem _ he, q⟩)
    have S3 := J3.suite he3 hd3 na nL nF
    refine wpAny_handleBy_cons (codeAny_handlers_test ?_) (by intro q; cases q)
    have test : ∀ {x : Str} {c : Value} {np : Pos} {Q : Value → Shared → Prop} {E : Value → Shared → Prop}, Names X x c → Q c { s' with heap := h3 } → wpAny (model X.prog X.w) (X.A.mark (some (.ref a))) (eval (.Name x np) X.env) Q E { s' with heap := h3 } := fun {x c np Q E} hc q => by
      obtain ⟨hg, hdbg, hm | ⟨hm, hv, hnn⟩⟩ := hc
      · exact ld_glob (X := X.suite a ((a, oe3) :: (X.pn ++ pins))) S3 hg hm q hdbg
      · exact ld_blt (X := X.suite a ((a, oe3) :: (X.pn ++ pins))) S3 hg hm hv q hnn hdbg
    have e1 : starEach [.Name x np, .Name y np'] X.env = (false, eval (.Name x np) X.env) :: starEach [.Name y np'] X.env := rfl
    have e2 : starEach [.Name y np'] X.env = (false, eval (.Name y np') X.env) :: starEach [] X.env := rfl
    refine wpAny_Tuple_spliced (args_cons (test hc (args_cons (test hc' (args_nil ⟨by rw [sizeLine_eq]; show 2 ≤ 16777216; decide, ?_⟩)) e2)) e1)
    have k3 : ∀ b o, h3.get? b = some o → (h3.push ({ cls := .type "tuple", data := .seq [c, c'].toArray } : Obj)).get? b = some o := fun b o e => Heap.get?_push_of_some _ e
    have hp : (h3.push ({ cls := .type "tuple", data := .seq [c, c'].toArray } : Obj)).get? h3.objs.size = some ({ cls := .type "tuple", data := .seq [c, c'].toArray } : Obj) := Heap.get?_push_size _ rfl
    have fl3' := flyingZ_keeps fl3 k3
    have up3' := up3.trans (Heap.UpToSlots.of_keeps k3)
    have J3' : Inv X pins σ' H' { s' with heap := h3.push ({ cls := .type "tuple", data := .seq [c, c'].toArray } : Obj) } := J.landed nb fl3'.1 (up.trans up3') os ag
    show wpAny _ _ (excMatches (.ref a) (.ref h3.objs.size)) _ _ { s' with heap := h3.push ({ cls := .type "tuple", data := .seq [c, c'].toArray } : Obj) }
    generalize h3.push ({ cls := .type "tuple", data := .seq [c, c'].toArray } : Obj) = h5 at *
    have LT : PySem.W.Looks (model X.prog X.w) h5 (typeOf (.ref a)) cls := fun A Q E s k q => wpAny_typeOf_ref (k _ _ (k3 _ _ he3)) (by rw [hz3.1]; exact q)
    have LM := PySem.W.exm_tup2 (M := model X.prog X.w) (J3'.kIn) LT hp hb1
    refine LM.here ?_
    cases b with
    | true =>
      refine codeAny_handlers_suite ?_
      refine HandSPX.lands_againZ fl3' fun h4 fl4 up4 => ?_
      have J4 : Inv X pins σ' H' { s' with heap := h4 } := J.landed nb fl4.1 ((up.trans up3').trans up4) os ag
      obtain ⟨oe4, vs4, he4, hz4, hd4⟩ := fl4.there
      have S4 := J4.suite he4 hd4 na nL nF
      refine wpAny_mono ((hsu a oe4 cls d (X.pn ++ pins) hz4 ⟨_, hd4⟩).run [] _ _ H' _ S4 (hyes rfl a na)) (fun f s6 hsp => ?_) (fun _ _ z => False.elim z)
      cases f with
      | next =>
        obtain ⟨σ6, H6, S6, q6⟩ := hsp
        exact ⟨_, _, S6.unsuite ok, q6⟩
      | brk =>
        obtain ⟨σ6, H6, S6, q6⟩ := hsp
        exact ⟨_, _, S6.unsuite ok, q6⟩
      | cont =>
        obtain ⟨σ6, H6, S6, q6⟩ := hsp
        exact ⟨_, _, S6.unsuite ok, q6⟩
      | ret u =>
        obtain ⟨v6, σ6, H6, S6, r6, q6⟩ := hsp
        exact ⟨_, _, _, S6.unsuite ok, r6, q6⟩
    | false =>
      show wpAny _ X.A (handleBy (.ref a) X.env []) _ _ _
      refine wpAny_handleBy_nil ?_
      obtain ⟨k1, k2, k4, oe, vs, T, oT, ts', he, hz, hd, h1, hr⟩ := id fl3'
      unfold PySem.passOn
      refine wpAny_bind (wpAny_field he hd h1 ?_)
      rw [if_neg (show ¬ ((Value.ref T == Value.none) = true) from by simp)]
      have fin : wpAny (model X.prog X.w) X.A (setFlight (.ref a) X.env.frame) (fun _ s4 => wpAny (model X.prog X.w) X.A (throw (.ref a) : Sem Flow) (SP X pins D) X.xe s4) X.xe { s' with heap := h5 } := by
        rw [hf]
        refine HandSPX.setFlight_upZ fl3' fun h4 hh4 up4 => wpAny_throw (tk _ _ ?_)
        exact ⟨a, B, sI, pins, σ', H', cls, d, rfl, J, nb, (up.trans up3').trans up4, .inr (.inr (by rw [hs]; exact hh4)), na, os, ag, hno rfl⟩
      first
        | exact wpAny_bind (wpAny_pure (wpAny_bind fin))
        | exact wpAny_bind fin
  · cases f with
    | next =>
      obtain ⟨σ', H', J', q⟩ := hsp
      exact wpAny_execs_nil ⟨σ', H', J'.ofTry ok, q⟩
    | brk =>
      obtain ⟨σ', H', J', q⟩ := hsp
      exact ⟨σ', H', J'.ofTry ok, q⟩
    | cont =>
      obtain ⟨σ', H', J', q⟩ := hsp
      exact ⟨σ', H', J'.ofTry ok, q⟩
    | ret u =>
      obtain ⟨v, σ', H', J', r, q⟩ := hsp
      exact ⟨v, σ', H', J'.ofTry ok, r, q⟩
end

/-! ### C.m(..), m a staticmethod -/
structure CStat (K : PySem.W.Frag) (C : Addr) (mc : Value) (m : Str) (p g : Addr) : Prop where
  at_ : PySem.W.findCls K (.ref C) mc m = some (.get (.builtin "staticmethod.__get__") (.ref p) .none (.ref C))
  rc : ∃ rest, PySem.W.recIn K p "staticmethod" = some (.ref g :: rest)
  fi : PySem.W.keepIn K (.ref g) = true
/-- a static method of the class whose global name is x -/
structure GSt (P : Program) (w : World) (K : PySem.W.Frag) (mg : Str → Option Value) (base : Heap) (k : Nat) (x : Str) (m : Str) (n : Nat) (ks : List Str) (sp : SpC) : Prop where
  ex : ∃ C mc p g, mg x = some (.ref C) ∧ ClX.CRead K C mc ∧ CStat K C mc m p g ∧ Cal P w K mg base k g n ks sp
section
variable {X : Cx} {k n : Nat} {ks : List Str} {sp : SpC} {W : WX} {x m : Str} {np pos apos : Pos} {e : Expr} {es : List Expr} {kws : List Keyword} {t tk : TA} {pl : Sem Bool}
theorem pe_static (G : GSt X.prog X.w X.K X.mg X.base k x m n ks sp) (hr : Room k X.A) (tw : Takes X W) (ha : PA X (e :: es) t) (hkw : PK X kws tk) (hg : Gl X x := by rfl)
    (hall : (backToKw pos (keywordEach kws X.env)).all (·.1.isSome) = true := by rfl) (hks : (backToKw pos (keywordEach kws X.env)).filterMap (·.1) = ks := by rfl) (hdb : (x == ("__debug__" : Str)) = false := by decide)
    (hst : starEach (e :: es) X.env = (false, eval e X.env) :: starEach es X.env := by rfl) (hpl : ((backTo pos (starEach (e :: es) X.env)).any (·.1) || (backToKw pos (keywordEach kws X.env)).any (·.1.isNone)) = false := by rfl)
    (ht : eval (.Call (.Attribute (.Name x np) m apos) (e :: es) kws pos) X.env = (do
      let ov ← eval (.Name x np) X.env
      standAt apos.atName
      let (f, first) ← holding [ov] (getMethod ov m pl)
      callWith pos f first (backTo pos (starEach (e :: es) X.env)) (backToKw pos (keywordEach kws X.env))) := by rfl) :
    PE X (.Call (.Attribute (.Name x np) m apos) (e :: es) kws pos) (tCalG n ks.length sp W t tk) := by
  refine ⟨fun pins s σ H Q I h => ?_⟩
  obtain ⟨C, mc, p, g, hm, r, c, F⟩ := G.ex
  obtain ⟨rest, hp⟩ := c.rc
  refine PySem.W.methodCall_KW (pl := pl) (ld_glob I hg hm ?_ hdb) ht
  refine PySem.W.method_cls I.kIn r.ga (PySem.W.cls_bind I.kIn r.rd c.at_ (wpAny_call (PySem.W.sm_get (s := { s with toks := s.toks + 1 }) I.kIn hp (PySem.W.handed_on (s := { s with toks := s.toks + 1 }) rfl ?_))))
  have I2 := I.tok (s.toks + 1)
  refine PySem.W.callWith_KW (h₀ := X.base) I.ok.mod.kin c.fi hall (thn (ha.run pos pins _ σ H _ I2 h) fun us s2 ⟨vs, H2, I2, r, q⟩ => ?_) hpl hst
  refine thn (hkw.run pos pins s2 σ H2 _ I2 q) fun ws s3 ⟨zs, H3, I3, rz, l1, l2, q3⟩ => ⟨I3.kIn, ?_⟩
  rw [hks]
  exact wpAny_call (run_cal F hr tw I3 r rz l1 l2 q3)
end

/-! ### target = e, e with super() -/
section
variable {X : Cx} {body : List Stmt} {pos : Pos}
theorem pst_asg {tg e : Expr} {te : TE} {g : TG} (he : PEt X body e te) (hg : PG X tg g) (hs : swapsWithSole [tg] e pos.line X.env = pure false := by rfl) (hw : swappedStores [tg] e X.env = pure none := by rfl)
    (h1 : (assignEach [tg] X.env).map (·.2) = [assign tg X.env] := by rfl) : PSt X body (.Assign [tg] e pos) (tAsg te g) := by
  refine ⟨fun pins s σ H D I h => ?_⟩
  rw [exec_Assign_arm]
  refine PySem.wpAt_bind (wpAt_of_wpAny (wpAny_standAt ?_))
  rw [hs]
  refine PySem.wpAt_bind (wpAt_of_wpAny (wpAny_pure ?_))
  rw [if_neg (by decide)]
  refine PySem.wpAt_bind (ks_wpAt_mono (he.run pins s σ H _ I h) (fun v s1 ⟨x, H1, I1, r1, q1⟩ => ?_) fun _ _ x => x)
  rw [hw]
  refine wpAt_of_wpAny (wpAny_bind (wpAny_pure ?_))
  show wpAny _ _ (do assignAll v ((assignEach [tg] X.env).map (·.2)); pure Flow.next) _ _ _
  refine wpAny_bind ?_
  rw [h1]
  exact thn (hg.run pins s1 σ H1 x v _ I1 r1 q1) fun _ s2 q => wpAny_pure q
end

/-! ### o.f = e; steps -/
section
variable {G H : Hp} {R : Res} {K : PySem.W.Frag} {f : Str} {v : V} {a C dx : Addr} {fs : List (Str × V)}
/-- the end of o.f = e -/
theorem g_sf {P : Hp → Prop} (w : Wd G R H) (h : G a = some (.ins C dx fs)) (hc : Cls K C) (hn : NoAttr K C f) (hl : fs.length < 1000) (k : ∀ H', Wd (upd G a (.ins C dx (putF f v fs))) R H' → P H') :
    ∃ a' C' dx' fs', V.ref a = .ref a' ∧ H a' = some (.ins C' dx' fs') ∧ Cls K C' ∧ NoAttr K C' f ∧ fs'.length < 1000 ∧ P (upd H a' (.ins C' dx' (putF f v fs'))) :=
  ⟨a, C, dx, fs, rfl, w.get h, hc, hn, hl, k _ (w.set h)⟩
/-- the end of o.f -/
theorem g_gf {P : V → Prop} (w : Wd G R H) (h : G a = some (.ins C dx fs)) (hc : Cls K C) (hn : NoAttr K C f) (hf : fs.lookup f = some v) (k : P v) :
    ∃ a' C' dx' fs' v', V.ref a = .ref a' ∧ H a' = some (.ins C' dx' fs') ∧ Cls K C' ∧ NoAttr K C' f ∧ fs'.lookup f = some v' ∧ P v' := ⟨a, C, dx, fs, v, rfl, w.get h, hc, hn, hf, k⟩
/-- the end of o.f, a constant of its class -/
theorem g_gc {P : V → Prop} {u : Value} (w : Wd G R H) (h : G a = some (.ins C dx fs)) (hc : Cls K C) (hn : Con K C f v u) (hf : fs.lookup f = none) (k : P v) :
    ∃ a' C' dx' fs' v' u', V.ref a = .ref a' ∧ H a' = some (.ins C' dx' fs') ∧ Cls K C' ∧ Con K C' f v' u' ∧ fs'.lookup f = none ∧ P v' := ⟨a, C, dx, fs, v, u, rfl, w.get h, hc, hn, hf, k⟩
end
def rInt1 : List V → Hp → VK → Prop := fun xs H Q => (∃ i, xs = [.int i] ∧ Q (.int i) H) ∨ ∃ k, xs = [.bl k] ∧ Q (.int (if k = true then 1 else 0)) H
theorem ka_int {X : Cx} : CallR X (.type "int") rInt1 := call_int1
theorem g_intB {H : Hp} {Q : VK} {b : Bool} (k : Q (.int (if b = true then 1 else 0)) H) : rInt1 [.bl b] H Q := .inr ⟨b, rfl, k⟩
theorem g_intI {H : Hp} {Q : VK} {i : Int} (k : Q (.int i) H) : rInt1 [.int i] H Q := .inl ⟨i, rfl, k⟩
theorem putF_nil {f : Str} {v : V} : putF f v [] = [(f, v)] := rfl
section
variable {σ : L2.St} {H : Hp} {Q : VK} {K : PySem.W.Frag} {D : Ends} {G : Hp} {R : Res} {te to : TE} {ta tk : TA} {f m : Str} {a C dx : Addr} {fs : List (Str × V)} {v : V} {W : WX} {n k : Nat} {ks : List Str} {sp : SpC} {P : Program} {wo : World} {mg : Str → Option Value} {base : Heap}
theorem g_meth {t : TA} (k0 : te σ H fun x H1 => ∃ a C dx fs sp, x = .ref a ∧ H1 a = some (.ins C dx fs) ∧ fs.lookup m = none ∧ GMt P wo K mg base k C m n ks sp ∧ t σ H1 fun vs H2 => tk σ H2 fun zs H3 => vs.length = n ∧ zs.length = ks.length ∧ sp (.ref a :: vs) zs H3 Q (WE W σ)) :
    tMtG P wo K mg base k m n ks W te t tk σ H Q := k0
theorem g_prop (k0 : te σ H fun x H1 => ∃ a C dx fs sp, x = .ref a ∧ H1 a = some (.ins C dx fs) ∧ GPr P wo K mg base k C m sp ∧ sp [.ref a] [] H1 Q E0) : tPrG P wo K mg base k m te σ H Q := k0
theorem g_exc1 {C : Addr} {fld : Str} {E : XK} (k0 : ta σ H fun vs H1 => ∃ v, vs = [v] ∧ ∀ d, H1 d = none → E (.ref C) (some d) (upd H1 d (.xd [(fld, v)]))) : tExc1 C fld ta σ H E := k0
theorem g_setF (k0 : te σ H fun y H1 => to σ H1 fun x H2 => ∃ a C dx fs, x = .ref a ∧ H2 a = some (.ins C dx fs) ∧ Cls K C ∧ NoAttr K C f ∧ fs.length < 1000 ∧ D.nx σ (upd H2 a (.ins C dx (putF f y fs)))) : sFld K to te f D σ H := k0
theorem g_andT {t1 t2 : TE} (k0 : t1 σ H fun x H1 => ∃ b, TruV K x H1 b ∧ if b = true then t2 σ H1 Q else Q x H1) : tAndT K t1 t2 σ H Q := k0
theorem g_exI {a : Int} {P : Int → Prop} (k0 : P a) : ∃ i, V.int a = V.int i ∧ P i := ⟨a, rfl, k0⟩
theorem g_dnew (k0 : NewO (.dK []) H Q) : tDNewK σ H Q := k0
theorem g_U {g : Int → V} {i : Int} (k0 : Q (g i) H) : rU g (.int i) H Q := ⟨i, rfl, k0⟩
theorem g_asgF {ts : TS} (k0 : ts D σ H) : ts D σ H := k0
theorem g_star {tr : TA} {QA : List V → Hp → Prop} (k0 : te σ H fun x H1 => ∃ p xs, x = V.ref p ∧ (SqT K H1 p xs ∨ SqL K H1 p xs) ∧ tr σ H1 fun ys H2 => QA (xs ++ ys) H2) : StX.tStar K te tr σ H QA := k0
end
end Sw

set_option Elab.async false
set_option linter.all false
set_option maxRecDepth 100000
set_option maxHeartbeats 4000000
namespace Sw
open PySem PySem.Spec PySem.Calls PyProof.Rows PySem.W
section
variable {prog : Program} {w : World} {A : Around} {E : Value → Shared → Prop} {s : Shared} {K : Frag} {x D : Addr} {ox od : Obj}
theorem sw_classE {Q : Option Value → Shared → Prop} (hga : findIn K (.ref D) "__getattribute__" = some (some (.builtin "BaseException.__getattribute__"))) (hgt : findIn K (.ref D) "__getattr__" = some none) (hsub : subIn K (.ref D) (.type "BaseException") = some true)
    (hdct : hasDictIn K D = true) (ha : findIn K (.ref D) "__class__" = some (some (.builtin "object.__class__")))
    (hn : specialIn K (.builtin "object.__class__") "__get__" = some (some (.builtin "getset_descriptor.__get__"))) (htk : takesIn K (.builtin "object.__class__") = some true) (hm : mroIn K D (.type "object") = some true)
    (X : K.In s.heap) (I : InstAt s.heap x ox D (some od)) (h : Q (some (.ref D)) { s with toks := s.toks + 1 }) : wpAny (model prog w) A (getAttr? (.ref x) "__class__") Q E s := by
  have hf : findObj K D (some od) "__class__" = some (.bind (.builtin "getset_descriptor.__get__") (.builtin "object.__class__")) := findObj_data (by obtain ⟨cd, hc, _⟩ := any_some hdct; rw [hc]; rfl) ha hn htk
  obtain ⟨hp, g, d, t, os⟩ := s
  have L0 := I.type (M := model prog w)
  have L1 := looks_findIn (M := model prog w) X hga
  have L2 := looks_findIn (M := model prog w) X hgt
  have L3 := looks_find (M := model prog w) X I hf
  have sub : Looks (model prog w) hp (isInstance (.ref x) (.type "BaseException")) true := L0.andThen (looks_subIn X hsub)
  have hx0 : (false && onTheHeap (Value.builtin "BaseException.__getattribute__")) = false := rfl
  have hx2 : (Value.builtin "BaseException.__getattribute__" == Value.builtin "object.__getattribute__") = false := by decide +kernel
  have hx1 : (onTheHeap (Value.ref D) && Value.builtin "BaseException.__getattribute__" == Value.builtin "object.__getattribute__") = false := by rw [hx2]; rfl
  unfold getAttr? getAttrBy? getAttrBy
  refine wpAny_bind (wpAny_mkText (wpAny_bind (wpAny_attempt (wpAny_holding (wpAny_bind (L0.at (wpAny_bind (L1.at ?_))))))))
  show wpAny _ _ (if (onTheHeap (Value.ref D) && Value.builtin "BaseException.__getattribute__" == Value.builtin "object.__getattribute__") = true then _ else _) _ _ _
  rw [hx1, if_neg Bool.false_ne_true]
  unfold getAttrByItsOwn hookBefore
  refine wpAny_bind ?_
  rw [if_pos (show onTheHeap (Value.ref D) = true from rfl)]
  refine L2.at ?_
  refine wpAny_bind (wpAny_attempt (wpAny_holding ?_))
  unfold callGetattribute
  rw [hx0, if_neg Bool.false_ne_true]
  unfold boundAndCalled
  rw [PySem.F.excAttr_ValueError.ga.bind (.ref x)]
  refine wpAny_bind (wpAny_pure ?_)
  show wpAny _ _ (call (.builtin "BaseException.__getattribute__") [.ref x, .str "__class__" t]) _ _ _
  refine wpAny_call (codeAny_call_builtin PySem.F.excAttr_ValueError.ga.plain PySem.F.entry_bexc_ga ?_)
  refine @check_slot (model prog w) _ _ ⟨hp, g, d, t + 1, os⟩ "BaseException.__getattribute__" "BaseException" "__getattribute__" (.ref x) [.str "__class__" t] [] _ (by decide +kernel) (by decide +kernel) sub (PySem.F.args_bexc_ga (.ref x) (.str "__class__" t)) ?_
  unfold Builtin.«object.__getattribute__»
  refine wpAny_bind (wpAny_of_eq (a := ((Value.ref x : Value), [Value.str "__class__" t])) (by first | rfl | (simp only [slotArgs]; rfl)) ?_)
  refine wpAny_bind (wpAny_pure (wpAny_bind (L0.at (wpAny_bind (L3.at ?_)))))
  show wpAny _ _ (holding [Value.builtin "object.__class__"] (call (.builtin "getset_descriptor.__get__") [.builtin "object.__class__", .ref x, .ref D]) >>= ret) _ _ _
  refine wpAny_bind (wpAny_holding (wpAny_call (class_get (s := ⟨hp, g, d, t + 1, os⟩) (ox := ox) (od := some od) X I hm ?_)))
  refine wpAny_pure ?_
  show wpAny _ _ (handedOut (.ref D)) _ _ _
  rw [handedOut_of (v := .ref D) rfl]
  first
    | exact wpAny_pure (wpAny_pure h)
    | exact wpAny_pure h
    | exact wpAny_pure (wpAny_bind (wpAny_pure (wpAny_pure h)))
theorem sw_kitx (hga : findIn K (.ref D) "__getattribute__" = some (some (.builtin "BaseException.__getattribute__"))) (hgt : findIn K (.ref D) "__getattr__" = some none) (hsub : subIn K (.ref D) (.type "BaseException") = some true) (hdct : hasDictIn K D = true) (ha : findIn K (.ref D) "__class__" = some (some (.builtin "object.__class__")))
    (hn : specialIn K (.builtin "object.__class__") "__get__" = some (some (.builtin "getset_descriptor.__get__"))) (htk : takesIn K (.builtin "object.__class__") = some true) (hm : mroIn K D (.type "object") = some true) :
    KitX K (.ref x) (.ref D) (fun h => InstAt h x ox D (some od)) where
  ty := fun _ _ _ I => I.type
  it := fun _ _ X _ => by
    obtain ⟨cdD, hcD, _⟩ := any_some hdct
    unfold clsIn at hcD
    split at hcD
    · rename_i c' d' cd' sl' ho
      intro A' Q' E' s' k q
      unfold isType loadHead
      exact wpAny_bind (wpAny_loadPart (k _ _ (X _ _ ho)) (wpAny_pure q))
    · cases hcD
  ne := fun h tp dd its n sl X htp => by
    obtain ⟨cdD, hcD, _⟩ := any_some hdct
    refine Bool.eq_false_iff.mpr fun q => ?_
    have e : D = tp := Value.ref.inj (beq_iff_eq.mp q)
    subst e
    unfold clsIn at hcD
    split at hcD
    · rename_i c' d' cd' sl' ho
      have z := (X _ _ ho).symm.trans htp
      cases z
    · cases hcD
  ca := fun X I k => sw_classE hga hgt hsub hdct ha hn htk hm X I k
end
end Sw
namespace Sw
open PySem PySem.Spec PyProof.Rows L2
/-! ### isinstance(e, c), e a caught own exception with a dict -/
def rIsX (K : PySem.W.Frag) (a : Addr) (cls : Value) (d : Option Addr) : List V → Hp → VK → Prop := fun xs H Q => ∃ (c : V) (cv : Value) (b : Bool) (D dd : Addr) (fs : List (Str × V)), xs = [.ref a, c] ∧ cls = .ref D ∧ d = some dd ∧ H dd = some (.xd fs) ∧ ExcC K D ∧ (∀ u, RelV c u → u = cv) ∧ PySem.W.kitOne K (.ref D) cv = some b ∧ Q (.bl b) H
theorem call_isX {X : Cx} {a : Addr} {cls : Value} {d : Option Addr} {oe : Obj} {pn : List (Addr × Obj)} (K : PySem.W.Frag) (hz : Zc cls d oe) (hf : ∃ vs, oe.data = .fields vs) (hK : X.K = K := by rfl) : CallR (X.suite a ((a, oe) :: pn)) (.builtin "isinstance") (rIsX K a cls d) := by
  subst hK
  intro pins s σ H xs us Q I r h
  obtain ⟨c, cv, b, D, dd, fs, rfl, ec, ed, ea, C, hcv, e, q⟩ := h
  subst ec ed
  cases r with
  | cons rx rr =>
    cases rr with
    | cons rt rr =>
      cases rr
      cases rx
      have ec := hcv _ rt
      subst ec
      obtain ⟨hget, _⟩ := I.pin (a, oe) (List.mem_append.mpr (.inl List.mem_cons_self))
      obtain ⟨vs, hv⟩ := hf
      have hx : ObjOk X.prog X.w H s.heap dd (.xd fs) := I.hok dd _ ea
      obtain ⟨mA, hns, hr⟩ := hx
      obtain ⟨od, ho, hl⟩ := lookIn_ns hns
      have J : PySem.W.InstAt s.heap a oe D (some od) := ⟨hget, hz.1, by unfold PySem.W.notCls; rw [hv] <;> rfl, by rw [hz.2]; exact ho⟩
      exact PySem.W.kia_one (sw_kitx C.hg C.hk C.hs C.hd C.ha C.hn C.ht C.hm) I.kIn J e (fun z => nomatch z) fun tk => ⟨.bl b, H, I.kept (t' := tk) fun _ _ z => z, rfl, q⟩
/-- e.f, whatever own class e is of -/
def tXg (K : PySem.W.Frag) (a : Addr) (cls : Value) (d : Option Addr) (f : Str) (te : TE) : TE := fun σ H Q => te σ H fun x H1 => x = .ref a ∧ ∃ (C dd : Addr) (fs : List (Str × V)) (v : V), cls = .ref C ∧ d = some dd ∧ XfC K C ∧ PySem.W.findIn K (.ref C) f = some none ∧ H1 dd = some (.xd fs) ∧ fs.lookup f = some v ∧ Q v H1
theorem g_xg {K : PySem.W.Frag} {a : Addr} {cls : Value} {d : Option Addr} {f : Str} {te : TE} {σ : L2.St} {H : Hp} {Q : VK} (k : te σ H fun x H1 => x = .ref a ∧ ∃ (C dd : Addr) (fs : List (Str × V)) (v : V), cls = .ref C ∧ d = some dd ∧ XfC K C ∧ PySem.W.findIn K (.ref C) f = some none ∧ H1 dd = some (.xd fs) ∧ fs.lookup f = some v ∧ Q v H1) : tXg K a cls d f te σ H Q := k
theorem pe_xg {X : Cx} {a : Addr} {oe : Obj} {cls : Value} {d : Option Addr} {pn : List (Addr × Obj)} {e : Expr} {te : TE} {pos : Pos} {n : Str} (K : PySem.W.Frag)
    (hz : Zc cls d oe) (hf : ∃ vs, oe.data = .fields vs) (he : PE (X.suite a ((a, oe) :: pn)) e te) (hK : X.K = K := by rfl) (hb : attributeBase e n X.env (eval e X.env) = eval e X.env := by rfl) :
    PE (X.suite a ((a, oe) :: pn)) (.Attribute e n pos) (tXg K a cls d n te) := by
  subst hK
  refine ⟨fun pins s σ H Q I h => ?_⟩
  refine attr_of hb (thn (he.run pins s σ H _ I h) fun u s1 hh => ?_)
  obtain ⟨x, H1, I1, rx, ex, C, dd, fs, v, ec, ed, T, hno, ea, l, q⟩ := hh
  subst ex
  obtain rfl : u = Value.ref a := rx
  subst ec
  subst ed
  obtain ⟨ha, _⟩ := I1.pin (a, oe) (List.mem_append_left _ List.mem_cons_self)
  obtain ⟨vs, hd⟩ := hf
  have hx : ObjOk X.prog X.w H1 s1.heap dd (.xd fs) := I1.hok dd _ ea
  obtain ⟨mA, hns, hr⟩ := hx
  obtain ⟨od, ho, hl⟩ := lookIn_ns hns
  obtain ⟨u, hu, ru⟩ := RelO.some_of (v := v) (o := mA n) (by rw [← l]; exact hr n)
  have J : PySem.W.InstAt s1.heap a oe C (some od) := ⟨ha, hz.1, by unfold PySem.W.notCls; rw [hd] <;> rfl, by rw [hz.2]; exact ho⟩
  exact HandSPX.exc_get I1.kIn J T.ga T.gg T.exC (PySem.W.findObj_own T.hdC hno rfl (by rw [hl, hu])) (handed_of ru) ⟨v, H1, I1.tok _, ru, q⟩
/-- names in an except clause -/
theorem names_of {X : Cx} {x : Str} {a : Addr} (hg : Gl X x) (h : ∃ u, X.mg x = some u ∧ RelV (.ref a) u) (hd : (x == ("__debug__" : Str)) = false := by decide) : Names X x (.ref a) := by
  obtain ⟨u, hm, r⟩ := h
  have r' : u = Value.ref a := r
  subst r'
  exact ⟨hg, hd, .inl hm⟩

/-- a plain def with defaults: its takes at hand -/
theorem okTD {P : Program} {w : World} {K : PySem.W.Frag} {mg : Str → Option Value} {base : Heap} {x qual : Str} {st : Stmt} {f : Addr} {fd : FuncData} {N ps : List Str} {k : Nat} {sp : Sp} {dvs : List V} {kws : List (Str × V)} (F : FunD K x qual (defArgs st) (defBody st) (defScope st) dvs kws f fd) (S : FnScope N ps (defScope st)) (len : ∀ vs H Q E, sp vs H Q E → vs.length = ps.length)
    (hbody : ∀ (cdv : Value) (A : Around) (outer : List Env) (s : Shared) (H : Hp) (vs : List V) (Q : VK) (E : XK), Room k (A.deeper (envOfC qual (defScope st) s.heap.objs.size f cdv)) →
      Takes (cxOf (L2.CX P w) P w K mg base N qual (defScope st) f cdv A outer s H E) (fun cls d _ H => E cls d H) →
      PassesOwn (model P w) (A.deeper (envOfC qual (defScope st) s.heap.objs.size f cdv)) (envOfC qual (defScope st) s.heap.objs.size f cdv) (cxOf (L2.CX P w) P w K mg base N qual (defScope st) f cdv A outer s H E).xe → sp vs H Q E →
      ∃ t, PSs (cxOf (L2.CX P w) P w K mg base N qual (defScope st) f cdv A outer s H E) (defBody st) t ∧ t { nx := fun _ H' => Q .non H', rt := Q } (L2.start N vs) H) : FnOk P w K mg base (L2.CX P w) (k + 1) f fd ps sp :=
  F.ok S len fun cdv A outer s H vs Q E hr h => hbody cdv A outer s H vs Q E hr (takes_of rfl rfl rfl rfl) (passes_of (X := cxOf (L2.CX P w) P w K mg base N qual (defScope st) f cdv A outer s H E) rfl) h
section
variable {K : PySem.W.Frag} {G H G' : Hp} {R : Res} {p x : Addr} {o : HO} {v : V} {t : Value}
theorem Same.upd2 (e : Same G G') : Same (upd G p o) (upd G' p o) := fun b u h => by
  by_cases hb : b = p
  · subst hb; rw [upd_same] at h ⊢; exact h
  · rw [upd_ne hb] at h ⊢; exact e b u h
theorem tyX_same (e : Same G H) (h : TyX K G v t) : TyX K H v t := by
  cases h with
  | base h =>
    cases h with
    | non => exact .base .non
    | bl b => exact .base (.bl b)
    | int i => exact .base (.int i)
    | str s => exact .base (.str s)
    | flt s => exact .base (.flt s)
    | lst q => exact .base (.lst (e _ _ q))
    | frz q => exact .base (.frz (e _ _ q))
    | tup q => exact .base (.tup (e _ _ q))
    | dK q => exact .base (.dK (e _ _ q))
    | dT q => exact .base (.dT (e _ _ q))
    | ins q z1 z2 z3 z4 z5 => exact .base (.ins (e _ _ q) z1 z2 z3 z4 z5)
  | byt b => exact .byt b
  | set q => exact .set (e _ _ q)
  | kList q c => exact .kList q c
  | kTuple q c => exact .kTuple q c
  | kDict q c => exact .kDict q c
  | fTuple q => exact .fTuple (e _ _ q)
  | fDict q => exact .fDict (e _ _ q)
theorem tyX_ins {C dx : Addr} {fs fs' : List (Str × V)} (hx : G x = some (.ins C dx fs)) (h : TyX K G v t) : TyX K (upd G x (.ins C dx fs')) v t := by
  have key : ∀ {a : Addr} {o : HO}, G a = some o → (∀ C dx fs, o ≠ .ins C dx fs) → upd G x (.ins C dx fs') a = some o := fun {a o} q n => by
    have : a ≠ x := fun z => by
      subst z
      rw [hx] at q
      cases q
      exact n _ _ _ rfl
    rw [upd_ne this]
    exact q
  cases h with
  | base h =>
    cases h with
    | non => exact .base .non
    | bl b => exact .base (.bl b)
    | int i => exact .base (.int i)
    | str s => exact .base (.str s)
    | flt s => exact .base (.flt s)
    | lst q => exact .base (.lst (key q (by intros; simp)))
    | frz q => exact .base (.frz (key q (by intros; simp)))
    | tup q => exact .base (.tup (key q (by intros; simp)))
    | dK q => exact .base (.dK (key q (by intros; simp)))
    | dT q => exact .base (.dT (key q (by intros; simp)))
    | @ins a C' dx' fs2 q h1 h2 h3 h4 h5 =>
      by_cases z : a = x
      · subst z
        rw [hx] at q
        cases q
        exact .base (.ins upd_same h1 h2 h3 h4 h5)
      · exact .base (.ins (show upd G x (.ins C dx fs') a = some (.ins C' dx' fs2) by rw [upd_ne z]; exact q) h1 h2 h3 h4 h5)
  | byt b => exact .byt b
  | set q => exact .set (key q (by intros; simp))
  | kList q c => exact .kList q c
  | kTuple q c => exact .kTuple q c
  | kDict q c => exact .kDict q c
  | fTuple q => exact .fTuple (key q (by intros; simp))
  | fDict q => exact .fDict (key q (by intros; simp))
end
end Sw

set_option Elab.async false
set_option linter.all false
set_option maxRecDepth 100000
set_option maxHeartbeats 4000000
namespace Sv
open PySem L2
def top (i : Nat) : Stmt := PySem.Challenge.pw_savewise_k02_column_texts_spoilt.main.body.getD i (.Pass ⟨0, 0, 0, 0⟩)
abbrev s__wall : Stmt := top 0
abbrev s_InvalidName___init__ : Stmt := inClass (top 3) 0
abbrev s_InvalidColumn___init__ : Stmt := inClass (top 4) 0
abbrev s_InvalidText___init__ : Stmt := inClass (top 5) 0
abbrev s_is_name : Stmt := top 10
abbrev s_Column___init__ : Stmt := inClass (top 13) 3
abbrev s_Column___eq__ : Stmt := inClass (top 13) 4
abbrev s_Column_kind : Stmt := inClass (top 13) 5
abbrev s_Column_default : Stmt := inClass (top 13) 6
abbrev s_Column_text : Stmt := inClass (top 13) 7
abbrev s_Column_words : Stmt := inClass (top 13) 8
abbrev s_Column_accepts : Stmt := inClass (top 13) 9
abbrev s_Column_parse : Stmt := inClass (top 13) 10
abbrev s_IntColumn_accepts : Stmt := inClass (top 14) 1
abbrev s_TextColumn_accepts : Stmt := inClass (top 15) 2
abbrev s_RefColumn___init__ : Stmt := inClass (top 16) 1
abbrev s_RefColumn_words : Stmt := inClass (top 16) 2
abbrev s_RefColumn_accepts : Stmt := inClass (top 16) 3
abbrev s_parsed_column : Stmt := top 17
abbrev s__law_begun : Stmt := top 19
abbrev s__law_draw : Stmt := top 20
abbrev s__law_pick : Stmt := top 21
abbrev s__law_mixed : Stmt := top 22
abbrev s__law_names : Stmt := top 23
abbrev s__law_column : Stmt := top 24
abbrev s__law_column_text : Stmt := top 25
abbrev s__law_is_name : Stmt := top 26
abbrev s__law_is_text : Stmt := top 27
abbrev s__law_spoilt : Stmt := top 28
abbrev s__law_read : Stmt := top 29
abbrev s_law : Stmt := top 30
/-- where the top has put its classes and tuples -/
structure Ad where
  (SaveError InvalidName InvalidColumn InvalidText Column IntColumn TextColumn RefColumn RESERVED RULES : Addr)
structure Txt (K : PySem.W.Frag) (mg : Str → Option Value) (A : Ad) : Prop where
  nb_super : mg "super" = none
  nb_isinstance : mg "isinstance" = none
  nb_str : mg "str" = none
  nb_len : mg "len" = none
  nb_all : mg "all" = none
  nb_abs : mg "abs" = none
  nb_list : mg "list" = none
  nb_range : mg "range" = none
  nb_int : mg "int" = none
  nb_enumerate : mg "enumerate" = none
  g_SaveError : ∃ u, mg "SaveError" = some u ∧ RelV (.ref A.SaveError) u
  g_InvalidName : ∃ u, mg "InvalidName" = some u ∧ RelV (.ref A.InvalidName) u
  g_InvalidColumn : ∃ u, mg "InvalidColumn" = some u ∧ RelV (.ref A.InvalidColumn) u
  g_InvalidText : ∃ u, mg "InvalidText" = some u ∧ RelV (.ref A.InvalidText) u
  g_Column : ∃ u, mg "Column" = some u ∧ RelV (.ref A.Column) u
  g_IntColumn : ∃ u, mg "IntColumn" = some u ∧ RelV (.ref A.IntColumn) u
  g_TextColumn : ∃ u, mg "TextColumn" = some u ∧ RelV (.ref A.TextColumn) u
  g_RefColumn : ∃ u, mg "RefColumn" = some u ∧ RelV (.ref A.RefColumn) u
  g_LETTERS : ∃ u, mg "LETTERS" = some u ∧ RelV (.str "abcdefghijklmnopqrstuvwxyz") u
  g_LONGEST_NAME : ∃ u, mg "LONGEST_NAME" = some u ∧ RelV (.int 8) u
  g_RESERVED : ∃ u, mg "RESERVED" = some u ∧ RelV (.ref A.RESERVED) u
  t_RESERVED : ∀ H, SqT K H A.RESERVED [.str "key", .str "limit", .str "order", .str "self", .str "table"]
  g_RULES : ∃ u, mg "RULES" = some u ∧ RelV (.ref A.RULES) u
  t_RULES : ∀ H, SqT K H A.RULES [.str "restrict", .str "clear", .str "cascade"]
end Sv

set_option Elab.async false
set_option linter.all false
set_option maxRecDepth 100000
set_option maxHeartbeats 4000000
namespace Sv
open PySem PySem.Spec PyProof.Rows L2 Sw

/-! ### the steps -/
local macro_rules | `(tactic| walk_at "go1") => `(tactic| first
  | ((with_reducible refine' g_var ?hv ?_); (case hv => rfl))
  | with_reducible refine g_c ?_
  | with_reducible refine g_op ?_
  | with_reducible refine g_un ?_
  | with_reducible refine g_seq ?_
  | with_reducible refine g_next ?_
  | with_reducible refine g_asg ?_
  | with_reducible refine g_name ?_
  | with_reducible refine g_drop ?_
  | with_reducible refine g_sub ?_
  | with_reducible refine g_ret ?_
  | with_reducible refine g_retN ?_
  | with_reducible refine g_ifS ?_
  | with_reducible refine g_if ?_
  | with_reducible refine g_test ?_
  | with_reducible refine g_bl ?_
  | with_reducible refine g_cons ?_
  | with_reducible refine g_nil ?_
  | with_reducible refine g_and ?_
  | with_reducible refine g_or ?_
  | with_reducible refine g_not ?_
  | with_reducible refine g_callB ?_
  | with_reducible refine g_addI ?_
  | with_reducible refine g_I0 ?_
  | with_reducible refine g_calG ?_
  | with_reducible refine g_mkG ?_
  | with_reducible refine g_tup ?_
  | with_reducible refine g_lst ?_
  | with_reducible refine g_forL ?_
  | with_reducible refine g_forR ?_
  | with_reducible refine g_forR2 ?_
  | with_reducible refine g_forS ?_
  | with_reducible refine g_forE ?_
  | with_reducible refine g_lcL ?_
  | with_reducible refine g_lcR ?_
  | with_reducible refine g_lcS ?_
  | with_reducible refine g_lcE ?_
  | with_reducible refine g_orT ?_
  | with_reducible refine g_slc ?_
  | with_reducible refine g_noPart ?_
  | with_reducible refine g_part ?_
  | with_reducible refine g_bm ?_
  | with_reducible refine g_par ?_
  | with_reducible refine g_yes ?_
  | with_reducible refine g_tupG ?_
  | with_reducible refine g_gcons ?_
  | with_reducible refine g_gnil ?_
  | with_reducible refine g_chain ?_
  | with_reducible refine g_truB ?_
  | with_reducible refine g_truN ?_
  | with_reducible refine g_truI ?_
  | with_reducible refine g_m1 ?_
  | with_reducible refine g_fld ?_
  | with_reducible refine g_con ?_
  | with_reducible refine g_tru ?_
  | with_reducible refine g_U ?_
  | with_reducible refine g_xg ?_
  | with_reducible refine g_andT ?_
  | with_reducible refine g_exI ?_
  | with_reducible refine g_dnew ?_
  | with_reducible refine g_intB ?_
  | with_reducible refine g_meth ?_
  | with_reducible refine g_prop ?_
  | with_reducible refine g_exc1 ?_
  | with_reducible refine g_setF ?_
  | with_reducible refine g_star ?_
  | with_reducible refine g_strM ?_
  | with_reducible refine iteT ?_
  | with_reducible refine iteF ?_
  | with_reducible refine iteNT ?_
  | with_reducible refine iteNF ?_)
local macro_rules | `(tactic| walk_at "go") => `(tactic| repeat (walk_at "go1"))
local macro_rules | `(tactic| walk_at "sz") => `(tactic| (first | (rw [sizeLine_eq]; simp only [List.length_cons, List.length_nil, List.length_map, List.length_append, List.length_take]; omega) | (rw [sizeLine_eq]; omega)))
/-! ### the state of the choices -/
structure DOk (xs : List Int) (i m : Int) : Prop where
  ne : xs ≠ []
  nn : ∀ x ∈ xs, 0 ≤ x
  len : xs.length ≤ 63
  i0 : 0 ≤ i
  m0 : 0 ≤ m
  m1 : m < 2147483647
def DS (a c : Addr) (H : Hp) : Prop := ∃ xs i m, DOk xs i m ∧ H a = some (.lst [.ref c, .int i, .int m]) ∧ H c = some (.lst (xs.map V.int))
def RD (a c : Addr) : Res := ⟨[a, c], DS a c, fun H H' h e => by
    obtain ⟨xs, i, m, d, h1, h2⟩ := h
    exact ⟨xs, i, m, d, by rw [e a (by simp)]; exact h1, by rw [e c (by simp)]; exact h2⟩,
  fun H h b hb => by
    obtain ⟨xs, i, m, d, h1, h2⟩ := h
    rcases List.mem_cons.mp hb with rfl | hb
    · rw [h1]; simp
    · rw [List.mem_singleton] at hb
      rw [hb, h2]; simp⟩
theorem RD.apart {a c : Addr} {H : Hp} (h : DS a c H) : a ≠ c := by
  obtain ⟨xs, i, m, d, h1, h2⟩ := h
  rintro rfl
  rw [h1] at h2
  cases xs with
  | nil => exact d.ne rfl
  | cons x xs => cases h2
/-- the resource changed: what is known stays -/
theorem RD.put {a c : Addr} {G H H' : Hp} (w : Wd G (RD a c) H) (h : DS a c H') (k : ∀ b o, b ≠ a → b ≠ c → H b = some o → H' b = some o) : Wd G (RD a c) H' := by
  refine ⟨fun b o e => ?_, w.out, h⟩
  have na : b ≠ a := fun z => by
    have := w.out a (by simp [RD])
    rw [← z, e] at this; cases this
  have nc : b ≠ c := fun z => by
    have := w.out c (by simp [RD])
    rw [← z, e] at this; cases this
  exact k b o na nc (w.sub b o e)

section
variable {P : Program} {wo : World} {A : Ad} {K : PySem.W.Frag} {mg : Str → Option Value} {base : Heap}

def spDraw : Sp := fun vs H Q _ => ∃ G a c b, vs = [.ref a, .int b] ∧ Wd G (RD a c) H ∧ 0 < b ∧ b < 1073741824 ∧ ∀ r H', 0 ≤ r → r < b → Wd G (RD a c) H' → Q (.int r) H'
theorem sc__law_draw : FnScope (["_law_state", "_law_bound", "_law_cells", "_law_at", "_law_cell"] : List Str) (["_law_state", "_law_bound"] : List Str) (defScope s__law_draw) := ⟨rfl, rfl, rfl, by decide +kernel, rfl, by decide +kernel, by decide +kernel⟩
theorem ok_draw {f : Addr} {fd : FuncData} (F : Fun K "_law_draw" "_law_draw" s__law_draw f fd) (T : Txt K mg A) : FnOk P wo K mg base (L2.CX P wo) 1 f fd (["_law_state", "_law_bound"] : List Str) spDraw := by
  refine okT F sc__law_draw (fun vs H Q E h => ?_) (fun cdv Ar outer s H vs Q E hr tk po h => ?_)
  · obtain ⟨_, _, _, _, rfl, _⟩ := h
    rfl
  obtain ⟨G, a, c, b, rfl, w, b0, b1, k⟩ := h
  refine ⟨_, (pss_cons (ps_set (i := 2) sc__law_draw.nd rfl (by first | exact Or.inl rfl | exact Or.inr rfl) (pe_ix (ka_ix K) (pv 0) pe_int (fun _ _ => rfl)))
      (pss_cons (ps_set (i := 3) sc__law_draw.nd rfl (by first | exact Or.inl rfl | exact Or.inr rfl) (pe_op op_mod (pe_ix (ka_ix K) (pv 0) pe_int (fun _ _ => rfl)) (pe_callB (ka_len K) (by rfl) T.nb_len (by decide +kernel) (pa_cons (pv 2) pa_nil))))
      (pss_cons (ps_set (i := 4) sc__law_draw.nd rfl (by first | exact Or.inl rfl | exact Or.inr rfl) (pe_ix (ka_ix K) (pv 2) (pv 3) (fun _ _ => rfl)))
      (pss_cons (ps_if (pt_cmpR op_ge (pv 4) pe_int (nomark _)) (pss_cons (ps_asg (pe_op op_fdiv (pv 4) (pv 1)) (pg_sub (pv 2) (pv 3) set_list))
      (pss_one (ps_ret (pe_op op_mod (pv 4) (pv 1))))) pss_nil)
      (pss_cons (ps_asg (pe_op (ka_add K) (pe_ix (ka_ix K) (pv 0) pe_int (fun _ _ => rfl)) pe_int) (pg_sub (pv 0) pe_int set_list))
      (pss_cons (ps_asg (pe_op op_mod (pe_op (ka_add K) (pe_op (ka_add K) (pe_op (ka_mul K) (pe_ix (ka_ix K) (pv 0) pe_int (fun _ _ => rfl)) pe_int) (pv 4)) pe_int) pe_int) (pg_sub (pv 0) pe_int set_list))
      (pss_one (ps_ret (pe_op op_mod (pe_op op_fdiv (pe_op op_mod (pe_op (ka_mul K) (pe_ix (ka_ix K) (pv 0) pe_int (fun _ _ => rfl)) (pe_ix (ka_ix K) (pv 0) pe_int (fun _ _ => rfl))) pe_int) pe_int) (pv 1)))))))))), ?_⟩
  obtain ⟨xs, i, m, d, ha, hc⟩ := id w.res
  have hac := RD.apart w.res
  have wH : Wd H R0 H := Wd.r0 H
  have hcl : SqL K H c (xs.map V.int) := SqL.of hc
  have n0 : 0 < xs.length := List.length_pos_iff.mpr d.ne
  walk_at "go"
  refine g_ixL wH (SqL.of ha) (by rfl) ?_
  walk_at "go"
  refine g_ixL wH (SqL.of ha) (by rfl) ?_
  walk_at "go"
  refine g_lenL wH hcl ?_
  rw [List.length_map]
  refine g_I (show (0 : Int) < (xs.length : Int) by omega) ?_
  obtain ⟨j, hj⟩ : ∃ j : Nat, i % (xs.length : Int) = (j : Int) := ⟨(i % (xs.length : Int)).toNat, by
    have := Int.emod_nonneg i (show (xs.length : Int) ≠ 0 by omega)
    omega⟩
  have hjl : j < xs.length := by
    have := Int.emod_lt_of_pos i (show (0 : Int) < (xs.length : Int) by omega)
    omega
  rw [hj]
  have hx : (xs.map V.int)[j]? = some (V.int xs[j]) := by simp [hjl]
  have hp : 0 ≤ xs[j] := d.nn _ (List.getElem_mem hjl)
  walk_at "go"
  refine g_ixL wH hcl (atI_nat hx) ?_
  walk_at "go"
  refine iteD (fun h1 => ?_) (fun h1 => ?_)
  · walk_at "go"
    refine g_I ⟨b0, b1⟩ ?_
    walk_at "go"
    have hi : ixN (xs.map V.int).length (j : Int) = some j := by
      unfold ixN
      rw [List.length_map, if_pos (by omega), if_pos (by omega)]
      simp
    refine g_setL wH hc hi fun H1 w1 => ?_
    walk_at "go"
    refine g_I b0 ?_
    refine k _ _ (Int.emod_nonneg _ (by omega)) (Int.emod_lt_of_pos _ b0) (RD.put w ⟨xs.set j (xs[j] / b), i, m, ⟨?_, ?_, ?_, d.i0, d.m0, d.m1⟩, ?_, ?_⟩ fun q o ha' hc' e => ?_)
    · intro z
      have := congrArg List.length z
      rw [List.length_set] at this
      exact d.ne (List.length_eq_zero_iff.mp this)
    · intro x hx
      rcases List.mem_or_eq_of_mem_set hx with h | h
      · exact d.nn x h
      · rw [h]
        exact Int.ediv_nonneg hp (by omega)
    · rw [List.length_set]
      exact d.len
    · exact w1.get (upd_oth ha hac)
    · rw [List.map_set]
      exact w1.get upd_same
    · exact w1.get (upd_oth e hc')
  · walk_at "go"
    refine g_ixL wH (SqL.of ha) (by rfl) ?_
    walk_at "go"
    refine g_setL (j' := 1) wH ha (by rfl) fun H1 w1 => ?_
    walk_at "go"
    refine g_ixL w1 (SqL.of upd_same) (by rfl) ?_
    walk_at "go"
    refine g_mulI (Or.inr (by decide)) ?_
    walk_at "go"
    refine g_I (show (0 : Int) < 2147483647 by decide) ?_
    walk_at "go"
    refine g_setL (j' := 2) w1 upd_same (by rfl) fun H2 w2 => ?_
    have a2 := w2.get upd_same
    have m20 := Int.emod_nonneg (m * 48271 + xs[j] + 12345) (show (2147483647 : Int) ≠ 0 by decide)
    have m21 := Int.emod_lt_of_pos (m * 48271 + xs[j] + 12345) (show (0 : Int) < 2147483647 by decide)
    generalize (m * 48271 + xs[j] + 12345) % 2147483647 = m2 at *
    walk_at "go"
    refine g_ixL w2 (SqL.of upd_same) (by rfl) ?_
    walk_at "go"
    refine g_ixL w2 (SqL.of upd_same) (by rfl) ?_
    refine g_mulI (Or.inl ⟨by omega, by omega⟩) ?_
    walk_at "go"
    refine g_I (show (0 : Int) < 2147483629 by decide) ?_
    walk_at "go"
    refine g_I (show CDiv _ 16 from ⟨by decide, by decide⟩) ?_
    walk_at "go"
    refine g_I b0 ?_
    refine k _ _ (Int.emod_nonneg _ (by omega)) (Int.emod_lt_of_pos _ b0) (RD.put w ⟨xs, i + 1, m2, ⟨d.ne, d.nn, d.len, by have := d.i0; omega, m20, m21⟩, a2, ?_⟩ fun q o ha' hc' e => ?_)
    · exact w2.get (upd_oth (upd_oth hc hac.symm) hac.symm)
    · exact w2.get (upd_oth (upd_oth e ha') ha')
end
end Sv


set_option Elab.async false
set_option linter.all false
set_option maxRecDepth 100000
set_option maxHeartbeats 4000000
namespace Sv
open PySem PySem.Spec PyProof.Rows L2 Sw
local macro_rules | `(tactic| walk_at "go1") => `(tactic| first
  | ((with_reducible refine' g_var ?hv ?_); (case hv => rfl))
  | with_reducible refine g_c ?_
  | with_reducible refine g_op ?_
  | with_reducible refine g_un ?_
  | with_reducible refine g_seq ?_
  | with_reducible refine g_next ?_
  | with_reducible refine g_asg ?_
  | with_reducible refine g_name ?_
  | with_reducible refine g_drop ?_
  | with_reducible refine g_sub ?_
  | with_reducible refine g_ret ?_
  | with_reducible refine g_retN ?_
  | with_reducible refine g_ifS ?_
  | with_reducible refine g_if ?_
  | with_reducible refine g_test ?_
  | with_reducible refine g_bl ?_
  | with_reducible refine g_cons ?_
  | with_reducible refine g_nil ?_
  | with_reducible refine g_and ?_
  | with_reducible refine g_or ?_
  | with_reducible refine g_not ?_
  | with_reducible refine g_callB ?_
  | with_reducible refine g_addI ?_
  | with_reducible refine g_I0 ?_
  | with_reducible refine g_calG ?_
  | with_reducible refine g_mkG ?_
  | with_reducible refine g_tup ?_
  | with_reducible refine g_lst ?_
  | with_reducible refine g_forL ?_
  | with_reducible refine g_forR ?_
  | with_reducible refine g_forR2 ?_
  | with_reducible refine g_forS ?_
  | with_reducible refine g_forE ?_
  | with_reducible refine g_lcL ?_
  | with_reducible refine g_lcR ?_
  | with_reducible refine g_lcS ?_
  | with_reducible refine g_lcE ?_
  | with_reducible refine g_orT ?_
  | with_reducible refine g_slc ?_
  | with_reducible refine g_noPart ?_
  | with_reducible refine g_part ?_
  | with_reducible refine g_bm ?_
  | with_reducible refine g_par ?_
  | with_reducible refine g_yes ?_
  | with_reducible refine g_tupG ?_
  | with_reducible refine g_gcons ?_
  | with_reducible refine g_gnil ?_
  | with_reducible refine g_chain ?_
  | with_reducible refine g_truB ?_
  | with_reducible refine g_truN ?_
  | with_reducible refine g_truI ?_
  | with_reducible refine g_m1 ?_
  | with_reducible refine g_fld ?_
  | with_reducible refine g_con ?_
  | with_reducible refine g_tru ?_
  | with_reducible refine g_U ?_
  | with_reducible refine g_xg ?_
  | with_reducible refine g_andT ?_
  | with_reducible refine g_exI ?_
  | with_reducible refine g_dnew ?_
  | with_reducible refine g_intB ?_
  | with_reducible refine g_meth ?_
  | with_reducible refine g_prop ?_
  | with_reducible refine g_exc1 ?_
  | with_reducible refine g_setF ?_
  | with_reducible refine g_star ?_
  | with_reducible refine g_strM ?_
  | with_reducible refine iteT ?_
  | with_reducible refine iteF ?_
  | with_reducible refine iteNT ?_
  | with_reducible refine iteNF ?_)
local macro_rules | `(tactic| walk_at "go") => `(tactic| repeat (walk_at "go1"))
local macro_rules | `(tactic| walk_at "sz") => `(tactic| (first | (rw [sizeLine_eq]; simp only [List.length_cons, List.length_nil, List.length_map, List.length_append, List.length_take]; omega) | (rw [sizeLine_eq]; omega)))
section
variable {P : Program} {wo : World} {A : Ad} {K : PySem.W.Frag} {mg : Str → Option Value} {base : Heap}

def spBegun (K : PySem.W.Frag) : Sp := fun vs H Q _ => ∃ (s : Addr) (ns : List Int), vs = [.ref s] ∧ SqL K H s (ns.map V.int) ∧ ∀ a c H', Wd H (RD a c) H' → Q (.ref a) H'
theorem sc__law_begun : FnScope (["_law_script", "_law_cell"] : List Str) (["_law_script"] : List Str) (defScope s__law_begun) := ⟨rfl, rfl, rfl, by decide +kernel, rfl, by decide +kernel, by decide +kernel⟩
theorem cut63 {xs : List V} : cutV xs none (some 63) = xs.take 63 := by
  unfold cutV
  have h1 : HT.sIx xs.length 0 none = 0 := rfl
  have h2 : HT.sIx xs.length xs.length (some 63) = min 63 xs.length := by
    unfold HT.sIx
    simp
    try omega
  rw [h1, h2]
  simp
  try (rw [List.take_eq_take_iff]; omega)
theorem ok_begun {f : Addr} {fd : FuncData} (F : Fun K "_law_begun" "_law_begun" s__law_begun f fd) (T : Txt K mg A) : FnOk P wo K mg base (L2.CX P wo) 1 f fd (["_law_script"] : List Str) (spBegun K) := by
  refine okT F sc__law_begun (fun vs H Q E h => ?_) (fun cdv Ar outer s H vs Q E hr tk po h => ?_)
  · obtain ⟨_, _, rfl, _⟩ := h
    rfl
  obtain ⟨l, ns, rfl, hl, k⟩ := h
  refine ⟨_, (pss_one (ps_ret (pe_lst (pa_cons (ke_orT K (pe_lc (own := [("_law_cell", 1)]) (g := (gName 1)) (tt := tYes) rfl sc__law_begun.nd (ki_list K (pe_slice (ka_sl K) (pv 0) po_none (po_some pe_int))) (blkOk_by (N := (["_law_script", "_law_cell"] : List Str)) (sc := defScope s__law_begun) (by decide +kernel)) (fun _ _ _ _ _ => (pg_name (i := 1) sc__law_begun.nd rfl (by first | exact Or.inl rfl | exact Or.inr rfl))) (fun _ _ _ _ _ => pts_nil) (fun _ _ _ _ _ => (pe_callB call_abs (by rfl) T.nb_abs (by decide +kernel) (pa_cons (pv 1) pa_nil)))) (pe_one (pe_lst (pa_cons pe_int pa_nil)))) (pa_cons pe_int (pa_cons pe_int pa_nil)))))), ?_⟩
  have w := Wd.r0 H
  walk_at "go"
  refine g_slL w hl fun p H1 np w1 => ?_
  rw [cut63, ← List.map_take] at w1
  refine ⟨p, rfl, ⟨_, SqL.of (w1.get upd_same)⟩, ?_⟩
  refine lc_it (itf_list (xs := (ns.take 63).map V.int)) w1 (fun H' e => SqL.of (e _ _ upd_same)) (by walk_at "sz") (fun i _ acc => ∃ ys : List Int, acc = ys.map V.int ∧ (∀ y ∈ ys, 0 ≤ y) ∧ ys.length = i) ⟨[], rfl, by simp, rfl⟩ ?_ ?_
  · rintro i x Gi acc D H2 H2' hi e nD ⟨ys, rfl, nn, hy⟩ hl2 w2 ⟨rfl, hx⟩
    obtain ⟨u, rfl⟩ : ∃ u, x = V.int u := by
      rw [List.getElem?_map] at hx
      cases e : (ns.take 63)[i]? with
      | none => rw [e] at hx; cases hx
      | some u => rw [e] at hx; exact ⟨u, (Option.some.inj hx).symm⟩
    walk_at "go"
    refine ⟨rfl, ?_⟩
    walk_at "go"
    refine ⟨_, rfl, ?_⟩
    refine lc_keep (Pv := fun i _ acc => ∃ ys : List Int, acc = ys.map V.int ∧ (∀ y ∈ ys, 0 ≤ y) ∧ ys.length = i) w2 e nD hl2 hi (by walk_at "sz") ⟨ys ++ [if u < 0 then -u else u], by simp, ?_, by simp [hy]⟩
    intro y hy'
    rcases List.mem_append.mp hy' with h | h
    · exact nn y h
    · rw [List.mem_singleton] at h
      rw [h]
      split <;> omega
  · rintro D Gn acc H2 e nD ⟨ys, rfl, nn, hy⟩ hl2 w2
    have hys : ys.length ≤ 63 := by
      rw [hy, List.length_map, List.length_take]
      omega
    refine ⟨_, .inl ⟨_, SqL.of (w2.get upd_same), rfl⟩, ?_⟩
    have fin : ∀ (c : Addr) (cs : List Int) (H3 : Hp), Same H H3 → H c = none → H3 c = some (.lst (cs.map V.int)) → cs ≠ [] → (∀ y ∈ cs, 0 ≤ y) → cs.length ≤ 63 → ∀ a, H3 a = none → Q (.ref a) (upd H3 a (.lst [.ref c, .int 0, .int 1])) := by
      intro c cs H3 e3 nc hc h1 h2 h3 a ha
      have hca : c ≠ a := ne_of_none hc ha
      refine k a c _ ⟨Same.trans e3 (Same.newG ha), fun b hb => ?_, ⟨cs, 0, 1, ⟨h1, h2, h3, by decide, by decide, by decide⟩, upd_same, by rw [upd_ne hca]; exact hc⟩⟩
      rcases List.mem_cons.mp hb with rfl | hb
      · exact Same.free e3 ha
      · rw [List.mem_singleton] at hb
        rw [hb]
        exact nc
    have e0 : Same H H2 := Same.trans (Same.trans (Same.newG np) e) (Same.trans (Same.newG nD) w2.sub)
    refine iteB (fun hb => ?_) (fun hb => ?_)
    · walk_at "go"
      refine ⟨by walk_at "sz", ?_⟩
      refine fin D ys _ e0 (Same.free (Same.newG np) (Same.free e nD)) (w2.get upd_same) (fun z => ?_) nn hys
      rw [z] at hb
      cases hb
    · walk_at "go"
      refine ⟨by walk_at "sz", fun q hq => ?_⟩
      walk_at "go"
      refine ⟨by walk_at "sz", ?_⟩
      exact fin q [7] _ (Same.trans e0 (Same.newG hq)) (Same.free e0 hq) upd_same (by simp) (by simp) (by simp)

/-! ### a choice out of a list, out of a text -/
def spPick (K : PySem.W.Frag) : Sp := fun vs H Q _ => ∃ G a c, Wd G (RD a c) H ∧
  ((∃ p xs, vs = [.ref a, .ref p] ∧ (SqL K G p xs ∨ SqT K G p xs) ∧ 0 < xs.length ∧ xs.length < 1000000 ∧ ∀ x H', x ∈ xs → Wd G (RD a c) H' → Q x H') ∨
  (∃ z : Str, vs = [.ref a, .str z] ∧ 0 < z.length ∧ z.length < 1000000 ∧ ∀ ch H', ch ∈ z.cps.toList → Wd G (RD a c) H' → Q (.str ⟨#[ch]⟩) H'))
theorem sc__law_pick : FnScope (["_law_state", "_law_some"] : List Str) (["_law_state", "_law_some"] : List Str) (defScope s__law_pick) := ⟨rfl, rfl, rfl, by decide +kernel, rfl, by decide +kernel, by decide +kernel⟩
theorem ok_pick {f : Addr} {fd : FuncData} (F : Fun K "_law_pick" "_law_pick" s__law_pick f fd) (T : Txt K mg A) (Gd : GFn P wo K mg base 1 "_law_draw" 2 [] (fun vs _ => spDraw vs)) : FnOk P wo K mg base (L2.CX P wo) 2 f fd (["_law_state", "_law_some"] : List Str) (spPick K) := by
  refine okT F sc__law_pick (fun vs H Q E h => ?_) (fun cdv Ar outer s H vs Q E hr tk po h => ?_)
  · obtain ⟨_, _, _, _, ⟨_, _, rfl, _⟩ | ⟨_, rfl, _⟩⟩ := h <;> rfl
  obtain ⟨G, a, c, w, h⟩ := h
  refine ⟨_, (pss_one (ps_ret (pe_ix (ka_ix K) (pv 1) (pe_callG Gd (hr.mono (by decide)) tk (pa_cons (pv 0) (pa_cons (pe_callB (ka_len K) (by rfl) T.nb_len (by decide +kernel) (pa_cons (pv 1) pa_nil)) pa_nil)) pk_nil) (fun _ _ => rfl)))), ?_⟩
  rcases h with ⟨p, xs, rfl, hp, h0, h1, k⟩ | ⟨z, rfl, h0, h1, k⟩
  · walk_at "go"
    have rd : ∀ {H1 : Hp} {Q1 : VK}, Wd G (RD a c) H1 → (∀ r H', 0 ≤ r → r < (xs.length : Int) → Wd G (RD a c) H' → Q1 (.int r) H') → spDraw [V.ref a, V.int xs.length] H1 Q1 E := fun w1 q => ⟨G, a, c, _, rfl, w1, by omega, by omega, q⟩
    have fin : ∀ r H', 0 ≤ r → r < (xs.length : Int) → Wd G (RD a c) H' → rIx K (.ref p) (.int r) H' Q := by
      intro r H' r0 r1 w'
      obtain ⟨j, rfl⟩ : ∃ j : Nat, r = j := ⟨r.toNat, by omega⟩
      have hj : j < xs.length := by omega
      rcases hp with hp | hp
      · exact g_ixL w' hp (atI_nat (List.getElem?_eq_getElem hj)) (k _ _ (List.getElem_mem hj) w')
      · exact g_ixT w' hp (atI_nat (List.getElem?_eq_getElem hj)) (k _ _ (List.getElem_mem hj) w')
    rcases id hp with hp' | hp'
    · refine g_lenL w hp' ?_
      walk_at "go"
      refine ⟨rfl, rfl, ?_⟩
      exact rd w fun r H' r0 r1 w' => fin r H' r0 r1 w'
    · refine g_lenT w hp' ?_
      walk_at "go"
      refine ⟨rfl, rfl, ?_⟩
      exact rd w fun r H' r0 r1 w' => fin r H' r0 r1 w'
  · walk_at "go"
    have hz : z.length ≤ sizeLine := by rw [sizeLine_eq]; omega
    refine g_lenS hz ?_
    walk_at "go"
    refine ⟨rfl, rfl, ?_⟩
    refine ⟨G, a, c, _, rfl, w, by omega, by omega, fun r H' r0 r1 w' => ?_⟩
    obtain ⟨j, rfl⟩ : ∃ j : Nat, r = j := ⟨r.toNat, by omega⟩
    have hj : j < z.cps.toList.length := by
      have : z.cps.toList.length = z.length := by simp [Str.length]
      omega
    exact g_ixS hz (atI_nat (List.getElem?_eq_getElem hj)) (k _ _ (List.getElem_mem hj) w')
end
end Sv


set_option Elab.async false
set_option linter.all false
set_option maxRecDepth 100000
set_option maxHeartbeats 4000000
namespace Sv
open PySem PySem.Spec PyProof.Rows L2 Sw
local macro_rules | `(tactic| walk_at "go1") => `(tactic| first
  | ((with_reducible refine' g_var ?hv ?_); (case hv => rfl))
  | with_reducible refine g_c ?_
  | with_reducible refine g_op ?_
  | with_reducible refine g_un ?_
  | with_reducible refine g_seq ?_
  | with_reducible refine g_next ?_
  | with_reducible refine g_asg ?_
  | with_reducible refine g_name ?_
  | with_reducible refine g_drop ?_
  | with_reducible refine g_sub ?_
  | with_reducible refine g_ret ?_
  | with_reducible refine g_retN ?_
  | with_reducible refine g_ifS ?_
  | with_reducible refine g_if ?_
  | with_reducible refine g_test ?_
  | with_reducible refine g_bl ?_
  | with_reducible refine g_cons ?_
  | with_reducible refine g_nil ?_
  | with_reducible refine g_and ?_
  | with_reducible refine g_or ?_
  | with_reducible refine g_not ?_
  | with_reducible refine g_callB ?_
  | with_reducible refine g_addI ?_
  | with_reducible refine g_I0 ?_
  | with_reducible refine g_calG ?_
  | with_reducible refine g_mkG ?_
  | with_reducible refine g_tup ?_
  | with_reducible refine g_lst ?_
  | with_reducible refine g_forL ?_
  | with_reducible refine g_forR ?_
  | with_reducible refine g_forR2 ?_
  | with_reducible refine g_forS ?_
  | with_reducible refine g_forE ?_
  | with_reducible refine g_lcL ?_
  | with_reducible refine g_lcR ?_
  | with_reducible refine g_lcS ?_
  | with_reducible refine g_lcE ?_
  | with_reducible refine g_orT ?_
  | with_reducible refine g_slc ?_
  | with_reducible refine g_noPart ?_
  | with_reducible refine g_part ?_
  | with_reducible refine g_bm ?_
  | with_reducible refine g_par ?_
  | with_reducible refine g_yes ?_
  | with_reducible refine g_tupG ?_
  | with_reducible refine g_gcons ?_
  | with_reducible refine g_gnil ?_
  | with_reducible refine g_chain ?_
  | with_reducible refine g_truB ?_
  | with_reducible refine g_truN ?_
  | with_reducible refine g_truI ?_
  | with_reducible refine g_m1 ?_
  | with_reducible refine g_fld ?_
  | with_reducible refine g_con ?_
  | with_reducible refine g_tru ?_
  | with_reducible refine g_U ?_
  | with_reducible refine g_xg ?_
  | with_reducible refine g_andT ?_
  | with_reducible refine g_exI ?_
  | with_reducible refine g_dnew ?_
  | with_reducible refine g_intB ?_
  | with_reducible refine g_meth ?_
  | with_reducible refine g_prop ?_
  | with_reducible refine g_exc1 ?_
  | with_reducible refine g_setF ?_
  | with_reducible refine g_star ?_
  | with_reducible refine g_strM ?_
  | with_reducible refine iteT ?_
  | with_reducible refine iteF ?_
  | with_reducible refine iteNT ?_
  | with_reducible refine iteNF ?_)
local macro_rules | `(tactic| walk_at "go") => `(tactic| repeat (walk_at "go1"))
local macro_rules | `(tactic| walk_at "sz") => `(tactic| (first | (rw [sizeLine_eq]; simp only [List.length_cons, List.length_nil, List.length_map, List.length_append, List.length_take]; omega) | (rw [sizeLine_eq]; omega)))
section
variable {P : Program} {wo : World} {A : Ad} {K : PySem.W.Frag} {mg : Str → Option Value} {base : Heap}

def resv : List Str := ["key", "limit", "order", "self", "table"]
def letters : Str := "abcdefghijklmnopqrstuvwxyz"
def lowS (s : Str) : Bool := s.cps.toList.all fun c => decide (c ∈ letters.cps.toList)
def isNm (s : Str) : Bool := decide (1 ≤ s.length) && decide (s.length ≤ 8) && !inV (.str s) (resv.map V.str) && lowS s
/-- no text: isinstance(v, str) says False -/
def NotStr (K : PySem.W.Frag) (H : Hp) (v : V) : Prop := ∃ t, TyX K H v t ∧ PySem.W.kitOne K t (.type "str") = some false
theorem kit_str : PySem.W.kitOne K (.type "str") (.type "str") = some true := kit_ty (by decide +kernel)
def spIsName (K : PySem.W.Frag) : Sp := fun vs H Q _ => ∃ v, vs = [v] ∧ ((∃ s : Str, v = .str s ∧ s.length ≤ 1000000 ∧ ∀ H', Same H H' → Q (.bl (isNm s)) H') ∨ (NotStr K H v ∧ ∀ H', Same H H' → Q (.bl false) H'))
theorem sc_is_name : FnScope (["value", "letter"] : List Str) (["value"] : List Str) (defScope s_is_name) := ⟨rfl, rfl, rfl, by decide +kernel, rfl, by decide +kernel, by decide +kernel⟩
theorem ok_is_name {f : Addr} {fd : FuncData} (F : Fun K "is_name" "is_name" s_is_name f fd) (T : Txt K mg A) : FnOk P wo K mg base (L2.CX P wo) 1 f fd (["value"] : List Str) (spIsName K) := by
  refine okT F sc_is_name (fun vs H Q E h => ?_) (fun cdv Ar outer s H vs Q E hr tk po h => ?_)
  · obtain ⟨_, rfl, _⟩ := h
    rfl
  obtain ⟨v, rfl, h⟩ := h
  refine ⟨_, (pss_cons (ps_if (PW.pt (pw_or (pt_not (kt_truth K (pe_callB (ka_isi K) (by rfl) T.nb_isinstance (by decide +kernel) (pa_cons (pv 0) (pa_cons (pe_bltn (v := .ty "str") (u := .type "str") (by rfl) T.nb_str (by decide +kernel) rfl) pa_nil))) (by intro _; rfl))) (pw_or (pt_not (pt_chain op_le op_le pe_int (pe_callB (ka_len K) (by rfl) T.nb_len (by decide +kernel) (pa_cons (pv 0) pa_nil)) (pe_globE (by rfl) T.g_LONGEST_NAME))) (pw_or1 (pt_cmpR (ka_in K) (pv 0) (pe_globE (by rfl) T.g_RESERVED) (by first | exact nomark _ | rfl)))))) (pss_one (ps_ret pe_bl)) pss_nil)
      (pss_one (ps_ret (pe_callB (ka_all K rfl) (by rfl) T.nb_all (by decide +kernel) (pa_cons (pe_lc (own := [("letter", 1)]) (g := (gName 1)) (tt := tYes) rfl sc_is_name.nd (pi_str (pv 0)) (blkOk_by (N := (["value", "letter"] : List Str)) (sc := defScope s_is_name) (by decide +kernel)) (fun _ _ _ _ _ => (pg_name (i := 1) sc_is_name.nd rfl (by first | exact Or.inl rfl | exact Or.inr rfl))) (fun _ _ _ _ _ => pts_nil) (fun _ _ _ _ _ => (pe_cmpR (ka_in K) (pv 1) (pe_globE (by rfl) T.g_LETTERS) (by first | exact nomark _ | rfl)))) pa_nil))))), ?_⟩
  have w := Wd.r0 H
  rcases h with ⟨z, rfl, hz, k⟩ | ⟨⟨t, ht, hk⟩, k⟩
  · have hz' : z.length ≤ sizeLine := by rw [sizeLine_eq]; omega
    walk_at "go"
    refine g_isi (.ty _) (.base (.str z)) kit_str ?_
    walk_at "go"
    refine g_lenS hz' ?_
    walk_at "go"
    have res : isNm z = (decide (1 ≤ z.length) && decide (z.length ≤ 8) && !inV (.str z) (resv.map V.str) && lowS z) := rfl
    refine iteD (fun h1 => ?_) (fun h1 => ?_)
    · walk_at "go"
      refine iteN (fun h2 => ?_) (fun h2 => ?_)
      · walk_at "go"
        have e : isNm z = false := by
          rw [res, decide_eq_false (show ¬ z.length ≤ 8 by omega), Bool.and_false]
          rfl
        rw [← e]
        exact k H (Same.refl H)
      walk_at "go"
      refine g_inT w (T.t_RESERVED H) rfl rfl ?_
      walk_at "go"
      refine iteB (fun h3 => ?_) (fun h3 => ?_)
      · walk_at "go"
        have e : isNm z = false := by
          rw [res, show inV (.str z) (resv.map V.str) = true from h3, Bool.not_true, Bool.and_false]
          rfl
        rw [← e]
        exact k H (Same.refl H)
      walk_at "go"
      have e : isNm z = lowS z := by
        rw [res, decide_eq_true (show 1 ≤ z.length by omega), decide_eq_true (show z.length ≤ 8 by omega), show inV (.str z) (resv.map V.str) = false from h3]
        simp
      rw [e] at k
      refine ⟨z, rfl, ?_⟩
      refine lc_it itf_str w (fun _ _ => True.intro) (by rw [sizeLine_eq]; have : z.cps.size = z.length := rfl; omega) (fun i _ acc => acc = ((z.cps.toList.take i).map fun c => decide (c ∈ letters.cps.toList)).map V.bl) rfl ?_ ?_
      · rintro i x Gi acc D H2 H2' hi e nD ha hl2 w2 ⟨rfl, c, hc, rfl⟩
        walk_at "go"
        refine ⟨rfl, ?_⟩
        walk_at "go"
        refine g_inSg ?_
        refine lc_keep (Pv := fun i _ acc => acc = ((z.cps.toList.take i).map fun c => decide (c ∈ letters.cps.toList)).map V.bl) w2 e nD hl2 hi (by rw [sizeLine_eq]; have : z.cps.size = z.length := rfl; omega) ?_
        have hc' : z.cps.toList[i]? = some c := by simpa using hc
        rw [ha, List.take_add_one, hc']
        simp
        rfl
      · rintro D Gn acc H2 e nD rfl hl2 w2
        walk_at "go"
        have hlen : z.cps.size = z.cps.toList.length := by simp
        rw [hlen, List.take_length] at w2
        refine g_all w2 (SqL.of upd_same) ?_
        rw [List.all_map]
        exact k _ (Same.trans (Same.trans e (Same.newG nD)) w2.sub)
    · walk_at "go"
      have e : isNm z = false := by
        rw [res, decide_eq_false (show ¬ 1 ≤ z.length by omega)]
        rfl
      rw [← e]
      exact k H (Same.refl H)
  · walk_at "go"
    refine g_isi (.ty _) ht hk ?_
    walk_at "go"
    exact k H (Same.refl H)
end
end Sv


set_option Elab.async false
set_option linter.all false
set_option maxRecDepth 100000
set_option maxHeartbeats 4000000
namespace Sv
open PySem PySem.Spec PyProof.Rows L2 Sw
local macro_rules | `(tactic| walk_at "go1") => `(tactic| first
  | ((with_reducible refine' g_var ?hv ?_); (case hv => rfl))
  | with_reducible refine g_c ?_
  | with_reducible refine g_op ?_
  | with_reducible refine g_un ?_
  | with_reducible refine g_seq ?_
  | with_reducible refine g_next ?_
  | with_reducible refine g_asg ?_
  | with_reducible refine g_name ?_
  | with_reducible refine g_drop ?_
  | with_reducible refine g_sub ?_
  | with_reducible refine g_ret ?_
  | with_reducible refine g_retN ?_
  | with_reducible refine g_ifS ?_
  | with_reducible refine g_if ?_
  | with_reducible refine g_test ?_
  | with_reducible refine g_bl ?_
  | with_reducible refine g_cons ?_
  | with_reducible refine g_nil ?_
  | with_reducible refine g_and ?_
  | with_reducible refine g_or ?_
  | with_reducible refine g_not ?_
  | with_reducible refine g_callB ?_
  | with_reducible refine g_addI ?_
  | with_reducible refine g_I0 ?_
  | with_reducible refine g_calG ?_
  | with_reducible refine g_mkG ?_
  | with_reducible refine g_tup ?_
  | with_reducible refine g_lst ?_
  | with_reducible refine g_forL ?_
  | with_reducible refine g_forR ?_
  | with_reducible refine g_forR2 ?_
  | with_reducible refine g_forS ?_
  | with_reducible refine g_forE ?_
  | with_reducible refine g_lcL ?_
  | with_reducible refine g_lcR ?_
  | with_reducible refine g_lcS ?_
  | with_reducible refine g_lcE ?_
  | with_reducible refine g_orT ?_
  | with_reducible refine g_slc ?_
  | with_reducible refine g_noPart ?_
  | with_reducible refine g_part ?_
  | with_reducible refine g_bm ?_
  | with_reducible refine g_par ?_
  | with_reducible refine g_yes ?_
  | with_reducible refine g_tupG ?_
  | with_reducible refine g_gcons ?_
  | with_reducible refine g_gnil ?_
  | with_reducible refine g_chain ?_
  | with_reducible refine g_truB ?_
  | with_reducible refine g_truN ?_
  | with_reducible refine g_truI ?_
  | with_reducible refine g_m1 ?_
  | with_reducible refine g_fld ?_
  | with_reducible refine g_con ?_
  | with_reducible refine g_tru ?_
  | with_reducible refine g_U ?_
  | with_reducible refine g_xg ?_
  | with_reducible refine g_andT ?_
  | with_reducible refine g_exI ?_
  | with_reducible refine g_dnew ?_
  | with_reducible refine g_intB ?_
  | with_reducible refine g_meth ?_
  | with_reducible refine g_prop ?_
  | with_reducible refine g_exc1 ?_
  | with_reducible refine g_setF ?_
  | with_reducible refine g_star ?_
  | with_reducible refine g_strM ?_
  | with_reducible refine iteT ?_
  | with_reducible refine iteF ?_
  | with_reducible refine iteNT ?_
  | with_reducible refine iteNF ?_)
local macro_rules | `(tactic| walk_at "go") => `(tactic| repeat (walk_at "go1"))
local macro_rules | `(tactic| walk_at "sz") => `(tactic| (first | (rw [sizeLine_eq]; simp only [List.length_cons, List.length_nil, List.length_map, List.length_append, List.length_take]; omega) | (rw [sizeLine_eq]; omega)))
/-! ### columns -/
inductive Kd where
  | int | text | ref
  deriving DecidableEq
def kcls (A : Ad) : Kd → Addr
  | .int => A.IntColumn
  | .text => A.TextColumn
  | .ref => A.RefColumn
def kstr : Kd → Str
  | .int => "int"
  | .text => "text"
  | .ref => "ref"
structure Col where
  k : Kd
  name : Str
  opt : Bool
  target : Str
  rule : Str
def optW (b : Bool) : List Str := if b = true then ["optional"] else []
def Col.words0 (c : Col) : List Str := [kstr c.k, c.name] ++ optW c.opt
def Col.words (c : Col) : List Str := if c.k = .ref then [kstr c.k, c.name, c.target] ++ optW c.opt ++ [c.rule] else c.words0
def Col.text (c : Col) : Str := Txt.join " " c.words
def Col.fs0 (c : Col) : List (Str × V) := [("name", .str c.name), ("optional", .bl c.opt)]
def Col.fs (c : Col) : List (Str × V) := if c.k = .ref then c.fs0 ++ ([("target", .str c.target), ("rule", .str c.rule)] : List (Str × V)) else c.fs0
theorem lk_ne {f g : Str} {x : V} {r : List (Str × V)} (h : (f == g) = false) : List.lookup f ((g, x) :: r) = List.lookup f r := by
  rw [List.lookup_cons, h]
theorem lk_eq {f : Str} {x : V} {r : List (Str × V)} : List.lookup f ((f, x) :: r) = some x := by
  rw [List.lookup_cons, beq_self_eq_true]
theorem Col.l_kind (c : Col) : c.fs.lookup ("KIND" : Str) = none := by
  unfold Col.fs Col.fs0
  split
  · rw [List.cons_append, List.cons_append, List.nil_append, lk_ne (by decide +kernel), lk_ne (by decide +kernel), lk_ne (by decide +kernel), lk_ne (by decide +kernel)]; rfl
  · rw [lk_ne (by decide +kernel), lk_ne (by decide +kernel)]; rfl
theorem Col.l_words (c : Col) : c.fs.lookup ("words" : Str) = none := by
  unfold Col.fs Col.fs0
  split
  · rw [List.cons_append, List.cons_append, List.nil_append, lk_ne (by decide +kernel), lk_ne (by decide +kernel), lk_ne (by decide +kernel), lk_ne (by decide +kernel)]; rfl
  · rw [lk_ne (by decide +kernel), lk_ne (by decide +kernel)]; rfl
theorem Col.l_name (c : Col) : c.fs.lookup ("name" : Str) = some (.str c.name) := by
  unfold Col.fs Col.fs0
  split <;> exact lk_eq
theorem Col.l_opt (c : Col) : c.fs.lookup ("optional" : Str) = some (.bl c.opt) := by
  unfold Col.fs Col.fs0
  split
  · rw [List.cons_append, List.cons_append, List.nil_append, lk_ne (by decide +kernel), lk_eq]
  · rw [lk_ne (by decide +kernel), lk_eq]
theorem Col.l_target (c : Col) (h : c.k = .ref) : c.fs.lookup ("target" : Str) = some (.str c.target) := by
  unfold Col.fs Col.fs0
  rw [if_pos h, List.cons_append, List.cons_append, List.nil_append, lk_ne (by decide +kernel), lk_ne (by decide +kernel), lk_eq]
theorem Col.l_rule (c : Col) (h : c.k = .ref) : c.fs.lookup ("rule" : Str) = some (.str c.rule) := by
  unfold Col.fs Col.fs0
  rw [if_pos h, List.cons_append, List.cons_append, List.nil_append, lk_ne (by decide +kernel), lk_ne (by decide +kernel), lk_ne (by decide +kernel), lk_eq]
def rules : List Str := ["restrict", "clear", "cascade"]
def ruleOk (r : Str) (o : Bool) : Bool := inV (.str r) (rules.map V.str) && !(decide (r = "clear") && !o)
def Col.ok (c : Col) : Prop := isNm c.name = true ∧ (c.k = .ref → isNm c.target = true ∧ ruleOk c.rule c.opt = true)
def ColAt (A : Ad) (G : Hp) (a : Addr) (c : Col) : Prop := ∃ dx, G a = some (.ins (kcls A c.k) dx c.fs)
theorem putF_ne {f g : Str} {v x : V} {r : List (Str × V)} (h : decide (g = f) = false) : putF f v ((g, x) :: r) = (g, x) :: putF f v r := by
  show (if g = f then (g, v) :: r else (g, x) :: putF f v r) = _
  rw [if_neg (of_decide_eq_false h)]
theorem ColAt.same {A : Ad} {G G' : Hp} {a : Addr} {c : Col} (h : ColAt A G a c) (e : Same G G') : ColAt A G' a c := ⟨_, e _ _ h.choose_spec⟩
/-- what the text says of the three classes -/
structure ColF (K : PySem.W.Frag) (A : Ad) : Prop where
  cls : ∀ k, Cls K (kcls A k)
  na : ∀ k, NoAttr K (kcls A k) "name"
  no : ∀ k, NoAttr K (kcls A k) "optional"
  nt : NoAttr K A.RefColumn "target"
  nr : NoAttr K A.RefColumn "rule"
  kd : ∀ k, ∃ u, Con K (kcls A k) "KIND" (.str (kstr k)) u
/-- a name or no text -/
def Nmb (K : PySem.W.Frag) (H : Hp) (v : V) (b : Bool) : Prop := (∃ s : Str, v = .str s ∧ s.length ≤ 1000000 ∧ b = isNm s) ∨ (NotStr K H v ∧ b = false)
theorem Nmb.same {K : PySem.W.Frag} {G H : Hp} {v : V} {b : Bool} (h : Nmb K G v b) (e : Same G H) : Nmb K H v b := by
  rcases h with ⟨s, h⟩ | ⟨⟨t, h1, h2⟩, h3⟩
  · exact .inl ⟨s, h⟩
  · exact .inr ⟨⟨t, tyX_same e h1, h2⟩, h3⟩
theorem Nmb.ins {K : PySem.W.Frag} {G : Hp} {v : V} {b : Bool} {x C dx : Addr} {fs fs' : List (Str × V)} (h : Nmb K G v b) (hx : G x = some (.ins C dx fs)) : Nmb K (upd G x (.ins C dx fs')) v b := by
  rcases h with ⟨s, h⟩ | ⟨⟨t, h1, h2⟩, h3⟩
  · exact .inl ⟨s, h⟩
  · exact .inr ⟨⟨t, tyX_ins hx h1, h2⟩, h3⟩
theorem Nmb.is {K : PySem.W.Frag} {H : Hp} {v : V} {b : Bool} {Q : VK} {E : XK} (h : Nmb K H v b) (k : ∀ H', Same H H' → Q (.bl b) H') : spIsName K [v] H Q E := by
  rcases h with ⟨s, rfl, hs, rfl⟩ | ⟨h, rfl⟩
  · exact ⟨_, rfl, .inl ⟨s, rfl, hs, k⟩⟩
  · exact ⟨_, rfl, .inr ⟨h, k⟩⟩
section
variable {P : Program} {wo : World} {A : Ad} {K : PySem.W.Frag} {mg : Str → Option Value} {base : Heap}

/-- Column.__init__: a name, or InvalidName -/
def spColInit (K : PySem.W.Frag) (A : Ad) : Sp := fun vs H Q E => ∃ G R x C dx v o b, vs = [.ref x, v, .bl o] ∧ Wd G R H ∧ G x = some (.ins C dx []) ∧ Cls K C ∧ NoAttr K C "name" ∧ NoAttr K C "optional" ∧ Nmb K G v b ∧
  (b = true → ∀ H', Wd (upd G x (.ins C dx [("name", v), ("optional", .bl o)])) R H' → Q .non H') ∧
  (b = false → ∀ d H', G d = none → Wd (upd G d (.xd [("name", v)])) R H' → E (.ref A.InvalidName) (some d) H')
theorem sc_Column___init__ : FnScope (["self", "name", "optional"] : List Str) (["self", "name", "optional"] : List Str) (defScope s_Column___init__) := ⟨rfl, rfl, rfl, by decide +kernel, rfl, by decide +kernel, by decide +kernel⟩
theorem ok_col_init {f : Addr} {fd : FuncData} (F : FunD K "__init__" "Column.__init__" (defArgs s_Column___init__) (defBody s_Column___init__) (defScope s_Column___init__) [] [("optional", .bl false)] f fd) (T : Txt K mg A)
    (Gn : GFn P wo K mg base 1 "is_name" 1 [] (fun vs _ => spIsName K vs)) (XN : Exc1 P wo K mg base "InvalidName" A.InvalidName "name") : FnOk P wo K mg base (L2.CX P wo) 3 f fd (["self", "name", "optional"] : List Str) (spColInit K A) := by
  refine okTD F sc_Column___init__ (fun vs H Q E h => ?_) (fun cdv Ar outer s H vs Q E hr tk po h => ?_)
  · obtain ⟨_, _, _, _, _, _, _, _, rfl, _⟩ := h
    rfl
  obtain ⟨G, R, x, C, dx, v, o, b, rfl, w, hx, hC, h1, h2, hn, k1, k2⟩ := h
  refine ⟨_, (pss_cons (ps_if (pt_not (kt_truth K (pe_callG Gn (hr.mono (by decide)) tk (pa_cons (pv 1) pa_nil) pk_nil) (by intro _; rfl))) (pss_one (ps_raise rfl tk (pmk_exc1 XN (hr.mono (by decide)) (pa_cons (pv 1) pa_nil)))) pss_nil)
      (pss_cons (ps_fld (pv 0) (pv 1) rfl)
      (pss_one (ps_fld (pv 0) (pv 2) rfl)))), ?_⟩
  walk_at "go"
  refine ⟨rfl, rfl, (hn.same w.sub).is fun H1 e1 => ?_⟩
  have w1 := w.same e1
  walk_at "go"
  refine iteBN (fun e => ?_) (fun e => ?_)
  · subst e
    walk_at "go"
    exact ⟨v, rfl, fun d hd => k2 rfl d _ (w1.free hd) (w1.new hd)⟩
  · subst e
    walk_at "go"
    refine g_sf w1 hx hC h1 (show 0 < 1000 by decide) fun H2 w2 => ?_
    rw [putF_nil] at w2
    walk_at "go"
    refine g_sf w2 upd_same hC h2 (show 1 < 1000 by decide) fun H3 w3 => ?_
    rw [upd_upd, putF_ne (by decide +kernel), putF_nil] at w3
    exact k1 rfl _ w3

def spWords0 (A : Ad) : Sp := fun vs H Q _ => ∃ G R x c, vs = [.ref x] ∧ Wd G R H ∧ ColAt A G x c ∧ ∀ p H', G p = none → Wd (upd G p (.lst (c.words0.map V.str))) R H' → Q (.ref p) H'
theorem sc_Column_words : FnScope (["self"] : List Str) (["self"] : List Str) (defScope s_Column_words) := ⟨rfl, rfl, rfl, by decide +kernel, rfl, by decide +kernel, by decide +kernel⟩
theorem ok_words0 {f : Addr} {fd : FuncData} (F : Fun K "words" "Column.words" s_Column_words f fd) (T : Txt K mg A) (CF : ColF K A) : FnOk P wo K mg base (L2.CX P wo) 1 f fd (["self"] : List Str) (spWords0 A) := by
  refine okT F sc_Column_words (fun vs H Q E h => ?_) (fun cdv Ar outer s H vs Q E hr tk po h => ?_)
  · obtain ⟨_, _, _, _, rfl, _⟩ := h
    rfl
  obtain ⟨G, R, x, c, rfl, w, ⟨dx, hx⟩, k⟩ := h
  obtain ⟨u, hu⟩ := CF.kd c.k
  have l0 := c.l_kind
  have l1 := c.l_name
  have l2 := c.l_opt
  refine ⟨_, (pss_one (ps_ret (pe_op (ka_add K) (pe_lst (pa_cons (ke_con K (pv 0) rfl) (pa_cons (ke_fld K (pv 0) rfl) pa_nil))) (pe_ifExp (kt_truth K (ke_fld K (pv 0) rfl) (by intro _; rfl)) (pe_lst (pa_cons pe_str pa_nil)) (pe_lst pa_nil))))), ?_⟩
  walk_at "go"
  refine g_gc w hx (CF.cls _) hu l0 ?_
  walk_at "go"
  refine g_gf w hx (CF.cls _) (CF.na _) l1 ?_
  walk_at "go"
  refine g_newL w (by walk_at "sz") fun p1 H1 n1 w1 => ?_
  walk_at "go"
  refine g_gf w1 (upd_old hx n1) (CF.cls _) (CF.no _) l2 ?_
  walk_at "go"
  refine iteB (fun e => ?_) (fun e => ?_)
  · walk_at "go"
    refine g_newL w1 (by walk_at "sz") fun p2 H2 n2 w2 => ?_
    refine g_addL w2 (upd_old upd_same n2) upd_same (by walk_at "sz") fun p3 H3 n3 w3 => ?_
    refine k p3 H3 (upd_nonne (upd_nonne n3).1).1 ?_
    have ew : c.words0.map V.str = [V.str (kstr c.k), V.str c.name] ++ [V.str "optional"] := by
      unfold Col.words0 optW
      rw [e]
      rfl
    rw [ew]
    exact w3.drop (Same.upd2 (Same.trans (Same.newG n1) (Same.newG n2)))
  · walk_at "go"
    refine g_newL w1 (by walk_at "sz") fun p2 H2 n2 w2 => ?_
    refine g_addL w2 (upd_old upd_same n2) upd_same (by walk_at "sz") fun p3 H3 n3 w3 => ?_
    refine k p3 H3 (upd_nonne (upd_nonne n3).1).1 ?_
    have ew : c.words0.map V.str = [V.str (kstr c.k), V.str c.name] ++ [] := by
      unfold Col.words0 optW
      rw [e]
      rfl
    rw [ew]
    exact w3.drop (Same.upd2 (Same.trans (Same.newG n1) (Same.newG n2)))
end
end Sv


set_option Elab.async false
set_option linter.all false
set_option maxRecDepth 100000
set_option maxHeartbeats 4000000
namespace Sv
open PySem PySem.Spec PyProof.Rows L2 Sw
local macro_rules | `(tactic| walk_at "go1") => `(tactic| first
  | ((with_reducible refine' g_var ?hv ?_); (case hv => rfl))
  | with_reducible refine g_c ?_
  | with_reducible refine g_op ?_
  | with_reducible refine g_un ?_
  | with_reducible refine g_seq ?_
  | with_reducible refine g_next ?_
  | with_reducible refine g_asg ?_
  | with_reducible refine g_name ?_
  | with_reducible refine g_drop ?_
  | with_reducible refine g_sub ?_
  | with_reducible refine g_ret ?_
  | with_reducible refine g_retN ?_
  | with_reducible refine g_ifS ?_
  | with_reducible refine g_if ?_
  | with_reducible refine g_test ?_
  | with_reducible refine g_bl ?_
  | with_reducible refine g_cons ?_
  | with_reducible refine g_nil ?_
  | with_reducible refine g_and ?_
  | with_reducible refine g_or ?_
  | with_reducible refine g_not ?_
  | with_reducible refine g_callB ?_
  | with_reducible refine g_addI ?_
  | with_reducible refine g_I0 ?_
  | with_reducible refine g_calG ?_
  | with_reducible refine g_mkG ?_
  | with_reducible refine g_tup ?_
  | with_reducible refine g_lst ?_
  | with_reducible refine g_forL ?_
  | with_reducible refine g_forR ?_
  | with_reducible refine g_forR2 ?_
  | with_reducible refine g_forS ?_
  | with_reducible refine g_forE ?_
  | with_reducible refine g_lcL ?_
  | with_reducible refine g_lcR ?_
  | with_reducible refine g_lcS ?_
  | with_reducible refine g_lcE ?_
  | with_reducible refine g_orT ?_
  | with_reducible refine g_slc ?_
  | with_reducible refine g_noPart ?_
  | with_reducible refine g_part ?_
  | with_reducible refine g_bm ?_
  | with_reducible refine g_par ?_
  | with_reducible refine g_yes ?_
  | with_reducible refine g_tupG ?_
  | with_reducible refine g_gcons ?_
  | with_reducible refine g_gnil ?_
  | with_reducible refine g_chain ?_
  | with_reducible refine g_truB ?_
  | with_reducible refine g_truN ?_
  | with_reducible refine g_truI ?_
  | with_reducible refine g_m1 ?_
  | with_reducible refine g_fld ?_
  | with_reducible refine g_con ?_
  | with_reducible refine g_tru ?_
  | with_reducible refine g_U ?_
  | with_reducible refine g_xg ?_
  | with_reducible refine g_andT ?_
  | with_reducible refine g_exI ?_
  | with_reducible refine g_dnew ?_
  | with_reducible refine g_intB ?_
  | with_reducible refine g_meth ?_
  | with_reducible refine g_prop ?_
  | with_reducible refine g_exc1 ?_
  | with_reducible refine g_setF ?_
  | with_reducible refine g_star ?_
  | with_reducible refine g_strM ?_
  | with_reducible refine iteT ?_
  | with_reducible refine iteF ?_
  | with_reducible refine iteNT ?_
  | with_reducible refine iteNF ?_)
local macro_rules | `(tactic| walk_at "go") => `(tactic| repeat (walk_at "go1"))
local macro_rules | `(tactic| walk_at "sz") => `(tactic| (first | (rw [sizeLine_eq]; simp only [List.length_cons, List.length_nil, List.length_map, List.length_append, List.length_take]; omega) | (rw [sizeLine_eq]; omega)))
section
variable {P : Program} {wo : World} {A : Ad} {K : PySem.W.Frag} {mg : Str → Option Value} {base : Heap}

/-- is the rule accepted, whatever value it is -/
def Rmb (K : PySem.W.Frag) (H : Hp) (v : V) (o : Bool) (b : Bool) : Prop := (∃ s : Str, v = .str s ∧ b = ruleOk s o) ∨ (NotStr K H v ∧ b = false)
theorem Rmb.same {G H : Hp} {v : V} {o b : Bool} (h : Rmb K G v o b) (e : Same G H) : Rmb K H v o b := by
  rcases h with ⟨s, h⟩ | ⟨⟨t, h1, h2⟩, h3⟩
  · exact .inl ⟨s, h⟩
  · exact .inr ⟨⟨t, tyX_same e h1, h2⟩, h3⟩
theorem Rmb.ins {G : Hp} {v : V} {o b : Bool} {x C dx : Addr} {fs fs' : List (Str × V)} (h : Rmb K G v o b) (hx : G x = some (.ins C dx fs)) : Rmb K (upd G x (.ins C dx fs')) v o b := by
  rcases h with ⟨s, h⟩ | ⟨⟨t, h1, h2⟩, h3⟩
  · exact .inl ⟨s, h⟩
  · exact .inr ⟨⟨t, tyX_ins hx h1, h2⟩, h3⟩
/-- RefColumn.__init__ -/
def spRefInit (K : PySem.W.Frag) (A : Ad) : Sp := fun vs H Q E => ∃ G R x dx v t o r b1 b2 b3, vs = [.ref x, v, t, .bl o, r] ∧ Wd G R H ∧ G x = some (.ins A.RefColumn dx []) ∧ Nmb K G v b1 ∧ Nmb K G t b2 ∧ Rmb K G r o b3 ∧
  (b1 = true → b2 = true → b3 = true → ∀ H', Wd (upd G x (.ins A.RefColumn dx [("name", v), ("optional", .bl o), ("target", t), ("rule", r)])) R H' → Q .non H') ∧
  (b1 = false → ∀ d H', G d = none → Wd (upd G d (.xd [("name", v)])) R H' → E (.ref A.InvalidName) (some d) H') ∧
  (b1 = true → b2 = false → ∀ d H', G d = none → Wd (upd (upd G x (.ins A.RefColumn dx [("name", v), ("optional", .bl o)])) d (.xd [("name", t)])) R H' → E (.ref A.InvalidName) (some d) H') ∧
  (b1 = true → b2 = true → b3 = false → ∀ d H', G d = none → Wd (upd (upd G x (.ins A.RefColumn dx [("name", v), ("optional", .bl o)])) d (.xd [("name", v)])) R H' → E (.ref A.InvalidColumn) (some d) H')
theorem sc_RefColumn___init__ : Sw.SScope (["self", "name", "target", "optional", "rule"] : List Str) (["self", "name", "target", "optional", "rule"] : List Str) (defScope s_RefColumn___init__) := ⟨rfl, rfl, rfl, by decide +kernel, rfl, by decide +kernel, by decide +kernel, by decide +kernel⟩
theorem ok_ref_init {f cc cda : Addr} {fd : FuncData} (F : FunS P K "__init__" "RefColumn.__init__" s_RefColumn___init__ f cc A.RefColumn cda fd) (U : SupTop P mg) (T : Txt K mg A) (CF : ColF K A)
    (Gn : GFn P wo K mg base 1 "is_name" 1 [] (fun vs _ => spIsName K vs)) (XN : Exc1 P wo K mg base "InvalidName" A.InvalidName "name") (XC : Exc1 P wo K mg base "InvalidColumn" A.InvalidColumn "name")
    {g : Addr} (M_init : SupM K A.RefColumn A.RefColumn "__init__" g) (C_init : Cal P wo K mg base 3 g 2 ["optional"] (fun vs zs => spColInit K A (vs ++ zs))) : FnOk P wo K mg base (L2.CX P wo) 4 f fd (["self", "name", "target", "optional", "rule"] : List Str) (spRefInit K A) := by
  refine F.ok sc_RefColumn___init__ U rfl rfl ⟨_, rfl, rfl, rfl⟩ (fun vs H Q E h => ?_) (fun Ar outer s H vs Q E hr Z tk h => ?_)
  · obtain ⟨_, _, _, _, _, _, _, _, _, _, _, rfl, _⟩ := h
    rfl
  obtain ⟨G, R, x, dx, v, t, o, r, b1, b2, b3, rfl, w, hx, hv, ht, hrr, k1, k2, k3, k4⟩ := h
  refine ⟨_, (PSst.cons (pst_expr (pet_sup Z M_init C_init (hr.mono (by decide)) tk (pa_cons (pv 1) pa_nil) (pk_cons (pv 3) pk_nil)) rfl) (PSst.of (pss_cons (ps_if (pt_not (kt_truth K (pe_callG Gn (hr.mono (by decide)) tk (pa_cons (pv 2) pa_nil) pk_nil) (by intro _; rfl))) (pss_one (ps_raise rfl tk (pmk_exc1 XN (hr.mono (by decide)) (pa_cons (pv 2) pa_nil)))) pss_nil)
      (pss_cons (ps_if (PW.pt (pw_or (pt_not (kt_truth K (pe_callB (ka_isi K) (by rfl) T.nb_isinstance (by decide +kernel) (pa_cons (pv 4) (pa_cons (pe_bltn (v := .ty "str") (u := .type "str") (by rfl) T.nb_str (by decide +kernel) rfl) pa_nil))) (by intro _; rfl))) (pw_or (pt_cmpR (ka_ni K) (pv 4) (pe_globE (by rfl) T.g_RULES) (by first | exact nomark _ | rfl)) (pw_or1 (PW.pt (pw_and (pt_cmpR (ka_eq K hr.units) (pv 4) pe_str (nomark _)) (pw_and1 (pt_not (kt_truth K (pv 3) (by intro _; rfl)))))))))) (pss_one (ps_raise rfl tk (pmk_exc1 XC (hr.mono (by decide)) (pa_cons (pv 1) pa_nil)))) pss_nil)
      (pss_cons (ps_fld (pv 0) (pv 2) rfl)
      (pss_one (ps_fld (pv 0) (pv 4) rfl))))))), ?_⟩
  walk_at "go"
  refine ⟨x, dx, [], rfl, w.get hx, ?_⟩
  walk_at "go"
  refine ⟨rfl, rfl, G, R, x, _, dx, v, o, b1, rfl, w, hx, CF.cls .ref, CF.na .ref, CF.no .ref, hv, fun e1 H1 w1 => ?_, fun e1 d H1 n1 w1 => k2 e1 d H1 n1 w1⟩
  walk_at "go"
  refine ⟨rfl, rfl, ((ht.ins hx).same w1.sub).is fun H2 s2 => ?_⟩
  have w2 := w1.same s2
  walk_at "go"
  refine iteBN (fun e2 => ?_) (fun e2 => ?_)
  · walk_at "go"
    exact ⟨t, rfl, fun d hd => k3 e1 e2 d _ (upd_nonne (w2.free hd)).1 (w2.new (o := .xd [("name", t)]) hd)⟩
  have rr := (hrr.ins (fs' := [("name", v), ("optional", .bl o)]) hx).same w2.sub
  have bad : b3 = false → ∀ d, H2 d = none → E (.ref A.InvalidColumn) (some d) (upd H2 d (.xd [("name", v)])) := fun e3 d hd => k4 e1 e2 e3 d _ (upd_nonne (w2.free hd)).1 (w2.new hd)
  walk_at "go"
  rcases rr with ⟨z, rfl, e3⟩ | ⟨⟨ty, ht1, ht2⟩, e3⟩
  · refine g_isi (.ty _) (.base (.str z)) kit_str ?_
    walk_at "go"
    refine g_niT w2 (T.t_RULES _) rfl rfl ?_
    walk_at "go"
    refine iteBN (fun h3 => ?_) (fun h3 => ?_)
    · walk_at "go"
      refine ⟨v, rfl, fun d hd => bad ?_ d hd⟩
      rw [e3]
      unfold ruleOk
      rw [show inV (.str z) (rules.map V.str) = false from h3]
      rfl
    have h3' : inV (.str z) (rules.map V.str) = true := h3
    walk_at "go"
    refine g_eqS rfl ?_
    walk_at "go"
    refine iteD (fun h4 => ?_) (fun h4 => ?_)
    · walk_at "go"
      have h4' : z = "clear" := V.str.inj h4
      cases o with
      | false =>
        walk_at "go"
        refine ⟨v, rfl, fun d hd => bad ?_ d hd⟩
        rw [e3]
        unfold ruleOk
        rw [h3', decide_eq_true h4']
        rfl
      | true =>
        walk_at "go"
        refine g_sf w2 upd_same (CF.cls .ref) CF.nt (show 2 < 1000 by decide) fun H3 w3 => ?_
        rw [putF_ne (by decide +kernel), putF_ne (by decide +kernel), putF_nil, upd_upd] at w3
        walk_at "go"
        refine g_sf w3 upd_same (CF.cls .ref) CF.nr (show 3 < 1000 by decide) fun H4 w4 => ?_
        rw [putF_ne (by decide +kernel), putF_ne (by decide +kernel), putF_ne (by decide +kernel), putF_nil, upd_upd] at w4
        refine k1 e1 e2 ?_ _ w4
        rw [e3]
        unfold ruleOk
        rw [h3']
        simp
    · walk_at "go"
      refine g_sf w2 upd_same (CF.cls .ref) CF.nt (show 2 < 1000 by decide) fun H3 w3 => ?_
      rw [putF_ne (by decide +kernel), putF_ne (by decide +kernel), putF_nil, upd_upd] at w3
      walk_at "go"
      refine g_sf w3 upd_same (CF.cls .ref) CF.nr (show 3 < 1000 by decide) fun H4 w4 => ?_
      rw [putF_ne (by decide +kernel), putF_ne (by decide +kernel), putF_ne (by decide +kernel), putF_nil, upd_upd] at w4
      refine k1 e1 e2 ?_ _ w4
      rw [e3]
      unfold ruleOk
      rw [h3', decide_eq_false (fun q => h4 (congrArg V.str q))]
      rfl
  · refine g_isi (.ty _) ht1 ht2 ?_
    walk_at "go"
    exact ⟨v, rfl, fun d hd => bad e3 d hd⟩
end
end Sv


set_option Elab.async false
set_option linter.all false
set_option maxRecDepth 100000
set_option maxHeartbeats 4000000
namespace Sv
open PySem PySem.Spec PyProof.Rows L2 Sw
local macro_rules | `(tactic| walk_at "go1") => `(tactic| first
  | ((with_reducible refine' g_var ?hv ?_); (case hv => rfl))
  | with_reducible refine g_c ?_
  | with_reducible refine g_op ?_
  | with_reducible refine g_un ?_
  | with_reducible refine g_seq ?_
  | with_reducible refine g_next ?_
  | with_reducible refine g_asg ?_
  | with_reducible refine g_name ?_
  | with_reducible refine g_drop ?_
  | with_reducible refine g_sub ?_
  | with_reducible refine g_ret ?_
  | with_reducible refine g_retN ?_
  | with_reducible refine g_ifS ?_
  | with_reducible refine g_if ?_
  | with_reducible refine g_test ?_
  | with_reducible refine g_bl ?_
  | with_reducible refine g_cons ?_
  | with_reducible refine g_nil ?_
  | with_reducible refine g_and ?_
  | with_reducible refine g_or ?_
  | with_reducible refine g_not ?_
  | with_reducible refine g_callB ?_
  | with_reducible refine g_addI ?_
  | with_reducible refine g_I0 ?_
  | with_reducible refine g_calG ?_
  | with_reducible refine g_mkG ?_
  | with_reducible refine g_tup ?_
  | with_reducible refine g_lst ?_
  | with_reducible refine g_forL ?_
  | with_reducible refine g_forR ?_
  | with_reducible refine g_forR2 ?_
  | with_reducible refine g_forS ?_
  | with_reducible refine g_forE ?_
  | with_reducible refine g_lcL ?_
  | with_reducible refine g_lcR ?_
  | with_reducible refine g_lcS ?_
  | with_reducible refine g_lcE ?_
  | with_reducible refine g_orT ?_
  | with_reducible refine g_slc ?_
  | with_reducible refine g_noPart ?_
  | with_reducible refine g_part ?_
  | with_reducible refine g_bm ?_
  | with_reducible refine g_par ?_
  | with_reducible refine g_yes ?_
  | with_reducible refine g_tupG ?_
  | with_reducible refine g_gcons ?_
  | with_reducible refine g_gnil ?_
  | with_reducible refine g_chain ?_
  | with_reducible refine g_truB ?_
  | with_reducible refine g_truN ?_
  | with_reducible refine g_truI ?_
  | with_reducible refine g_m1 ?_
  | with_reducible refine g_fld ?_
  | with_reducible refine g_con ?_
  | with_reducible refine g_tru ?_
  | with_reducible refine g_U ?_
  | with_reducible refine g_xg ?_
  | with_reducible refine g_andT ?_
  | with_reducible refine g_exI ?_
  | with_reducible refine g_dnew ?_
  | with_reducible refine g_intB ?_
  | with_reducible refine g_meth ?_
  | with_reducible refine g_prop ?_
  | with_reducible refine g_exc1 ?_
  | with_reducible refine g_setF ?_
  | with_reducible refine g_star ?_
  | with_reducible refine g_strM ?_
  | with_reducible refine iteT ?_
  | with_reducible refine iteF ?_
  | with_reducible refine iteNT ?_
  | with_reducible refine iteNF ?_)
local macro_rules | `(tactic| walk_at "go") => `(tactic| repeat (walk_at "go1"))
local macro_rules | `(tactic| walk_at "sz") => `(tactic| (first | (rw [sizeLine_eq]; simp only [List.length_cons, List.length_nil, List.length_map, List.length_append, List.length_take]; omega) | (rw [sizeLine_eq]; omega)))
section
variable {P : Program} {wo : World} {A : Ad} {K : PySem.W.Frag} {mg : Str → Option Value} {base : Heap}

def spWords (A : Ad) : Sp := fun vs H Q _ => ∃ G R x c, vs = [.ref x] ∧ Wd G R H ∧ ColAt A G x c ∧ ∀ p H', G p = none → Wd (upd G p (.lst (c.words.map V.str))) R H' → Q (.ref p) H'
theorem sc_RefColumn_words : Sw.SScope (["self", "first", "name", "rest"] : List Str) (["self"] : List Str) (defScope s_RefColumn_words) := ⟨rfl, rfl, rfl, by decide +kernel, rfl, by decide +kernel, by decide +kernel, by decide +kernel⟩
theorem ok_ref_words {f cc cda : Addr} {fd : FuncData} (F : FunS P K "words" "RefColumn.words" s_RefColumn_words f cc A.RefColumn cda fd) (U : SupTop P mg) (T : Txt K mg A) (CF : ColF K A)
    {g : Addr} (M_words : SupM K A.RefColumn A.RefColumn "words" g) (C_words : Cal P wo K mg base 1 g 1 [] (fun vs _ => spWords0 A vs)) : FnOk P wo K mg base (L2.CX P wo) 2 f fd (["self"] : List Str) (fun vs H Q E => (∃ G R x c, vs = [.ref x] ∧ Wd G R H ∧ ColAt A G x c ∧ c.k = .ref ∧ ∀ p H', G p = none → Wd (upd G p (.lst (c.words.map V.str))) R H' → Q (.ref p) H')) := by
  refine F.ok sc_RefColumn_words U rfl rfl ⟨_, rfl, rfl, rfl⟩ (fun vs H Q E h => ?_) (fun Ar outer s H vs Q E hr Z tk h => ?_)
  · obtain ⟨_, _, _, _, rfl, _⟩ := h
    rfl
  obtain ⟨G, R, x, c, rfl, w, ⟨dx, hx⟩, ck, k⟩ := h
  refine ⟨_, (PSst.cons (pst_asg (pet_sup0 Z M_words C_words (hr.mono (by decide)) tk pk_nil) (kg_starL (n := 3) (i := 2) K rfl (pgs_cons (pg_name (i := 1) sc_RefColumn_words.nd rfl (by first | exact Or.inl rfl | exact Or.inr rfl)) (pgs_cons (pg_name (i := 2) sc_RefColumn_words.nd rfl (by first | exact Or.inl rfl | exact Or.inr rfl)) (pgs_star (pg_name (i := 3) sc_RefColumn_words.nd rfl (by first | exact Or.inl rfl | exact Or.inr rfl)) pgs_nil))) (by decide))) (PSst.of (pss_one (ps_ret (pe_lst (pa_cons (pv 1) (pa_cons (pv 2) (pa_cons (ke_fld K (pv 0) rfl) (StX.pa_star (pv 3) (pa_cons (ke_fld K (pv 0) rfl) pa_nil)))))))))), ?_⟩
  have hx' : G x = some (.ins A.RefColumn dx c.fs) := by rw [hx, ck]; rfl
  have ew : c.words = [kstr c.k, c.name, c.target] ++ optW c.opt ++ [c.rule] := by
    unfold Col.words
    rw [if_pos ck]
  have l1 := c.l_target ck
  have l2 := c.l_rule ck
  walk_at "go"
  refine ⟨x, dx, c.fs, rfl, w.get hx', ?_⟩
  walk_at "go"
  refine ⟨rfl, rfl, G, R, x, c, rfl, w, ⟨dx, hx⟩, fun p H1 n1 w1 => ?_⟩
  have lw : (c.words0.map V.str).length = 2 + (optW c.opt).length := by
    unfold Col.words0
    rw [List.length_map, List.length_append]
    rfl
  have lo : (optW c.opt).length ≤ 1 := by
    unfold optW
    split <;> decide
  refine ⟨p, _, rfl, SqL.of (w1.get upd_same), by rw [lw]; omega, by rw [lw]; omega, fun q hq => ?_⟩
  have nq := w1.free hq
  have w2 := w1.new (o := .lst (((c.words0.map V.str).drop 2).take ((c.words0.map V.str).length + 1 - 3))) hq
  have e1 : (c.words0.map V.str).take 2 = [V.str (kstr c.k), V.str c.name] := rfl
  have e2 : (c.words0.map V.str).drop 2 = (optW c.opt).map V.str := rfl
  have e3 : ((optW c.opt).map V.str).take ((c.words0.map V.str).length + 1 - 3) = (optW c.opt).map V.str := List.take_of_length_le (by rw [List.length_map, lw]; omega)
  have e4 : ((optW c.opt).map V.str).drop ((c.words0.map V.str).length + 1 - 3) = [] := List.drop_of_length_le (by rw [List.length_map, lw]; omega)
  rw [e2, e3] at w2
  rw [e1, e2, e4, e3]
  show gCons _ _ [V.str (kstr c.k), V.str c.name, V.ref q] _ _ _
  generalize upd H1 q _ = H2 at *
  walk_at "go"
  refine g_gf w2 (upd_old (upd_old hx' n1) nq) (CF.cls .ref) CF.nt l1 ?_
  walk_at "go"
  refine ⟨q, _, rfl, .inr (SqL.of (w2.get upd_same)), ?_⟩
  walk_at "go"
  refine g_gf w2 (upd_old (upd_old hx' n1) nq) (CF.cls .ref) CF.nr l2 ?_
  walk_at "go"
  refine g_newL w2 (by rw [sizeLine_eq]; simp only [List.length_cons, List.length_append, List.length_map, List.length_nil]; omega) fun p3 H3 n3 w3 => ?_
  refine k p3 H3 (upd_nonne (upd_nonne n3).1).1 ?_
  have ev : c.words.map V.str = V.str (kstr c.k) :: V.str c.name :: V.str c.target :: ((optW c.opt).map V.str ++ [V.str c.rule]) := by
    rw [ew]
    simp
  rw [ev]
  exact w3.drop (Same.upd2 (Same.trans (Same.newG n1) (Same.newG nq)))

/-! ### column.text -/
theorem isNm_len {s : Str} (h : isNm s = true) : s.length ≤ 8 := by
  unfold isNm at h
  simp only [Bool.and_eq_true, decide_eq_true_eq] at h
  exact h.1.1.2
theorem eqV_str (a b : Str) : eqV (.str a) (.str b) = decide (a = b) := by
  show (a == b) = decide (a = b)
  exact Bool.eq_iff_iff.mpr (by rw [beq_iff_eq, decide_eq_true_eq])
theorem inV_str (s : Str) (l : List Str) : inV (.str s) (l.map V.str) = decide (s ∈ l) := by
  unfold inV
  induction l with
  | nil => rfl
  | cons y r ih =>
    rw [List.map_cons, List.any_cons, ih, eqV_str]
    by_cases h : y = s
    · subst h
      simp
    · have : ¬ s = y := fun z => h z.symm
      simp [h, this]
theorem ruleOk_mem {r : Str} {o : Bool} (h : ruleOk r o = true) : r = "restrict" ∨ r = "clear" ∨ r = "cascade" := by
  unfold ruleOk at h
  have := (Bool.and_eq_true_iff.mp h).1
  rw [inV_str, decide_eq_true_eq] at this
  simpa [rules] using this
theorem Col.text_len {c : Col} (h : c.ok) : (c.words.map (·.length)).sum + c.words.length * 1 ≤ 64 := by
  have hn := isNm_len h.1
  have hk : (kstr c.k).length ≤ 4 := by
    cases c.k <;> decide
  have ho : ((optW c.opt).map (·.length)).sum ≤ 8 := by
    unfold optW
    split <;> decide
  have ho2 : (optW c.opt).length ≤ 1 := by
    unfold optW
    split <;> decide
  unfold Col.words
  split
  · rename_i e
    obtain ⟨h2, h3⟩ := h.2 e
    have ht := isNm_len h2
    have hr : c.rule.length ≤ 8 := by
      rcases ruleOk_mem h3 with e | e | e <;> rw [e] <;> decide
    simp only [List.map_append, List.map_cons, List.map_nil, List.sum_append, List.sum_cons, List.sum_nil, List.length_append, List.length_cons, List.length_nil]
    omega
  · unfold Col.words0
    simp only [List.map_append, List.map_cons, List.map_nil, List.sum_append, List.sum_cons, List.sum_nil, List.length_append, List.length_cons, List.length_nil]
    omega
def spText (A : Ad) : Sp := fun vs H Q _ => ∃ G R x c, vs = [.ref x] ∧ Wd G R H ∧ ColAt A G x c ∧ c.ok ∧ ∀ H', Wd G R H' → Q (.str c.text) H'
theorem sc_Column_text : FnScope (["self"] : List Str) (["self"] : List Str) (defScope s_Column_text) := ⟨rfl, rfl, rfl, by decide +kernel, rfl, by decide +kernel, by decide +kernel⟩
theorem ok_text {f : Addr} {fd : FuncData} (F : Fun K "text" "Column.text" s_Column_text f fd) (T : Txt K mg A) (MW : ∀ k, GMt P wo K mg base 2 (kcls A k) "words" 0 [] (fun vs _ H Q E => ∃ G R x c, vs = [.ref x] ∧ Wd G R H ∧ ColAt A G x c ∧ c.k = k ∧ ∀ p H', G p = none → Wd (upd G p (.lst (c.words.map V.str))) R H' → Q (.ref p) H')) : FnOk P wo K mg base (L2.CX P wo) 3 f fd (["self"] : List Str) (spText A) := by
  refine okT F sc_Column_text (fun vs H Q E h => ?_) (fun cdv Ar outer s H vs Q E hr tk po h => ?_)
  · obtain ⟨_, _, _, _, rfl, _⟩ := h
    rfl
  obtain ⟨G, R, x, c, rfl, w, ⟨dx, hx⟩, ok, k⟩ := h
  refine ⟨_, (pss_one (ps_ret (ke_join K pe_str (pe_methG0 (k := 2) (n := 0) (pv 0) (hr.mono (by decide)) tk pk_nil)))), ?_⟩
  walk_at "go"
  refine ⟨x, kcls A c.k, dx, c.fs, _, rfl, w.get hx, c.l_words, MW c.k, ?_⟩
  walk_at "go"
  refine ⟨rfl, rfl, G, R, x, c, rfl, w, ⟨dx, hx⟩, rfl, fun p H1 n1 w1 => ?_⟩
  have hz := Col.text_len ok
  refine g_join w1 (SqL.of upd_same) (Nat.le_trans (show _ ≤ 64 from hz) (by decide)) ?_
  exact k _ (w1.drop (Same.newG n1))
end
end Sv


set_option Elab.async false
set_option linter.all false
set_option maxRecDepth 100000
set_option maxHeartbeats 4000000
namespace Sv
open PySem PySem.Spec PyProof.Rows L2 Sw
local macro_rules | `(tactic| walk_at "go1") => `(tactic| first
  | ((with_reducible refine' g_var ?hv ?_); (case hv => rfl))
  | with_reducible refine g_c ?_
  | with_reducible refine g_op ?_
  | with_reducible refine g_un ?_
  | with_reducible refine g_seq ?_
  | with_reducible refine g_next ?_
  | with_reducible refine g_asg ?_
  | with_reducible refine g_name ?_
  | with_reducible refine g_drop ?_
  | with_reducible refine g_sub ?_
  | with_reducible refine g_ret ?_
  | with_reducible refine g_retN ?_
  | with_reducible refine g_ifS ?_
  | with_reducible refine g_if ?_
  | with_reducible refine g_test ?_
  | with_reducible refine g_bl ?_
  | with_reducible refine g_cons ?_
  | with_reducible refine g_nil ?_
  | with_reducible refine g_and ?_
  | with_reducible refine g_or ?_
  | with_reducible refine g_not ?_
  | with_reducible refine g_callB ?_
  | with_reducible refine g_addI ?_
  | with_reducible refine g_I0 ?_
  | with_reducible refine g_calG ?_
  | with_reducible refine g_mkG ?_
  | with_reducible refine g_tup ?_
  | with_reducible refine g_lst ?_
  | with_reducible refine g_forL ?_
  | with_reducible refine g_forR ?_
  | with_reducible refine g_forR2 ?_
  | with_reducible refine g_forS ?_
  | with_reducible refine g_forE ?_
  | with_reducible refine g_lcL ?_
  | with_reducible refine g_lcR ?_
  | with_reducible refine g_lcS ?_
  | with_reducible refine g_lcE ?_
  | with_reducible refine g_orT ?_
  | with_reducible refine g_slc ?_
  | with_reducible refine g_noPart ?_
  | with_reducible refine g_part ?_
  | with_reducible refine g_bm ?_
  | with_reducible refine g_par ?_
  | with_reducible refine g_yes ?_
  | with_reducible refine g_tupG ?_
  | with_reducible refine g_gcons ?_
  | with_reducible refine g_gnil ?_
  | with_reducible refine g_chain ?_
  | with_reducible refine g_truB ?_
  | with_reducible refine g_truN ?_
  | with_reducible refine g_truI ?_
  | with_reducible refine g_m1 ?_
  | with_reducible refine g_fld ?_
  | with_reducible refine g_con ?_
  | with_reducible refine g_tru ?_
  | with_reducible refine g_U ?_
  | with_reducible refine g_xg ?_
  | with_reducible refine g_andT ?_
  | with_reducible refine g_exI ?_
  | with_reducible refine g_dnew ?_
  | with_reducible refine g_intB ?_
  | with_reducible refine g_meth ?_
  | with_reducible refine g_prop ?_
  | with_reducible refine g_exc1 ?_
  | with_reducible refine g_setF ?_
  | with_reducible refine g_star ?_
  | with_reducible refine g_strM ?_
  | with_reducible refine iteT ?_
  | with_reducible refine iteF ?_
  | with_reducible refine iteNT ?_
  | with_reducible refine iteNF ?_)
local macro_rules | `(tactic| walk_at "go") => `(tactic| repeat (walk_at "go1"))
local macro_rules | `(tactic| walk_at "sz") => `(tactic| (first | (rw [sizeLine_eq]; simp only [List.length_cons, List.length_nil, List.length_map, List.length_append, List.length_take]; omega) | (rw [sizeLine_eq]; omega)))
section
variable {P : Program} {wo : World} {A : Ad} {K : PySem.W.Frag} {mg : Str → Option Value} {base : Heap}

def wAt (ws : List Str) (i : Nat) : Str := ws.getD i ""
theorem atI_neg1 {xs : List V} {v : V} (h : xs[xs.length - 1]? = some v) : atI xs (-1) = some v := by
  have hj : xs.length - 1 < xs.length := (List.getElem?_eq_some_iff.mp h).1
  unfold atI ixN
  rw [if_neg (by decide), if_pos (by omega)]
  have e : ((-1 : Int) + (xs.length : Int)).toNat = xs.length - 1 := by omega
  rw [e]
  exact h
/-- the column that the words make -/
def mkCol (ws : List Str) : Option Col :=
  if wAt ws 0 = "ref" ∧ (ws.length = 4 ∨ ws.length = 5) then some ⟨.ref, wAt ws 1, decide (ws.length = 5), wAt ws 2, wAt ws (ws.length - 1)⟩
  else if wAt ws 0 = "int" ∧ (ws.length = 2 ∨ ws.length = 3) then some ⟨.int, wAt ws 1, decide (ws.length = 3), "", ""⟩
  else if wAt ws 0 = "text" ∧ (ws.length = 2 ∨ ws.length = 3) then some ⟨.text, wAt ws 1, decide (ws.length = 3), "", ""⟩
  else none
def Col.okB (c : Col) : Bool := isNm c.name && (match c.k with | .ref => isNm c.target && ruleOk c.rule c.opt | _ => true)
theorem Col.okB_iff {c : Col} : c.okB = true ↔ c.ok := by
  obtain ⟨k, n, o, t, r⟩ := c
  unfold Col.okB Col.ok
  cases k <;> simp
def parseW (ws : List Str) : Option Col := match mkCol ws with
  | some c => if c.okB = true then some c else none
  | none => none
theorem parseW_some {ws : List Str} {c : Col} (h : mkCol ws = some c) (ok : c.ok) : parseW ws = some c := by
  unfold parseW
  rw [h]
  exact if_pos (Col.okB_iff.mpr ok)
theorem parseW_bad {ws : List Str} {c : Col} (h : mkCol ws = some c) (bad : ¬ c.ok) : parseW ws = none := by
  unfold parseW
  rw [h]
  exact if_neg fun z => bad (Col.okB_iff.mp z)
theorem parseW_none {ws : List Str} (h : mkCol ws = none) : parseW ws = none := by
  unfold parseW
  rw [h]
theorem inV_two (n : Nat) (a b : Int) : inV (.int (n : Int)) [.int a, .int b] = decide ((n : Int) = a ∨ (n : Int) = b) := by
  unfold inV
  show ((a == (n : Int)) || ((b == (n : Int)) || false)) = _
  rw [Bool.or_false]
  apply Bool.eq_iff_iff.mpr
  rw [Bool.or_eq_true, beq_iff_eq, beq_iff_eq, decide_eq_true_eq]
  constructor
  · rintro (h | h)
    · exact .inl h.symm
    · exact .inr h.symm
  · rintro (h | h)
    · exact .inl h.symm
    · exact .inr h.symm
/-- what the text says of the errors caught here -/
structure ExF (K : PySem.W.Frag) (A : Ad) : Prop where
  en : PySem.W.exmAny K (.ref A.InvalidName) [.ref A.InvalidColumn, .ref A.InvalidName] = some true
  ec : PySem.W.exmAny K (.ref A.InvalidColumn) [.ref A.InvalidColumn, .ref A.InvalidName] = some true
def spParsed (K : PySem.W.Frag) (A : Ad) : Sp := fun vs H Q _ => ∃ G R p ws, vs = [.ref p] ∧ Wd G R H ∧ SqL K G p (ws.map V.str) ∧ ws ≠ [] ∧ (∀ w ∈ ws, w.length ≤ 1000000) ∧
  (∀ c, parseW ws = some c → ∀ x G' H', Same G G' → G x = none → ColAt A G' x c → Wd G' R H' → Q (.ref x) H') ∧ (parseW ws = none → ∀ H', Wd G R H' → Q .non H')
theorem sc_parsed_column : FnScope (["words", "found", "many"] : List Str) (["words"] : List Str) (defScope s_parsed_column) := ⟨rfl, rfl, rfl, by decide +kernel, rfl, by decide +kernel, by decide +kernel⟩
theorem ok_parsed {f : Addr} {fd : FuncData} (F : Fun K "parsed_column" "parsed_column" s_parsed_column f fd) (T : Txt K mg A) (CF : ColF K A) (EF : ExF K A)
    (MR : GMk P wo K mg base 4 "RefColumn" A.RefColumn 2 ["optional", "rule"] (fun vs zs => spRefInit K A (vs ++ zs)))
    (MI : GMk P wo K mg base 4 "IntColumn" A.IntColumn 1 ["optional"] (fun vs zs => spColInit K A (vs ++ zs)))
    (MT : GMk P wo K mg base 4 "TextColumn" A.TextColumn 1 ["optional"] (fun vs zs => spColInit K A (vs ++ zs))) : FnOk P wo K mg base (L2.CX P wo) 6 f fd (["words"] : List Str) (spParsed K A) := by
  refine okT F sc_parsed_column (fun vs H Q E h => ?_) (fun cdv Ar outer s H vs Q E hr tk po h => ?_)
  · obtain ⟨_, _, _, _, rfl, _⟩ := h
    rfl
  obtain ⟨G, R, p, ws, rfl, w, hs, hne, hl, k1, k2⟩ := h
  refine ⟨_, (pss_cons (ps_par (i := 1) (j := 2) rfl sc_parsed_column.nd rfl rfl (by decide) rfl rfl (pa_cons pe_non (pa_cons (pe_callB (ka_len K) (by rfl) T.nb_len (by decide +kernel) (pa_cons (pv 0) pa_nil)) pa_nil)) (by rfl))
      (pss_cons (ps_try_two rfl rfl (names_of rfl T.g_InvalidColumn) (names_of rfl T.g_InvalidName) tk (fun _ _ _ tk po => (pss_one (ps_if (PW.pt (pw_and (pt_cmpR (ka_eq K hr.units) (pe_ix (ka_ix K) (pv 0) pe_int (fun _ _ => rfl)) pe_str (nomark _)) (pw_and1 (pt_cmpR (ka_in K) (pv 2) (pe_tup (pa_cons pe_int (pa_cons pe_int pa_nil))) (by first | exact nomark _ | rfl))))) (pss_one (ps_set (i := 1) sc_parsed_column.nd rfl (by first | exact Or.inl rfl | exact Or.inr rfl) (pe_makeG MR (hr.mono (by decide)) tk (pa_cons (pe_ix (ka_ix K) (pv 0) pe_int (fun _ _ => rfl)) (pa_cons (pe_ix (ka_ix K) (pv 0) pe_int (fun _ _ => rfl)) pa_nil)) (pk_cons (pe_cmpR (ka_eq K hr.units) (pv 2) pe_int (nomark _)) (pk_cons (pe_ix (ka_ix K) (pv 0) (pe_un un_neg pe_int) (fun _ _ => rfl)) pk_nil))))) (pss_one (ps_if (PW.pt (pw_and (pt_cmpR (ka_eq K hr.units) (pe_ix (ka_ix K) (pv 0) pe_int (fun _ _ => rfl)) pe_str (nomark _)) (pw_and1 (pt_cmpR (ka_in K) (pv 2) (pe_tup (pa_cons pe_int (pa_cons pe_int pa_nil))) (by first | exact nomark _ | rfl))))) (pss_one (ps_set (i := 1) sc_parsed_column.nd rfl (by first | exact Or.inl rfl | exact Or.inr rfl) (pe_makeG MI (hr.mono (by decide)) tk (pa_cons (pe_ix (ka_ix K) (pv 0) pe_int (fun _ _ => rfl)) pa_nil) (pk_cons (pe_cmpR (ka_eq K hr.units) (pv 2) pe_int (nomark _)) pk_nil)))) (pss_one (ps_if (PW.pt (pw_and (pt_cmpR (ka_eq K hr.units) (pe_ix (ka_ix K) (pv 0) pe_int (fun _ _ => rfl)) pe_str (nomark _)) (pw_and1 (pt_cmpR (ka_in K) (pv 2) (pe_tup (pa_cons pe_int (pa_cons pe_int pa_nil))) (by first | exact nomark _ | rfl))))) (pss_one (ps_set (i := 1) sc_parsed_column.nd rfl (by first | exact Or.inl rfl | exact Or.inr rfl) (pe_makeG MT (hr.mono (by decide)) tk (pa_cons (pe_ix (ka_ix K) (pv 0) pe_int (fun _ _ => rfl)) pa_nil) (pk_cons (pe_cmpR (ka_eq K hr.units) (pv 2) pe_int (nomark _)) pk_nil)))) pss_nil))))))) (fun _ _ _ _ _ hz hf => (pss_one (ps_set (i := 1) sc_parsed_column.nd rfl (by first | exact Or.inl rfl | exact Or.inr rfl) pe_non))))
      (pss_one (ps_ret (pv 1))))), ?_⟩
  have n0 : 0 < ws.length := List.length_pos_iff.mpr hne
  have at_ : ∀ i : Nat, i < ws.length → atI (ws.map V.str) (i : Int) = some (.str (wAt ws i)) := fun i hi => atI_nat (by
    unfold wAt
    rw [List.getElem?_map, List.getElem?_eq_getElem hi, List.getD_eq_getElem?_getD, List.getElem?_eq_getElem hi]
    rfl)
  have lens : ∀ i, (wAt ws i).length ≤ 1000000 := fun i => by
    unfold wAt
    rw [List.getD_eq_getElem?_getD]
    cases q : ws[i]? with
    | none => show (0 : Nat) ≤ 1000000; decide
    | some z => exact hl z (List.mem_of_getElem? q)
  walk_at "go"
  refine g_lenL w hs ?_
  rw [List.length_map]
  refine ⟨_, _, rfl, ?_⟩
  walk_at "go"
  refine g_ixL w hs (at_ 0 n0) ?_
  walk_at "go"
  refine g_eqS rfl ?_
  walk_at "go"
  have txt : ∀ {a b : Str}, V.str a = V.str b → a = b := fun h => V.str.inj h
  refine iteD (fun h1 => ?ra) (fun h1 => ?rb)
  case' rb => have hnr : ¬ (wAt ws 0 = "ref" ∧ (ws.length = 4 ∨ ws.length = 5)) := fun z => h1 (congrArg V.str z.1)
  case' rb => have w2 := w
  case' ra =>
    walk_at "go"
    refine g_newL w (by walk_at "sz") fun p1 H1 n1 w1 => ?_
    refine g_inT w1 (SqT.of upd_same) rfl rfl ?_
    have w2 := w1.drop (Same.newG n1)
    rw [inV_two]
    walk_at "go"
    replace h1 := txt h1
    refine iteD (fun h2 => ?rc) (fun h2 => ?rd)
  case' rd => have hnr : ¬ (wAt ws 0 = "ref" ∧ (ws.length = 4 ∨ ws.length = 5)) := fun z => h2 (by rcases z.2 with e | e <;> rw [e] <;> decide)
  case' rc =>
    walk_at "go"
    refine g_ixL w2 hs (at_ 1 (by omega)) ?_
    walk_at "go"
    refine g_ixL w2 hs (at_ 2 (by omega)) ?_
    walk_at "go"
    refine g_eqS rfl ?_
    walk_at "go"
    have lst : atI (ws.map V.str) (-1) = some (.str (wAt ws (ws.length - 1))) := by
      have := atI_neg1 (xs := ws.map V.str) (v := .str (wAt ws (ws.length - 1))) (by
        rw [List.length_map, List.getElem?_map, List.getElem?_eq_getElem (by omega)]
        unfold wAt
        rw [List.getD_eq_getElem?_getD, List.getElem?_eq_getElem (by omega)]
        rfl)
      exact this
    refine g_ixL w2 hs lst ?_
    walk_at "go"
    refine ⟨rfl, rfl, fun x dx hx hdx hne => ?_⟩
    have nx := w2.free hx
    have ndx := w2.free hdx
    have w3 := (w2.new (o := .own x) hdx).new (o := .ins A.RefColumn dx []) (show upd _ dx _ x = none by rw [upd_ne (Ne.symm hne)]; exact hx)
    have eo : decide (V.int (ws.length : Int) = V.int 5) = decide (ws.length = 5) := decide_eq_decide.mpr ⟨fun h => by have := V.int.inj h; omega, fun h => by rw [h]; rfl⟩
    rw [eo]
    have mk : mkCol ws = some ⟨.ref, wAt ws 1, decide (ws.length = 5), wAt ws 2, wAt ws (ws.length - 1)⟩ := by
      unfold mkCol
      rw [if_pos ⟨h1, by omega⟩]
    have sm : Same G (upd (upd G dx (.own x)) x (.ins A.RefColumn dx [])) := Same.trans (Same.newG ndx) (Same.newG (by rw [upd_ne (Ne.symm hne)]; exact nx))
    have sm2 : ∀ fs, Same G (upd (upd (upd G dx (.own x)) x (.ins A.RefColumn dx [])) x (.ins A.RefColumn dx fs)) := fun fs => by
      rw [upd_upd]
      exact Same.trans (Same.newG ndx) (Same.newG (by rw [upd_ne (Ne.symm hne)]; exact nx))
    have caught : ∀ {G' d o H3}, parseW ws = none → Same G G' → G' d = none → Wd (upd G' d o) R H3 → Q .non H3 := fun hp sg nd w4 => k2 hp _ (w4.drop (Same.trans sg (Same.newG nd)))
    refine ⟨_, R, x, dx, .str (wAt ws 1), .str (wAt ws 2), decide (ws.length = 5), .str (wAt ws (ws.length - 1)), isNm (wAt ws 1), isNm (wAt ws 2), ruleOk (wAt ws (ws.length - 1)) (decide (ws.length = 5)), rfl, w3, upd_same, .inl ⟨_, rfl, lens 1, rfl⟩, .inl ⟨_, rfl, lens 2, rfl⟩, .inl ⟨_, rfl, rfl⟩, fun e1 e2 e3 H3 w4 => ?_, fun e1 d H3 nd w4 => ?_, fun e1 e2 d H3 nd w4 => ?_, fun e1 e2 e3 d H3 nd w4 => ?_⟩
    · refine ⟨rfl, ?_⟩
      walk_at "go"
      refine k1 _ (parseW_some mk ⟨e1, fun _ => ⟨e2, e3⟩⟩) x _ _ (sm2 _) nx ⟨dx, upd_same⟩ w4
    · refine ⟨true, EF.en, fun _ a ha => ?_, fun z => Bool.noConfusion z⟩
      walk_at "go"
      exact caught (parseW_bad mk fun z => by rw [z.1] at e1; cases e1) sm nd w4
    · refine ⟨true, EF.en, fun _ a ha => ?_, fun z => Bool.noConfusion z⟩
      walk_at "go"
      exact caught (parseW_bad mk fun z => by rw [(z.2 rfl).1] at e2; cases e2) (sm2 _) (by rw [upd_ne]; exact nd; rintro rfl; rw [upd_same] at nd; cases nd) w4
    · refine ⟨true, EF.ec, fun _ a ha => ?_, fun z => Bool.noConfusion z⟩
      walk_at "go"
      exact caught (parseW_bad mk fun z => by rw [(z.2 rfl).2] at e3; cases e3) (sm2 _) (by rw [upd_ne]; exact nd; rintro rfl; rw [upd_same] at nd; cases nd) w4
  all_goals (
    walk_at "go"
    refine g_ixL w2 hs (at_ 0 n0) ?_
    walk_at "go"
    refine g_eqS rfl ?_
    walk_at "go"
    refine iteD (fun h3 => ?_) (fun h3 => ?_)
    rotate_left
    have hni : ¬ (wAt ws 0 = "int" ∧ (ws.length = 2 ∨ ws.length = 3)) := fun z => h3 (congrArg V.str z.1)
    rotate_left
    walk_at "go"
    refine g_newL w2 (by walk_at "sz") fun p1 H1 n1 w1 => ?_
    refine g_inT w1 (SqT.of upd_same) rfl rfl ?_
    replace w2 := w1.drop (Same.newG n1)
    rw [inV_two]
    walk_at "go"
    replace h3 := txt h3
    refine iteD (fun h4 => ?_) (fun h4 => ?_)
    rotate_left
    have hni : ¬ (wAt ws 0 = "int" ∧ (ws.length = 2 ∨ ws.length = 3)) := fun z => h4 (by rcases z.2 with e | e <;> rw [e] <;> decide)
    rotate_left
    rotate_left
    · walk_at "go"
      refine g_ixL w2 hs (at_ 1 (by omega)) ?_
      walk_at "go"
      refine g_eqS rfl ?_
      walk_at "go"
      refine ⟨rfl, rfl, fun x dx hx hdx hne => ?_⟩
      have nx := w2.free hx
      have ndx := w2.free hdx
      have w3 := (w2.new (o := .own x) hdx).new (o := .ins A.IntColumn dx []) (show upd _ dx _ x = none by rw [upd_ne (Ne.symm hne)]; exact hx)
      have eo : decide (V.int (ws.length : Int) = V.int 3) = decide (ws.length = 3) := decide_eq_decide.mpr ⟨fun h => by have := V.int.inj h; omega, fun h => by rw [h]; rfl⟩
      rw [eo]
      have mk : mkCol ws = some ⟨.int, wAt ws 1, decide (ws.length = 3), "", ""⟩ := by
        unfold mkCol
        rw [if_neg hnr]
        rw [if_pos ⟨h3, by omega⟩]
      refine ⟨_, R, x, _, dx, .str (wAt ws 1), decide (ws.length = 3), isNm (wAt ws 1), rfl, w3, upd_same, CF.cls .int, CF.na .int, CF.no .int, .inl ⟨_, rfl, lens 1, rfl⟩, fun e1 H3 w4 => ?_, fun e1 d H3 nd w4 => ?_⟩
      · refine ⟨rfl, ?_⟩
        walk_at "go"
        rw [upd_upd] at w4
        refine k1 _ (parseW_some mk ⟨e1, fun z => nomatch z⟩) x _ _ (Same.trans (Same.newG ndx) (Same.newG ?_)) nx ⟨dx, upd_same⟩ w4
        rw [upd_ne (Ne.symm hne)]
        exact nx
      · refine ⟨true, EF.en, fun _ a ha => ?_, fun z => Bool.noConfusion z⟩
        walk_at "go"
        refine k2 (parseW_bad mk fun z => by rw [z.1] at e1; cases e1) _ (w4.drop ?_)
        refine Same.trans (Same.trans (Same.newG ndx) (Same.newG ?_)) (Same.newG nd)
        rw [upd_ne (Ne.symm hne)]
        exact nx
    all_goals (
      walk_at "go"
      refine g_ixL w2 hs (at_ 0 n0) ?_
      walk_at "go"
      refine g_eqS rfl ?_
      walk_at "go"
      refine iteD (fun h3 => ?_) (fun h3 => ?_)
      rotate_left
      have hnt : ¬ (wAt ws 0 = "text" ∧ (ws.length = 2 ∨ ws.length = 3)) := fun z => h3 (congrArg V.str z.1)
      rotate_left
      walk_at "go"
      refine g_newL w2 (by walk_at "sz") fun p1 H1 n1 w1 => ?_
      refine g_inT w1 (SqT.of upd_same) rfl rfl ?_
      replace w2 := w1.drop (Same.newG n1)
      rw [inV_two]
      walk_at "go"
      replace h3 := txt h3
      refine iteD (fun h4 => ?_) (fun h4 => ?_)
      rotate_left
      have hnt : ¬ (wAt ws 0 = "text" ∧ (ws.length = 2 ∨ ws.length = 3)) := fun z => h4 (by rcases z.2 with e | e <;> rw [e] <;> decide)
      rotate_left
      rotate_left
      · walk_at "go"
        refine g_ixL w2 hs (at_ 1 (by omega)) ?_
        walk_at "go"
        refine g_eqS rfl ?_
        walk_at "go"
        refine ⟨rfl, rfl, fun x dx hx hdx hne => ?_⟩
        have nx := w2.free hx
        have ndx := w2.free hdx
        have w3 := (w2.new (o := .own x) hdx).new (o := .ins A.TextColumn dx []) (show upd _ dx _ x = none by rw [upd_ne (Ne.symm hne)]; exact hx)
        have eo : decide (V.int (ws.length : Int) = V.int 3) = decide (ws.length = 3) := decide_eq_decide.mpr ⟨fun h => by have := V.int.inj h; omega, fun h => by rw [h]; rfl⟩
        rw [eo]
        have mk : mkCol ws = some ⟨.text, wAt ws 1, decide (ws.length = 3), "", ""⟩ := by
          unfold mkCol
          rw [if_neg hnr, if_neg hni]
          rw [if_pos ⟨h3, by omega⟩]
        refine ⟨_, R, x, _, dx, .str (wAt ws 1), decide (ws.length = 3), isNm (wAt ws 1), rfl, w3, upd_same, CF.cls .text, CF.na .text, CF.no .text, .inl ⟨_, rfl, lens 1, rfl⟩, fun e1 H3 w4 => ?_, fun e1 d H3 nd w4 => ?_⟩
        · refine ⟨rfl, ?_⟩
          walk_at "go"
          rw [upd_upd] at w4
          refine k1 _ (parseW_some mk ⟨e1, fun z => nomatch z⟩) x _ _ (Same.trans (Same.newG ndx) (Same.newG ?_)) nx ⟨dx, upd_same⟩ w4
          rw [upd_ne (Ne.symm hne)]
          exact nx
        · refine ⟨true, EF.en, fun _ a ha => ?_, fun z => Bool.noConfusion z⟩
          walk_at "go"
          refine k2 (parseW_bad mk fun z => by rw [z.1] at e1; cases e1) _ (w4.drop ?_)
          refine Same.trans (Same.trans (Same.newG ndx) (Same.newG ?_)) (Same.newG nd)
          rw [upd_ne (Ne.symm hne)]
          exact nx
      all_goals (
        walk_at "go"
        refine k2 (parseW_none ?_) _ w2
        unfold mkCol
        rw [if_neg hnr, if_neg hni, if_neg hnt])))
end
end Sv


set_option Elab.async false
set_option linter.all false
set_option maxRecDepth 100000
set_option maxHeartbeats 4000000
namespace Sv
open PySem PySem.Spec PyProof.Rows L2 Sw
local macro_rules | `(tactic| walk_at "go1") => `(tactic| first
  | ((with_reducible refine' g_var ?hv ?_); (case hv => rfl))
  | with_reducible refine g_c ?_
  | with_reducible refine g_op ?_
  | with_reducible refine g_un ?_
  | with_reducible refine g_seq ?_
  | with_reducible refine g_next ?_
  | with_reducible refine g_asg ?_
  | with_reducible refine g_name ?_
  | with_reducible refine g_drop ?_
  | with_reducible refine g_sub ?_
  | with_reducible refine g_ret ?_
  | with_reducible refine g_retN ?_
  | with_reducible refine g_ifS ?_
  | with_reducible refine g_if ?_
  | with_reducible refine g_test ?_
  | with_reducible refine g_bl ?_
  | with_reducible refine g_cons ?_
  | with_reducible refine g_nil ?_
  | with_reducible refine g_and ?_
  | with_reducible refine g_or ?_
  | with_reducible refine g_not ?_
  | with_reducible refine g_callB ?_
  | with_reducible refine g_addI ?_
  | with_reducible refine g_I0 ?_
  | with_reducible refine g_calG ?_
  | with_reducible refine g_mkG ?_
  | with_reducible refine g_tup ?_
  | with_reducible refine g_lst ?_
  | with_reducible refine g_forL ?_
  | with_reducible refine g_forR ?_
  | with_reducible refine g_forR2 ?_
  | with_reducible refine g_forS ?_
  | with_reducible refine g_forE ?_
  | with_reducible refine g_lcL ?_
  | with_reducible refine g_lcR ?_
  | with_reducible refine g_lcS ?_
  | with_reducible refine g_lcE ?_
  | with_reducible refine g_orT ?_
  | with_reducible refine g_slc ?_
  | with_reducible refine g_noPart ?_
  | with_reducible refine g_part ?_
  | with_reducible refine g_bm ?_
  | with_reducible refine g_par ?_
  | with_reducible refine g_yes ?_
  | with_reducible refine g_tupG ?_
  | with_reducible refine g_gcons ?_
  | with_reducible refine g_gnil ?_
  | with_reducible refine g_chain ?_
  | with_reducible refine g_truB ?_
  | with_reducible refine g_truN ?_
  | with_reducible refine g_truI ?_
  | with_reducible refine g_m1 ?_
  | with_reducible refine g_fld ?_
  | with_reducible refine g_con ?_
  | with_reducible refine g_tru ?_
  | with_reducible refine g_U ?_
  | with_reducible refine g_xg ?_
  | with_reducible refine g_andT ?_
  | with_reducible refine g_exI ?_
  | with_reducible refine g_dnew ?_
  | with_reducible refine g_intB ?_
  | with_reducible refine g_meth ?_
  | with_reducible refine g_prop ?_
  | with_reducible refine g_exc1 ?_
  | with_reducible refine g_setF ?_
  | with_reducible refine g_star ?_
  | with_reducible refine g_strM ?_
  | with_reducible refine iteT ?_
  | with_reducible refine iteF ?_
  | with_reducible refine iteNT ?_
  | with_reducible refine iteNF ?_)
local macro_rules | `(tactic| walk_at "go") => `(tactic| repeat (walk_at "go1"))
local macro_rules | `(tactic| walk_at "sz") => `(tactic| (first | (rw [sizeLine_eq]; simp only [List.length_cons, List.length_nil, List.length_map, List.length_append, List.length_take]; omega) | (rw [sizeLine_eq]; omega)))
section
variable {P : Program} {wo : World} {A : Ad} {K : PySem.W.Frag} {mg : Str → Option Value} {base : Heap}

def parseT (s : Str) : Option Col := match parseW (Txt.split s " ") with
  | some c => if c.text = s then some c else none
  | none => none
theorem le_sum {l : List Nat} {n : Nat} (h : n ∈ l) : n ≤ l.sum := by
  induction l with
  | nil => cases h
  | cons a r ih =>
    rw [List.sum_cons]
    rcases List.mem_cons.mp h with rfl | h
    · omega
    · have := ih h
      omega
theorem split_ne (s : Str) : Txt.split s " " ≠ [] := fun h => by
  have := split_pos s " "
  rw [h] at this
  exact absurd this (by decide)
theorem word_len {s w : Str} (h : w ∈ Txt.split s " ") : w.length ≤ s.length := by
  have h1 := split_weight s " " (by decide)
  have h2 : w.length ≤ ((Txt.split s " ").map (·.length)).sum := le_sum (List.mem_map_of_mem h)
  have h3 := split_pos s " "
  omega
theorem parseW_ok {ws : List Str} {c : Col} (h : parseW ws = some c) : c.ok := by
  unfold parseW at h
  split at h
  · split at h
    · rename_i k
      cases h
      exact Col.okB_iff.mp k
    · cases h
  · cases h
/-- Column.parse -/
def spParse (K : PySem.W.Frag) (A : Ad) : Sp := fun vs H Q E => ∃ G R v, vs = [v] ∧ Wd G R H ∧
  ((∃ s : Str, v = .str s ∧ s.length ≤ 1000000 ∧ (∀ c, parseT s = some c → ∀ x G' H', Same G G' → G x = none → ColAt A G' x c → Wd G' R H' → Q (.ref x) H') ∧
    (parseT s = none → ∀ G' d H', Same G G' → G d = none → G' d = some (.xd [("line", .int 0)]) → Wd G' R H' → E (.ref A.InvalidText) (some d) H')) ∨
   (NotStr K G v ∧ ∀ G' d H', Same G G' → G d = none → G' d = some (.xd [("line", .int 0)]) → Wd G' R H' → E (.ref A.InvalidText) (some d) H'))
theorem sc_Column_parse : FnScope (["text", "found"] : List Str) (["text"] : List Str) (defScope s_Column_parse) := ⟨rfl, rfl, rfl, by decide +kernel, rfl, by decide +kernel, by decide +kernel⟩
theorem ok_parse {f : Addr} {fd : FuncData} (F : Fun K "parse" "Column.parse" s_Column_parse f fd) (T : Txt K mg A) (CF : ColF K A) (Gpc : GFn P wo K mg base 6 "parsed_column" 1 [] (fun vs _ => spParsed K A vs))
    (GT : ∀ k, GPr P wo K mg base 3 (kcls A k) "text" (fun vs _ => spText A vs)) (XT : Exc1 P wo K mg base "InvalidText" A.InvalidText "line") : FnOk P wo K mg base (L2.CX P wo) 7 f fd (["text"] : List Str) (spParse K A) := by
  refine okT F sc_Column_parse (fun vs H Q E h => ?_) (fun cdv Ar outer s H vs Q E hr tk po h => ?_)
  · obtain ⟨_, _, _, rfl, _⟩ := h
    rfl
  obtain ⟨G, R, v, rfl, w, h⟩ := h
  refine ⟨_, (pss_cons (ps_set (i := 1) sc_Column_parse.nd rfl (by first | exact Or.inl rfl | exact Or.inr rfl) (pe_ifExp (kt_truth K (pe_callB (ka_isi K) (by rfl) T.nb_isinstance (by decide +kernel) (pa_cons (pv 0) (pa_cons (pe_bltn (v := .ty "str") (u := .type "str") (by rfl) T.nb_str (by decide +kernel) rfl) pa_nil))) (by intro _; rfl)) (pe_callG Gpc (hr.mono (by decide)) tk (pa_cons (ke_split (pv 0) pe_str) pa_nil) pk_nil) pe_non))
      (pss_cons (ps_if (PW.pt (pw_or (pt_cmpR op_isN (pv 1) pe_non (nomark _)) (pw_or1 (pt_cmpR (ka_ne K hr.units) (pe_propG (k := 3) (pv 1) (hr.mono (by decide))) (pv 0) (nomark _))))) (pss_one (ps_raise rfl tk (pmk_exc1 XT (hr.mono (by decide)) (pa_cons pe_int pa_nil)))) pss_nil)
      (pss_one (ps_ret (pv 1))))), ?_⟩
  walk_at "go"
  rcases h with ⟨z, rfl, hz, k1, k2⟩ | ⟨⟨t, ht1, ht2⟩, k2⟩
  · refine g_isi (.ty _) (.base (.str z)) kit_str ?_
    walk_at "go"
    refine g_split w (by decide) (by rw [sizeLine_eq]; omega) fun p H1 n1 w1 => ?_
    walk_at "go"
    refine ⟨rfl, rfl, _, R, p, Txt.split z " ", rfl, w1, SqL.of upd_same, split_ne z, fun y hy => Nat.le_trans (word_len hy) hz, fun c hc x G' H2 e2 nx hx w2 => ?_, fun hc H2 w2 => ?_⟩
    · walk_at "go"
      have n2 := upd_nonne nx
      have eG : Same G G' := Same.trans (Same.newG n1) e2
      obtain ⟨dx, hx'⟩ := hx
      refine ⟨rfl, _, rfl, ?_⟩
      rw [decide_eq_false (show ¬ (V.ref x = V.non) from fun z => nomatch z)]
      walk_at "go"
      refine ⟨x, kcls A c.k, dx, c.fs, _, rfl, w2.get hx', GT c.k, ?_⟩
      refine ⟨G', R, x, c, rfl, w2, ⟨dx, hx'⟩, parseW_ok hc, fun H3 w3 => ?_⟩
      walk_at "go"
      refine g_neS rfl ?_
      walk_at "go"
      refine iteN (fun h3 => ?_) (fun h3 => ?_)
      · walk_at "go"
        refine ⟨_, rfl, fun d hd => ?_⟩
        have nd := w3.free hd
        refine k2 ?_ (upd G' d (.xd [("line", .int 0)])) d _ (Same.trans eG (Same.newG nd)) (Same.free eG nd) upd_same (w3.new hd)
        unfold parseT
        rw [hc]
        exact if_neg fun q => h3 (congrArg V.str q)
      · walk_at "go"
        refine k1 c ?_ x G' _ eG n2.1 ⟨dx, hx'⟩ w3
        unfold parseT
        rw [hc]
        exact if_pos (V.str.inj h3)
    · walk_at "go"
      refine ⟨rfl, _, rfl, ?_⟩
      rw [decide_eq_true (show V.non = V.non from rfl)]
      walk_at "go"
      refine ⟨_, rfl, fun d hd => ?_⟩
      have nd := w2.free hd
      have nd1 := upd_nonne nd
      refine k2 ?_ _ d _ (Same.trans (Same.newG n1) (Same.newG nd)) nd1.1 upd_same (w2.new hd)
      unfold parseT
      rw [hc]
  · refine g_isi (.ty _) (tyX_same w.sub ht1) ht2 ?_
    walk_at "go"
    refine ⟨rfl, _, rfl, ?_⟩
    rw [decide_eq_true (show V.non = V.non from rfl)]
    walk_at "go"
    refine ⟨_, rfl, fun d hd => ?_⟩
    have nd := w.free hd
    exact k2 _ d _ (Same.newG nd) nd upd_same (w.new hd)
end
end Sv


set_option Elab.async false
set_option linter.all false
set_option maxRecDepth 100000
set_option maxHeartbeats 4000000
namespace Sv
open PySem PySem.Spec PyProof.Rows L2 Sw
local macro_rules | `(tactic| walk_at "go1") => `(tactic| first
  | ((with_reducible refine' g_var ?hv ?_); (case hv => rfl))
  | with_reducible refine g_c ?_
  | with_reducible refine g_op ?_
  | with_reducible refine g_un ?_
  | with_reducible refine g_seq ?_
  | with_reducible refine g_next ?_
  | with_reducible refine g_asg ?_
  | with_reducible refine g_name ?_
  | with_reducible refine g_drop ?_
  | with_reducible refine g_sub ?_
  | with_reducible refine g_ret ?_
  | with_reducible refine g_retN ?_
  | with_reducible refine g_ifS ?_
  | with_reducible refine g_if ?_
  | with_reducible refine g_test ?_
  | with_reducible refine g_bl ?_
  | with_reducible refine g_cons ?_
  | with_reducible refine g_nil ?_
  | with_reducible refine g_and ?_
  | with_reducible refine g_or ?_
  | with_reducible refine g_not ?_
  | with_reducible refine g_callB ?_
  | with_reducible refine g_addI ?_
  | with_reducible refine g_I0 ?_
  | with_reducible refine g_calG ?_
  | with_reducible refine g_mkG ?_
  | with_reducible refine g_tup ?_
  | with_reducible refine g_lst ?_
  | with_reducible refine g_forL ?_
  | with_reducible refine g_forR ?_
  | with_reducible refine g_forR2 ?_
  | with_reducible refine g_forS ?_
  | with_reducible refine g_forE ?_
  | with_reducible refine g_lcL ?_
  | with_reducible refine g_lcR ?_
  | with_reducible refine g_lcS ?_
  | with_reducible refine g_lcE ?_
  | with_reducible refine g_orT ?_
  | with_reducible refine g_slc ?_
  | with_reducible refine g_noPart ?_
  | with_reducible refine g_part ?_
  | with_reducible refine g_bm ?_
  | with_reducible refine g_par ?_
  | with_reducible refine g_yes ?_
  | with_reducible refine g_tupG ?_
  | with_reducible refine g_gcons ?_
  | with_reducible refine g_gnil ?_
  | with_reducible refine g_chain ?_
  | with_reducible refine g_truB ?_
  | with_reducible refine g_truN ?_
  | with_reducible refine g_truI ?_
  | with_reducible refine g_m1 ?_
  | with_reducible refine g_fld ?_
  | with_reducible refine g_con ?_
  | with_reducible refine g_tru ?_
  | with_reducible refine g_U ?_
  | with_reducible refine g_xg ?_
  | with_reducible refine g_andT ?_
  | with_reducible refine g_exI ?_
  | with_reducible refine g_dnew ?_
  | with_reducible refine g_intB ?_
  | with_reducible refine g_meth ?_
  | with_reducible refine g_prop ?_
  | with_reducible refine g_exc1 ?_
  | with_reducible refine g_setF ?_
  | with_reducible refine g_star ?_
  | with_reducible refine g_strM ?_
  | with_reducible refine iteT ?_
  | with_reducible refine iteF ?_
  | with_reducible refine iteNT ?_
  | with_reducible refine iteNF ?_)
local macro_rules | `(tactic| walk_at "go") => `(tactic| repeat (walk_at "go1"))
local macro_rules | `(tactic| walk_at "sz") => `(tactic| (first | (rw [sizeLine_eq]; simp only [List.length_cons, List.length_nil, List.length_map, List.length_append, List.length_take]; omega) | (rw [sizeLine_eq]; omega)))
section
variable {P : Program} {wo : World} {A : Ad} {K : PySem.W.Frag} {mg : Str → Option Value} {base : Heap}

/-! ### words -/
/-- a word of small letters, of one to eight signs -/
def wordB (s : Str) : Bool := decide (1 ≤ s.length) && decide (s.length ≤ 8) && lowS s
theorem isNm_of {s : Str} (h : wordB s = true) (hr : s ∉ resv) : isNm s = true := by
  unfold wordB at h
  simp only [Bool.and_eq_true] at h
  unfold isNm
  rw [h.1.1, h.1.2, h.2, inV_str, decide_eq_false hr]
  rfl
def chS (c : Nat) : Str := ⟨#[c]⟩
theorem lowS_app (a b : Str) : lowS (a ++ b) = (lowS a && lowS b) := by
  unfold lowS
  have : (a ++ b).cps.toList = a.cps.toList ++ b.cps.toList := by
    show (a.cps ++ b.cps).toList = _
    simp
  rw [this, List.all_append]
theorem cut7 (s : Str) : (cutS s none (some 7)).cps.toList = s.cps.toList.take 7 := by
  unfold cutS
  have h1 : HT.sIx s.length 0 none = 0 := rfl
  have h2 : HT.sIx s.length s.length (some 7) = min 7 s.length := HT.sIx_nat _ _ 7
  rw [h1, h2]
  simp only [List.drop_zero, Nat.sub_zero]
  have hl : s.length = s.cps.toList.length := by simp [Str.length]
  rw [hl]
  by_cases h : 7 ≤ s.cps.toList.length
  · rw [Nat.min_eq_left h]
  · rw [Nat.min_eq_right (by omega), List.take_length, List.take_of_length_le (by omega)]
theorem str_len (s : Str) : s.length = s.cps.toList.length := by simp [Str.length]
/-- the words tried for a name -/
def cands (w : Str) : List Str := w :: letters.cps.toList.map fun c => cutS w none (some 7) ++ chS c
theorem cands_word {w s : Str} (hw : wordB w = true) (h : s ∈ cands w) : wordB s = true := by
  rcases List.mem_cons.mp h with rfl | h
  · exact hw
  · obtain ⟨c, hc, rfl⟩ := List.mem_map.mp h
    unfold wordB at hw ⊢
    simp only [Bool.and_eq_true, decide_eq_true_eq] at hw
    obtain ⟨⟨h1, h2⟩, h3⟩ := hw
    have hl : (cutS w none (some 7) ++ chS c).length = (cutS w none (some 7)).length + 1 := Str.length_append _ _
    have hl2 : (cutS w none (some 7)).length ≤ 7 := by
      rw [str_len, cut7, List.length_take]
      omega
    rw [lowS_app, hl, decide_eq_true (by omega), decide_eq_true (by omega)]
    have e1 : lowS (cutS w none (some 7)) = true := by
      unfold lowS at h3 ⊢
      rw [cut7]
      rw [List.all_eq_true] at h3 ⊢
      exact fun x hx => h3 x (List.mem_of_mem_take hx)
    have e2 : lowS (chS c) = true := by
      show (decide (c ∈ letters.cps.toList) && true) = true
      rw [decide_eq_true hc]
      rfl
    rw [e1, e2]
    rfl
theorem nodup_map_inj {α β : Type} {f : α → β} {l : List α} (hf : ∀ a b, f a = f b → a = b) (h : l.Nodup) : (l.map f).Nodup := by
  induction l with
  | nil => simp
  | cons a r ih =>
    rw [List.map_cons, List.nodup_cons]
    rw [List.nodup_cons] at h
    refine ⟨fun z => ?_, ih h.2⟩
    obtain ⟨b, hb, e⟩ := List.mem_map.mp z
    rw [← hf _ _ e.symm] at hb
    exact h.1 hb
theorem nodup_sub_len {α : Type} [DecidableEq α] : ∀ {l m : List α}, l.Nodup → (∀ a ∈ l, a ∈ m) → l.length ≤ m.length
  | [], m, _, _ => Nat.zero_le _
  | a :: r, m, h, hs => by
    rw [List.nodup_cons] at h
    have hm : a ∈ m := hs a (List.mem_cons_self ..)
    have := nodup_sub_len (l := r) (m := m.erase a) h.2 fun b hb => (List.mem_erase_of_ne (fun e => h.1 (by rw [← e]; exact hb))).mpr (hs b (List.mem_cons_of_mem _ hb))
    rw [List.length_erase_of_mem hm] at this
    have hp : 0 < m.length := List.length_pos_of_mem hm
    rw [List.length_cons]
    omega
theorem app_chS {x : Str} {a b : Nat} (h : x ++ chS a = x ++ chS b) : a = b := by
  have : (x ++ chS a).cps.toList = (x ++ chS b).cps.toList := by rw [h]
  have e : ∀ c, (x ++ chS c).cps.toList = x.cps.toList ++ [c] := fun c => by
    show (x.cps ++ #[c]).toList = _
    simp
  rw [e, e] at this
  simpa using this
theorem cands_free (w : Str) {found : List Str} (h : found.length ≤ 25) : (cands w).filter (fun s => decide (s ∉ found)) ≠ [] := by
  intro z
  rw [List.filter_eq_nil_iff] at z
  have := nodup_sub_len (l := letters.cps.toList.map fun c => cutS w none (some 7) ++ chS c) (m := found) (nodup_map_inj (fun a b e => app_chS e) (by decide +kernel)) fun s hs => by
    have := z s (List.mem_cons_of_mem _ hs)
    simpa using this
  rw [List.length_map, show letters.cps.toList.length = 26 from by decide +kernel] at this
  omega
theorem join_chS (cs : List Nat) : Txt.join "" (cs.map chS) = ⟨cs.toArray⟩ := by
  rw [TL.join_eq]
  refine TL.ext_tl ?_
  rw [TL.tl_join]
  induction cs with
  | nil => rfl
  | cons a r ih =>
    cases r with
    | nil => rfl
    | cons b r =>
      show TL.tl (chS a) ++ (TL.tl "" ++ TL.joinL (TL.tl "") ((b :: r).map chS |>.map TL.tl)) = _
      rw [ih]
      rfl
theorem word_of {cs : List Nat} (h1 : 1 ≤ cs.length) (h2 : cs.length ≤ 8) (h : ∀ c ∈ cs, c ∈ letters.cps.toList) : wordB ⟨cs.toArray⟩ = true := by
  unfold wordB
  have : (⟨cs.toArray⟩ : Str).length = cs.length := by simp [Str.length]
  rw [this, decide_eq_true h1, decide_eq_true h2]
  show lowS _ = true
  unfold lowS
  rw [List.all_eq_true]
  exact fun c hc => decide_eq_true (h c (by simpa using hc))

theorem wipe_ok : True := trivial
def ownW : List Str := ["a", "bo", "text", "int", "ref", "unique", "optional", "restrict", "clear", "none", "tables", "name"]
theorem ownW_ok : ∀ s ∈ ownW, wordB s = true := by decide +kernel
theorem getStr {l : List Str} {i : Nat} {x : V} (h : (l.map V.str)[i]? = some x) : ∃ s, x = .str s ∧ l[i]? = some s := by
  rw [List.getElem?_map] at h
  cases e : l[i]? with
  | none => rw [e] at h; cases h
  | some u => rw [e] at h; exact ⟨u, (Option.some.inj h).symm, rfl⟩
/-! ### _law_names -/
def spNames : Sp := fun vs H Q _ => ∃ G a c n, vs = [.ref a, .int n] ∧ 0 ≤ n ∧ n ≤ 20 ∧ Wd G (RD a c) H ∧ ∀ p H' (ns : List Str), ns.length = n.toNat → (∀ s ∈ ns, isNm s = true) → ns.Nodup → G p = none → Wd (upd G p (.lst (ns.map V.str))) (RD a c) H' → Q (.ref p) H'
theorem sc__law_names : FnScope (["_law_state", "_law_count", "_law_own", "_law_letters", "_law_found", "_law_turn", "_law_word", "_law_some", "_law_letter", "_law_one", "_law_sign"] : List Str) (["_law_state", "_law_count"] : List Str) (defScope s__law_names) := ⟨rfl, rfl, rfl, by decide +kernel, rfl, by decide +kernel, by decide +kernel⟩
theorem ok_names {f : Addr} {fd : FuncData} (F : Fun K "_law_names" "_law_names" s__law_names f fd) (T : Txt K mg A) (Gd : GFn P wo K mg base 1 "_law_draw" 2 [] (fun vs _ => spDraw vs)) (Gp : GFn P wo K mg base 2 "_law_pick" 2 [] (fun vs _ => spPick K vs)) : FnOk P wo K mg base (L2.CX P wo) 3 f fd (["_law_state", "_law_count"] : List Str) spNames := by
  refine okT F sc__law_names (fun vs H Q E h => ?_) (fun cdv Ar outer s H vs Q E hr tk po h => ?_)
  · obtain ⟨_, _, _, _, rfl, _⟩ := h
    rfl
  obtain ⟨G, a, c, n, rfl, n0, n1, w, k⟩ := h
  refine ⟨_, (pss_cons (ps_set (i := 2) sc__law_names.nd rfl (by first | exact Or.inl rfl | exact Or.inr rfl) (pe_lst (pa_cons pe_str (pa_cons pe_str (pa_cons pe_str (pa_cons pe_str (pa_cons pe_str (pa_cons pe_str (pa_cons pe_str (pa_cons pe_str (pa_cons pe_str (pa_cons pe_str (pa_cons pe_str (pa_cons pe_str pa_nil))))))))))))))
      (pss_cons (ps_asg (pe_tup (pa_cons pe_str (pa_cons (pe_lst (pa_cons pe_str (pa_cons pe_str (pa_cons pe_str (pa_cons pe_str (pa_cons pe_str pa_nil)))))) pa_nil))) (kg_tup (n := 2) K rfl (pgs_cons (pg_name (i := 3) sc__law_names.nd rfl (by first | exact Or.inl rfl | exact Or.inr rfl)) (pgs_cons (pg_name (i := 4) sc__law_names.nd rfl (by first | exact Or.inl rfl | exact Or.inr rfl)) pgs_nil))))
      (pss_cons (ps_for po rfl (pi_range1 (by rfl) T.nb_range (pa_cons (pv 1) pa_nil)) (pg_name (i := 5) sc__law_names.nd rfl (by first | exact Or.inl rfl | exact Or.inr rfl)) (pss_cons (ps_set (i := 6) sc__law_names.nd rfl (by first | exact Or.inl rfl | exact Or.inr rfl) (pe_callG Gp (hr.mono (by decide)) tk (pa_cons (pv 0) (pa_cons (pv 2) pa_nil)) pk_nil))
      (pss_cons (ps_if (pt_cmpR (ka_eq K hr.units) (pe_callG Gd (hr.mono (by decide)) tk (pa_cons (pv 0) (pa_cons pe_int pa_nil)) pk_nil) pe_int (nomark _)) (pss_one (ps_set (i := 6) sc__law_names.nd rfl (by first | exact Or.inl rfl | exact Or.inr rfl) (ke_join K pe_str (pe_lc (own := [("_law_sign", 10)]) (g := (gName 10)) (tt := tYes) rfl sc__law_names.nd (pi_range1 (by rfl) T.nb_range (pa_cons (pe_op (ka_add K) pe_int (pe_callG Gd (hr.mono (by decide)) tk (pa_cons (pv 0) (pa_cons pe_int pa_nil)) pk_nil)) pa_nil)) (blkOk_by (N := (["_law_state", "_law_count", "_law_own", "_law_letters", "_law_found", "_law_turn", "_law_word", "_law_some", "_law_letter", "_law_one", "_law_sign"] : List Str)) (sc := defScope s__law_names) (by decide +kernel)) (fun _ _ _ _ _ => (pg_name (i := 10) sc__law_names.nd rfl (by first | exact Or.inl rfl | exact Or.inr rfl))) (fun _ _ _ _ _ => pts_nil) (fun _ _ _ _ _ => (pe_callG Gp (hr.mono (by decide)) takes0 (pa_cons (pv 0) (pa_cons (pv 3) pa_nil)) pk_nil)))))) pss_nil)
      (pss_cons (ps_set (i := 7) sc__law_names.nd rfl (by first | exact Or.inl rfl | exact Or.inr rfl) (pe_op (ka_add K) (pe_lst (pa_cons (pv 6) pa_nil)) (pe_lc (own := [("_law_letter", 8)]) (g := (gName 8)) (tt := tYes) rfl sc__law_names.nd (pi_str (pv 3)) (blkOk_by (N := (["_law_state", "_law_count", "_law_own", "_law_letters", "_law_found", "_law_turn", "_law_word", "_law_some", "_law_letter", "_law_one", "_law_sign"] : List Str)) (sc := defScope s__law_names) (by decide +kernel)) (fun _ _ _ _ _ => (pg_name (i := 8) sc__law_names.nd rfl (by first | exact Or.inl rfl | exact Or.inr rfl))) (fun _ _ _ _ _ => pts_nil) (fun _ _ _ _ _ => (pe_op (ka_add K) (pe_slice (ka_sl K) (pv 6) po_none (po_some pe_int)) (pv 8))))))
      (pss_one (ps_expr (pe_bm PySem.F.plainAttrs_list PySem.F.slot_list_append PySem.F.type_list_append mt_append (pv 4) (pa_cons (pe_ix (ka_ix K) (pe_lc (own := [("_law_one", 9)]) (g := (gName 9)) (tt := _) rfl sc__law_names.nd (ki_list K (pv 7)) (blkOk_by (N := (["_law_state", "_law_count", "_law_own", "_law_letters", "_law_found", "_law_turn", "_law_word", "_law_some", "_law_letter", "_law_one", "_law_sign"] : List Str)) (sc := defScope s__law_names) (by decide +kernel)) (fun _ _ _ _ _ => (pg_name (i := 9) sc__law_names.nd rfl (by first | exact Or.inl rfl | exact Or.inr rfl))) (fun _ _ _ _ _ => (pts_one (pt_cmpR (ka_ni K) (pv 9) (pv 4) (by first | exact nomark _ | rfl)))) (fun _ _ _ _ _ => (pv 9))) pe_int (fun _ _ => rfl)) pa_nil))))))))
      (pss_one (ps_ret (pe_slice (ka_sl K) (pv 4) (po_some pe_int) po_none)))))), ?_⟩
  walk_at "go"
  refine g_newL w (by walk_at "sz") fun o H1 no w1 => ?_
  walk_at "go"
  refine g_newL w1 (by walk_at "sz") fun fo H2 nf w2 => ?_
  walk_at "go"
  refine g_newL w2 (by walk_at "sz") fun tp H3 nt w3 => ?_
  refine ⟨tp, _, rfl, SqT.of (w3.get upd_same), rfl, ?_⟩
  replace w2 := w3.drop (Same.newG nt)
  walk_at "go"
  refine ⟨n, rfl, by omega, by omega, ?_⟩
  have hfo : fo ≠ o := fun z => by
    subst z
    rw [upd_same] at nf
    cases nf
  have nfG : G fo = none := (upd_nonne nf).1
  refine for_it itf_range (fun i σ' H' => ∃ t5 t6 t7, ∃ ns : List Str, σ' = [some (.ref a), some (.int n), some (.ref o), some (.str letters), some (.ref fo), t5, t6, t7, none, none, none] ∧ Wd (upd (upd G o (.lst (ownW.map V.str))) fo (.lst ((resv ++ ns).map V.str))) (RD a c) H' ∧ ns.length = i ∧ (∀ s ∈ ns, isNm s = true) ∧ (resv ++ ns).Nodup)
    ⟨none, none, none, [], rfl, w2, rfl, by simp, by decide +kernel⟩ (fun _ _ _ _ _ => True.intro) ?_ ?_
  · rintro i x σ' H' H'' hi ⟨t5, t6, t7, ns, rfl, w, hl, hn, hd⟩ ⟨rfl, rfl⟩
    have nfo : upd G o (.lst (ownW.map V.str)) fo = none := by
      rw [upd_ne hfo]
      exact nfG
    have ho : upd (upd G o (.lst (ownW.map V.str))) fo (.lst ((resv ++ ns).map V.str)) o = some (.lst (ownW.map V.str)) := upd_old upd_same nfo
    have hf : upd (upd G o (.lst (ownW.map V.str))) fo (.lst ((resv ++ ns).map V.str)) fo = some (.lst ((resv ++ ns).map V.str)) := upd_same
    have fin : ∀ s, s ∉ resv ++ ns → wordB s = true → ∀ Gx H3, Same (upd (upd G o (.lst (ownW.map V.str))) fo (.lst ((resv ++ ns).map V.str))) Gx → Wd (upd Gx fo (.lst ((resv ++ ns).map V.str ++ [.str s]))) (RD a c) H3 →
        ∃ ns' : List Str, Wd (upd (upd G o (.lst (ownW.map V.str))) fo (.lst ((resv ++ ns').map V.str))) (RD a c) H3 ∧ ns'.length = i + 1 ∧ (∀ s ∈ ns', isNm s = true) ∧ (resv ++ ns').Nodup := fun s hs hw Gx H3 e w3 => by
      refine ⟨ns ++ [s], ?_, by rw [List.length_append, hl]; rfl, fun z hz => ?_, ?_⟩
      · have : (resv ++ (ns ++ [s])).map V.str = (resv ++ ns).map V.str ++ [.str s] := by simp
        rw [this]
        have e2 := Same.upd2 (p := fo) (o := .lst ((resv ++ ns).map V.str ++ [.str s])) e
        rw [upd_upd] at e2
        exact w3.drop e2
      · rcases List.mem_append.mp hz with h | h
        · exact hn z h
        · rw [List.mem_singleton] at h
          subst h
          exact isNm_of hw fun q => hs (List.mem_append_left _ q)
      · rw [← List.append_assoc, List.nodup_append]
        refine ⟨hd, by simp, fun x hx y hy => ?_⟩
        rw [List.mem_singleton] at hy
        subst hy
        rintro rfl
        exact hs hx
    have hlen : (resv ++ ns).length ≤ 25 := by
      rw [List.length_append]
      show 5 + ns.length ≤ 25
      omega
    generalize resv ++ ns = found at *
    generalize upd (upd G o (.lst (ownW.map V.str))) fo (.lst (found.map V.str)) = G' at *
    walk_at "go"
    refine ⟨rfl, rfl, _, a, c, w, .inl ⟨o, ownW.map V.str, rfl, .inl (SqL.of ho), by decide, by decide, fun x H1 hx w1 => ?_⟩⟩
    obtain ⟨w0, hw0, rfl⟩ := List.mem_map.mp hx
    have hwd := ownW_ok w0 hw0
    walk_at "go"
    refine ⟨rfl, rfl, _, a, c, 3, rfl, w1, by decide, by decide, fun r H2 r0 r1 w2 => ?_⟩
    walk_at "go"
    refine g_eqS rfl ?_
    walk_at "go"
    refine iteD (fun h1 => ?_) (fun h1 => ?_)
    · walk_at "go"
      refine ⟨rfl, rfl, _, a, c, 8, rfl, w2, by decide, by decide, fun q H4 q0 q1 w4 => ?_⟩
      walk_at "go"
      refine ⟨1 + q, rfl, by omega, by omega, ?_⟩
      refine lc_it itf_range w4 (fun _ _ => True.intro) (by rw [sizeLine_eq]; omega) (fun i _ acc => ∃ cs : List Nat, acc = (cs.map chS).map V.str ∧ cs.length = i ∧ ∀ c ∈ cs, c ∈ letters.cps.toList) ⟨[], rfl, rfl, by simp⟩ ?_ ?_
      · rintro j x Gi acc D H5 H5' hj e nD ⟨cs, rfl, hcl, hcs⟩ hl2 w5 ⟨rfl, rfl⟩
        walk_at "go"
        refine ⟨rfl, ?_⟩
        walk_at "go"
        refine ⟨rfl, rfl, _, a, c, w5, .inr ⟨letters, rfl, by decide, by decide, fun ch H6 hch w6 => ?_⟩⟩
        exact lc_keep (Pv := fun i _ acc => ∃ cs : List Nat, acc = (cs.map chS).map V.str ∧ cs.length = i ∧ ∀ c ∈ cs, c ∈ letters.cps.toList) w6 e nD hl2 hj (by rw [sizeLine_eq]; omega) ⟨cs ++ [ch], by simp [chS], by simp [hcl], fun z hz => by
          rcases List.mem_append.mp hz with h | h
          · exact hcs z h
          · rw [List.mem_singleton] at h
            rw [h]
            exact hch⟩
      rintro D Gn acc H5 e nD ⟨cs, rfl, hcl, hcs⟩ hl2 w5
      have hb : (((cs.map chS).map (·.length)).sum + (cs.map chS).length * (Str.length "")) ≤ 16777216 := by
        have : (cs.map chS).map (·.length) = cs.map fun _ => 1 := by
          rw [List.map_map]
          rfl
        rw [this, List.length_map]
        have e0 : Str.length "" = 0 := rfl
        rw [e0, Nat.mul_zero, Nat.add_zero]
        have : ∀ l : List Nat, (l.map fun _ => 1).sum = l.length := fun l => by
          induction l with
          | nil => rfl
          | cons a r ih => rw [List.map_cons, List.sum_cons, ih, List.length_cons]; omega
        rw [this]
        omega
      refine g_join w5 (SqL.of upd_same) hb ?_
      rw [join_chS]
      have hwd := word_of (cs := cs) (by omega) (by omega) hcs
      generalize (⟨cs.toArray⟩ : Str) = w0 at *
      have w2 := w5.drop (Same.trans e (Same.newG nD))
      walk_at "go"
      refine g_newL w2 (by walk_at "sz") fun p1 H6 n1 w6 => ?_
      walk_at "go"
      refine ⟨letters, rfl, ?_⟩
      refine lc_it itf_str w6 (fun _ _ => True.intro) (by rw [sizeLine_eq]; decide) (fun i _ acc => acc = ((letters.cps.toList.take i).map fun c => cutS w0 none (some 7) ++ chS c).map V.str) rfl ?_ ?_
      · rintro j x Gi acc D H7 H7' hj e nD ha hl2 w7 ⟨rfl, ch, hc, rfl⟩
        have hlw : w0.length ≤ 8 := by
          unfold wordB at hwd
          simp only [Bool.and_eq_true, decide_eq_true_eq] at hwd
          exact hwd.1.2
        walk_at "go"
        refine ⟨rfl, ?_⟩
        walk_at "go"
        refine g_slS (by rw [sizeLine_eq]; exact Nat.le_trans hlw (by decide)) ?_
        walk_at "go"
        refine g_addS (by have := cutS_length w0 none (some 7); have h1 : (⟨#[ch]⟩ : Str).length = 1 := rfl; rw [sizeLine_eq, h1]; omega) ?_
        refine lc_keep (Pv := fun i _ acc => acc = ((letters.cps.toList.take i).map fun c => cutS w0 none (some 7) ++ chS c).map V.str) w7 e nD hl2 hj (by rw [sizeLine_eq]; decide) ?_
        have hc' : letters.cps.toList[j]? = some ch := by simpa using hc
        rw [ha, List.take_add_one, hc']
        simp [chS]
      rintro D7 G7 acc7 H7 e7 nD7 rfl hl7 w7
      rw [show letters.cps.size = letters.cps.toList.length by simp, List.take_length] at w7
      refine g_addL w7 (upd_old (e7 _ _ upd_same) nD7) upd_same (by rw [sizeLine_eq, List.length_map, List.length_map]; show 1 + letters.cps.toList.length ≤ _; rw [show letters.cps.toList.length = 26 from by decide +kernel]; decide) fun p2 H8 n8 w8 => ?_
      have ecd : [V.str w0] ++ ((letters.cps.toList.map fun c => cutS w0 none (some 7) ++ chS c).map V.str) = (cands w0).map V.str := rfl
      rw [ecd] at w8
      have hlc : (cands w0).length = 27 := by
        unfold cands
        rw [List.length_cons, List.length_map]
        rfl
      have s8 : Same G' (upd (upd G7 D7 (.lst ((letters.cps.toList.map fun c => cutS w0 none (some 7) ++ chS c).map V.str))) p2 (.lst ((cands w0).map V.str))) := Same.trans (Same.trans (Same.trans (Same.newG n1) e7) (Same.newG nD7)) (Same.newG n8)
      have hp2 : (upd (upd G7 D7 (.lst ((letters.cps.toList.map fun c => cutS w0 none (some 7) ++ chS c).map V.str))) p2 (.lst ((cands w0).map V.str))) p2 = some (.lst ((cands w0).map V.str)) := upd_same
      generalize (upd (upd G7 D7 (.lst ((letters.cps.toList.map fun c => cutS w0 none (some 7) ++ chS c).map V.str))) p2 (.lst ((cands w0).map V.str))) = G8 at *
      walk_at "go"
      refine ⟨.inl ⟨rfl, _, SqL.of (w8.get (s8 _ _ hf))⟩, ?_⟩
      walk_at "go"
      refine ⟨p2, rfl, ⟨_, SqL.of (w8.get hp2)⟩, ?_⟩
      refine lc_it (itf_list (xs := (cands w0).map V.str)) w8 (fun H' e => SqL.of (e _ _ hp2)) (by rw [sizeLine_eq, List.length_map, hlc]; decide) (fun i _ acc => acc = (((cands w0).take i).filter fun s => decide (s ∉ found)).map V.str) rfl ?_ ?_
      · rintro j x Gi acc D H9 H9' hj e nD ha hl2 w9 ⟨rfl, hx⟩
        obtain ⟨s, rfl, hs⟩ := getStr hx
        walk_at "go"
        refine ⟨rfl, ?_⟩
        walk_at "go"
        refine g_niL w9 (SqL.of (upd_old (e _ _ (s8 _ _ hf)) nD)) rfl (by rw [List.all_map]; exact List.all_eq_true.mpr fun _ _ => rfl) ?_
        rw [inV_str]
        have ht : ((cands w0).take (j + 1)).filter (fun s => decide (s ∉ found)) = ((cands w0).take j).filter (fun s => decide (s ∉ found)) ++ (if s ∉ found then [s] else []) := by
          rw [List.take_add_one, hs, List.filter_append]
          congr 1
          by_cases q : s ∈ found <;> simp [q]
        walk_at "go"
        refine iteN (fun h3 => ?_) (fun h3 => ?_)
        · walk_at "go"
          refine lc_keep (Pv := fun i _ acc => acc = (((cands w0).take i).filter fun s => decide (s ∉ found)).map V.str) w9 e nD hl2 hj (by rw [sizeLine_eq, List.length_map, hlc]; decide) ?_
          rw [ht, if_pos h3, ha, List.map_append]
          rfl
        · refine lc_drop (Pv := fun i _ acc => acc = (((cands w0).take i).filter fun s => decide (s ∉ found)).map V.str) w9 e nD hl2 ?_
          rw [ht, if_neg (fun q => q h3), ha, List.append_nil]
      rintro D9 G9 acc9 H9 e9 nD9 rfl hl9 w9
      rw [List.length_map, List.take_length] at w9
      cases hfil : (cands w0).filter (fun s => decide (s ∉ found)) with
      | nil => exact absurd hfil (cands_free w0 hlen)
      | cons s r =>
        have hsm : s ∈ (cands w0).filter (fun s => decide (s ∉ found)) := by rw [hfil]; exact List.mem_cons_self
        rw [List.mem_filter, decide_eq_true_eq] at hsm
        rw [hfil] at w9
        walk_at "go"
        refine g_ixL w9 (SqL.of upd_same) (v := .str s) (atI_nat (j := 0) rfl) ?_
        walk_at "go"
        refine g_app w9 (upd_old (e9 _ _ (s8 _ _ hf)) nD9) (by rw [sizeLine_eq, List.length_map]; omega) fun H10 w10 => ?_
        obtain ⟨ns', q1, q2, q3, q4⟩ := fin s hsm.2 (cands_word hwd hsm.1) _ H10 (Same.trans (Same.trans s8 e9) (Same.newG nD9)) w10
        walk_at "go"
        exact ⟨_, _, _, ns', rfl, q1, q2, q3, q4⟩
    · walk_at "go"
      refine g_newL w2 (by walk_at "sz") fun p1 H6 n1 w6 => ?_
      walk_at "go"
      refine ⟨letters, rfl, ?_⟩
      refine lc_it itf_str w6 (fun _ _ => True.intro) (by rw [sizeLine_eq]; decide) (fun i _ acc => acc = ((letters.cps.toList.take i).map fun c => cutS w0 none (some 7) ++ chS c).map V.str) rfl ?_ ?_
      · rintro j x Gi acc D H7 H7' hj e nD ha hl2 w7 ⟨rfl, ch, hc, rfl⟩
        have hlw : w0.length ≤ 8 := by
          unfold wordB at hwd
          simp only [Bool.and_eq_true, decide_eq_true_eq] at hwd
          exact hwd.1.2
        walk_at "go"
        refine ⟨rfl, ?_⟩
        walk_at "go"
        refine g_slS (by rw [sizeLine_eq]; exact Nat.le_trans hlw (by decide)) ?_
        walk_at "go"
        refine g_addS (by have := cutS_length w0 none (some 7); have h1 : (⟨#[ch]⟩ : Str).length = 1 := rfl; rw [sizeLine_eq, h1]; omega) ?_
        refine lc_keep (Pv := fun i _ acc => acc = ((letters.cps.toList.take i).map fun c => cutS w0 none (some 7) ++ chS c).map V.str) w7 e nD hl2 hj (by rw [sizeLine_eq]; decide) ?_
        have hc' : letters.cps.toList[j]? = some ch := by simpa using hc
        rw [ha, List.take_add_one, hc']
        simp [chS]
      rintro D7 G7 acc7 H7 e7 nD7 rfl hl7 w7
      rw [show letters.cps.size = letters.cps.toList.length by simp, List.take_length] at w7
      refine g_addL w7 (upd_old (e7 _ _ upd_same) nD7) upd_same (by rw [sizeLine_eq, List.length_map, List.length_map]; show 1 + letters.cps.toList.length ≤ _; rw [show letters.cps.toList.length = 26 from by decide +kernel]; decide) fun p2 H8 n8 w8 => ?_
      have ecd : [V.str w0] ++ ((letters.cps.toList.map fun c => cutS w0 none (some 7) ++ chS c).map V.str) = (cands w0).map V.str := rfl
      rw [ecd] at w8
      have hlc : (cands w0).length = 27 := by
        unfold cands
        rw [List.length_cons, List.length_map]
        rfl
      have s8 : Same G' (upd (upd G7 D7 (.lst ((letters.cps.toList.map fun c => cutS w0 none (some 7) ++ chS c).map V.str))) p2 (.lst ((cands w0).map V.str))) := Same.trans (Same.trans (Same.trans (Same.newG n1) e7) (Same.newG nD7)) (Same.newG n8)
      have hp2 : (upd (upd G7 D7 (.lst ((letters.cps.toList.map fun c => cutS w0 none (some 7) ++ chS c).map V.str))) p2 (.lst ((cands w0).map V.str))) p2 = some (.lst ((cands w0).map V.str)) := upd_same
      generalize (upd (upd G7 D7 (.lst ((letters.cps.toList.map fun c => cutS w0 none (some 7) ++ chS c).map V.str))) p2 (.lst ((cands w0).map V.str))) = G8 at *
      walk_at "go"
      refine ⟨.inl ⟨rfl, _, SqL.of (w8.get (s8 _ _ hf))⟩, ?_⟩
      walk_at "go"
      refine ⟨p2, rfl, ⟨_, SqL.of (w8.get hp2)⟩, ?_⟩
      refine lc_it (itf_list (xs := (cands w0).map V.str)) w8 (fun H' e => SqL.of (e _ _ hp2)) (by rw [sizeLine_eq, List.length_map, hlc]; decide) (fun i _ acc => acc = (((cands w0).take i).filter fun s => decide (s ∉ found)).map V.str) rfl ?_ ?_
      · rintro j x Gi acc D H9 H9' hj e nD ha hl2 w9 ⟨rfl, hx⟩
        obtain ⟨s, rfl, hs⟩ := getStr hx
        walk_at "go"
        refine ⟨rfl, ?_⟩
        walk_at "go"
        refine g_niL w9 (SqL.of (upd_old (e _ _ (s8 _ _ hf)) nD)) rfl (by rw [List.all_map]; exact List.all_eq_true.mpr fun _ _ => rfl) ?_
        rw [inV_str]
        have ht : ((cands w0).take (j + 1)).filter (fun s => decide (s ∉ found)) = ((cands w0).take j).filter (fun s => decide (s ∉ found)) ++ (if s ∉ found then [s] else []) := by
          rw [List.take_add_one, hs, List.filter_append]
          congr 1
          by_cases q : s ∈ found <;> simp [q]
        walk_at "go"
        refine iteN (fun h3 => ?_) (fun h3 => ?_)
        · walk_at "go"
          refine lc_keep (Pv := fun i _ acc => acc = (((cands w0).take i).filter fun s => decide (s ∉ found)).map V.str) w9 e nD hl2 hj (by rw [sizeLine_eq, List.length_map, hlc]; decide) ?_
          rw [ht, if_pos h3, ha, List.map_append]
          rfl
        · refine lc_drop (Pv := fun i _ acc => acc = (((cands w0).take i).filter fun s => decide (s ∉ found)).map V.str) w9 e nD hl2 ?_
          rw [ht, if_neg (fun q => q h3), ha, List.append_nil]
      rintro D9 G9 acc9 H9 e9 nD9 rfl hl9 w9
      rw [List.length_map, List.take_length] at w9
      cases hfil : (cands w0).filter (fun s => decide (s ∉ found)) with
      | nil => exact absurd hfil (cands_free w0 hlen)
      | cons s r =>
        have hsm : s ∈ (cands w0).filter (fun s => decide (s ∉ found)) := by rw [hfil]; exact List.mem_cons_self
        rw [List.mem_filter, decide_eq_true_eq] at hsm
        rw [hfil] at w9
        walk_at "go"
        refine g_ixL w9 (SqL.of upd_same) (v := .str s) (atI_nat (j := 0) rfl) ?_
        walk_at "go"
        refine g_app w9 (upd_old (e9 _ _ (s8 _ _ hf)) nD9) (by rw [sizeLine_eq, List.length_map]; omega) fun H10 w10 => ?_
        obtain ⟨ns', q1, q2, q3, q4⟩ := fin s hsm.2 (cands_word hwd hsm.1) _ H10 (Same.trans (Same.trans s8 e9) (Same.newG nD9)) w10
        walk_at "go"
        exact ⟨_, _, _, ns', rfl, q1, q2, q3, q4⟩
  · rintro σ' H' ⟨t5, t6, t7, ns, rfl, w, hl, hn, hd⟩
    walk_at "go"
    have hf : upd (upd G o (.lst (ownW.map V.str))) fo (.lst ((resv ++ ns).map V.str)) fo = some (.lst ((resv ++ ns).map V.str)) := upd_same
    refine g_slL w (SqL.of hf) fun p H1 np w1 => ?_
    have ec : cutV ((resv ++ ns).map V.str) (some 5) none = ns.map V.str := by
      unfold cutV
      have h1 : HT.sIx ((resv ++ ns).map V.str).length 0 (some 5) = min 5 ((resv ++ ns).map V.str).length := HT.sIx_nat _ _ 5
      have h2 : HT.sIx ((resv ++ ns).map V.str).length ((resv ++ ns).map V.str).length none = ((resv ++ ns).map V.str).length := rfl
      have hl5 : ((resv ++ ns).map V.str).length = 5 + ns.length := by
        rw [List.length_map, List.length_append]
        rfl
      rw [h1, h2, hl5, Nat.min_eq_left (by omega), List.map_append]
      show (ns.map V.str).take _ = _
      rw [List.take_of_length_le (by rw [List.length_map]; omega)]
    rw [ec] at w1
    have np1 := upd_nonne np
    refine k p H1 ns hl hn (List.nodup_append.mp hd).2.1 (upd_nonne np1.1).1 (w1.drop (Same.upd2 (Same.trans (Same.newG no) (Same.newG nf))))
end
end Sv


set_option Elab.async false
set_option linter.all false
set_option maxRecDepth 100000
set_option maxHeartbeats 4000000
namespace Sv
open PySem PySem.Spec PyProof.Rows L2 Sw
local macro_rules | `(tactic| walk_at "go1") => `(tactic| first
  | ((with_reducible refine' g_var ?hv ?_); (case hv => rfl))
  | with_reducible refine g_c ?_
  | with_reducible refine g_op ?_
  | with_reducible refine g_un ?_
  | with_reducible refine g_seq ?_
  | with_reducible refine g_next ?_
  | with_reducible refine g_asg ?_
  | with_reducible refine g_name ?_
  | with_reducible refine g_drop ?_
  | with_reducible refine g_sub ?_
  | with_reducible refine g_ret ?_
  | with_reducible refine g_retN ?_
  | with_reducible refine g_ifS ?_
  | with_reducible refine g_if ?_
  | with_reducible refine g_test ?_
  | with_reducible refine g_bl ?_
  | with_reducible refine g_cons ?_
  | with_reducible refine g_nil ?_
  | with_reducible refine g_and ?_
  | with_reducible refine g_or ?_
  | with_reducible refine g_not ?_
  | with_reducible refine g_callB ?_
  | with_reducible refine g_addI ?_
  | with_reducible refine g_I0 ?_
  | with_reducible refine g_calG ?_
  | with_reducible refine g_mkG ?_
  | with_reducible refine g_tup ?_
  | with_reducible refine g_lst ?_
  | with_reducible refine g_forL ?_
  | with_reducible refine g_forR ?_
  | with_reducible refine g_forR2 ?_
  | with_reducible refine g_forS ?_
  | with_reducible refine g_forE ?_
  | with_reducible refine g_lcL ?_
  | with_reducible refine g_lcR ?_
  | with_reducible refine g_lcS ?_
  | with_reducible refine g_lcE ?_
  | with_reducible refine g_orT ?_
  | with_reducible refine g_slc ?_
  | with_reducible refine g_noPart ?_
  | with_reducible refine g_part ?_
  | with_reducible refine g_bm ?_
  | with_reducible refine g_par ?_
  | with_reducible refine g_yes ?_
  | with_reducible refine g_tupG ?_
  | with_reducible refine g_gcons ?_
  | with_reducible refine g_gnil ?_
  | with_reducible refine g_chain ?_
  | with_reducible refine g_truB ?_
  | with_reducible refine g_truN ?_
  | with_reducible refine g_truI ?_
  | with_reducible refine g_m1 ?_
  | with_reducible refine g_fld ?_
  | with_reducible refine g_con ?_
  | with_reducible refine g_tru ?_
  | with_reducible refine g_U ?_
  | with_reducible refine g_xg ?_
  | with_reducible refine g_andT ?_
  | with_reducible refine g_exI ?_
  | with_reducible refine g_dnew ?_
  | with_reducible refine g_intB ?_
  | with_reducible refine g_meth ?_
  | with_reducible refine g_prop ?_
  | with_reducible refine g_exc1 ?_
  | with_reducible refine g_setF ?_
  | with_reducible refine g_star ?_
  | with_reducible refine g_strM ?_
  | with_reducible refine iteT ?_
  | with_reducible refine iteF ?_
  | with_reducible refine iteNT ?_
  | with_reducible refine iteNF ?_)
local macro_rules | `(tactic| walk_at "go") => `(tactic| repeat (walk_at "go1"))
local macro_rules | `(tactic| walk_at "sz") => `(tactic| (first | (rw [sizeLine_eq]; simp only [List.length_cons, List.length_nil, List.length_map, List.length_append, List.length_take]; omega) | (rw [sizeLine_eq]; omega)))
section
variable {P : Program} {wo : World} {A : Ad} {K : PySem.W.Frag} {mg : Str → Option Value} {base : Heap}

theorem eqVs_nil (l : List Str) : eqVs (l.map V.str) [] = decide (l = []) := by
  cases l <;> rfl
theorem iteAnd {b1 b2 : Bool} {A B : Prop} (h1 : b1 = true → b2 = true → A) (h2 : ¬ (b1 = true ∧ b2 = true) → B) : if (b1 && b2) = true then A else B := by
  cases b1 <;> cases b2
  · exact iteF (h2 (fun z => by cases z.1))
  · exact iteF (h2 (fun z => by cases z.1))
  · exact iteF (h2 (fun z => by cases z.2))
  · exact iteT (h1 rfl rfl)
theorem filter_one {α : Type} {p : α → Prop} [DecidablePred p] (c : α) : [c].filter (fun c => decide (p c)) = if p c then [c] else [] := by
  by_cases h : p c
  · rw [if_pos h, List.filter_cons_of_pos (by exact decide_eq_true h)]
    rfl
  · rw [if_neg h, List.filter_cons_of_neg (by rw [decide_eq_false h]; exact Bool.false_ne_true)]
    rfl
theorem bad_nil (l L : List Nat) : decide (((l.filter fun c => decide (c ∉ L)).map chS) = []) = l.all fun c => decide (c ∈ L) := by
  apply Bool.eq_iff_iff.mpr
  rw [decide_eq_true_eq, List.map_eq_nil_iff, List.filter_eq_nil_iff, List.all_eq_true]
  constructor
  · intro h x hx
    have := h x hx
    rw [decide_eq_true_eq] at this
    exact decide_eq_true (Classical.not_not.mp this)
  · intro h x hx
    rw [decide_eq_true_eq]
    exact Classical.not_not.mpr (of_decide_eq_true (h x hx))
def spLName : Sp := fun vs H Q _ => ∃ G R s, vs = [.str s] ∧ Wd G R H ∧ s.length ≤ 1000000 ∧ ∀ H', Wd G R H' → Q (.bl (isNm s)) H'
theorem sc__law_is_name : FnScope (["_law_word", "_law_sign"] : List Str) (["_law_word"] : List Str) (defScope s__law_is_name) := ⟨rfl, rfl, rfl, by decide +kernel, rfl, by decide +kernel, by decide +kernel⟩
theorem ok_lname {f : Addr} {fd : FuncData} (F : Fun K "_law_is_name" "_law_is_name" s__law_is_name f fd) (T : Txt K mg A) : FnOk P wo K mg base (L2.CX P wo) 1 f fd (["_law_word"] : List Str) spLName := by
  refine okT F sc__law_is_name (fun vs H Q E h => ?_) (fun cdv Ar outer s H vs Q E hr tk po h => ?_)
  · obtain ⟨_, _, _, rfl, _⟩ := h
    rfl
  obtain ⟨G, R, z, rfl, w, hz, k⟩ := h
  refine ⟨_, (pss_cons (ps_if (PW.pt (pw_or (pt_not (pt_chain op_lt op_lt pe_int (pe_callB (ka_len K) (by rfl) T.nb_len (by decide +kernel) (pa_cons (pv 0) pa_nil)) pe_int)) (pw_or1 (pt_cmpR (ka_in K) (pv 0) (pe_tup (pa_cons pe_str (pa_cons pe_str (pa_cons pe_str (pa_cons pe_str (pa_cons pe_str pa_nil)))))) (by first | exact nomark _ | rfl))))) (pss_one (ps_ret pe_bl)) pss_nil)
      (pss_one (ps_ret (pe_cmpR (ka_eq K hr.units) (pe_lc (own := [("_law_sign", 1)]) (g := (gName 1)) (tt := _) rfl sc__law_is_name.nd (pi_str (pv 0)) (blkOk_by (N := (["_law_word", "_law_sign"] : List Str)) (sc := defScope s__law_is_name) (by decide +kernel)) (fun _ _ _ _ _ => (pg_name (i := 1) sc__law_is_name.nd rfl (by first | exact Or.inl rfl | exact Or.inr rfl))) (fun _ _ _ _ _ => (pts_one (pt_cmpR (ka_ni K) (pv 1) pe_str (by first | exact nomark _ | rfl)))) (fun _ _ _ _ _ => (pv 1))) (pe_lst pa_nil) (nomark _))))), ?_⟩
  have hz' : z.length ≤ sizeLine := by rw [sizeLine_eq]; omega
  have res : isNm z = (decide (1 ≤ z.length) && decide (z.length ≤ 8) && !inV (.str z) (resv.map V.str) && lowS z) := rfl
  walk_at "go"
  refine g_lenS hz' ?_
  walk_at "go"
  have i1 : decide ((0 : Int) < (z.length : Int)) = decide (1 ≤ z.length) := decide_eq_decide.mpr (by omega)
  have i2 : decide ((z.length : Int) < 9) = decide (z.length ≤ 8) := decide_eq_decide.mpr (by omega)
  have no : ∀ H', Wd G R H' → isNm z = false → Q (.bl false) H' := fun H' w' e => by
    have := k H' w'
    rw [e] at this
    exact this
  rw [i1]
  refine iteD (fun h1 => ?_) (fun h1 => ?_)
  · walk_at "go"
    rw [i2]
    refine iteN (fun h2 => ?_) (fun h2 => ?_)
    · walk_at "go"
      exact no _ w (by rw [res, decide_eq_false h2, Bool.and_false]; rfl)
    walk_at "go"
    refine g_newL w (by walk_at "sz") fun p H1 n1 w1 => ?_
    refine g_inT w1 (SqT.of upd_same) rfl rfl ?_
    have w2 := w1.drop (Same.newG n1)
    show ∃ b, V.bl (inV (.str z) (resv.map V.str)) = .bl b ∧ _
    refine ⟨_, rfl, ?_⟩
    refine iteB (fun h3 => ?_) (fun h3 => ?_)
    · walk_at "go"
      exact no _ w2 (by rw [res, h3, Bool.not_true, Bool.and_false]; rfl)
    walk_at "go"
    refine ⟨z, rfl, ?_⟩
    refine lc_it itf_str w2 (fun _ _ => True.intro) hz' (fun i _ acc => acc = (((z.cps.toList.take i).filter fun c => decide (c ∉ letters.cps.toList)).map chS).map V.str) rfl ?_ ?_
    · rintro i x Gi acc D H2 H2' hi e nD ha hl2 w2 ⟨rfl, c, hc, rfl⟩
      have hc' : z.cps.toList[i]? = some c := by simpa using hc
      have ht : ((z.cps.toList.take (i + 1)).filter fun c => decide (c ∉ letters.cps.toList)) = ((z.cps.toList.take i).filter fun c => decide (c ∉ letters.cps.toList)) ++ (if c ∉ letters.cps.toList then [c] else []) := by
        rw [List.take_add_one, hc', List.filter_append]
        congr 1
        exact filter_one (p := fun c => c ∉ letters.cps.toList) c
      walk_at "go"
      refine ⟨rfl, ?_⟩
      walk_at "go"
      refine g_niSg ?_
      walk_at "go"
      show if (!decide (c ∈ letters.cps.toList)) = true then _ else _
      refine iteN (fun h4 => ?_) (fun h4 => ?_)
      · walk_at "go"
        refine lc_keep (Pv := fun i _ acc => acc = (((z.cps.toList.take i).filter fun c => decide (c ∉ letters.cps.toList)).map chS).map V.str) w2 e nD hl2 hi hz' ?_
        rw [ht, if_pos h4, ha, List.map_append, List.map_append]
        rfl
      · refine lc_drop (Pv := fun i _ acc => acc = (((z.cps.toList.take i).filter fun c => decide (c ∉ letters.cps.toList)).map chS).map V.str) w2 e nD hl2 ?_
        rw [ht, if_neg (fun q => q h4), ha, List.append_nil]
    · rintro D Gn acc H2 e nD rfl hl2 w2
      rw [show z.cps.size = z.cps.toList.length by simp, List.take_length] at w2
      walk_at "go"
      refine g_newL w2 (by walk_at "sz") fun p2 H3 n3 w3 => ?_
      refine g_eqF w3 (SqL.of (upd_old upd_same n3)) (SqL.of upd_same) (by rw [List.all_map]; exact List.all_eq_true.mpr fun _ _ => rfl) rfl ?_
      rw [eqVs_nil]
      have er : decide (((z.cps.toList.filter fun c => decide (c ∉ letters.cps.toList)).map chS) = []) = isNm z := by
        rw [bad_nil, res, decide_eq_true h1, decide_eq_true h2, h3]
        rfl
      rw [er]
      exact k _ (w3.drop (Same.trans (Same.trans e (Same.newG nD)) (Same.newG n3)))
  · walk_at "go"
    exact no _ w (by rw [res, decide_eq_false h1]; rfl)

/-! ### _law_is_text -/
def isTextP (ws : List Str) : Prop :=
  (wAt ws 0 = "ref" ∧ isNm (wAt ws 1) = true ∧ isNm (wAt ws 2) = true ∧ ((ws.length = 4 ∧ wAt ws 3 ∈ (["restrict", "cascade"] : List Str)) ∨ (ws.length = 5 ∧ wAt ws 3 = "optional" ∧ wAt ws 4 ∈ (["restrict", "cascade", "clear"] : List Str)))) ∨
  (wAt ws 0 ≠ "ref" ∧ wAt ws 0 ∈ (["int", "text"] : List Str) ∧ isNm (wAt ws 1) = true ∧ (ws.length = 2 ∨ (ws.length = 3 ∧ wAt ws 2 = "optional")))
def spLText : Sp := fun vs H Q _ => ∃ G R s, vs = [.str s] ∧ Wd G R H ∧ s.length ≤ 1000000 ∧ ∀ b H', (b = true ↔ isTextP (Txt.split s " ")) → Wd G R H' → Q (.bl b) H'
theorem sc__law_is_text : FnScope (["_law_text", "_law_words"] : List Str) (["_law_text"] : List Str) (defScope s__law_is_text) := ⟨rfl, rfl, rfl, by decide +kernel, rfl, by decide +kernel, by decide +kernel⟩
theorem ok_ltext {f : Addr} {fd : FuncData} (F : Fun K "_law_is_text" "_law_is_text" s__law_is_text f fd) (T : Txt K mg A) (Gln : GFn P wo K mg base 1 "_law_is_name" 1 [] (fun vs _ => spLName vs)) : FnOk P wo K mg base (L2.CX P wo) 2 f fd (["_law_text"] : List Str) spLText := by
  refine okT F sc__law_is_text (fun vs H Q E h => ?_) (fun cdv Ar outer s H vs Q E hr tk po h => ?_)
  · obtain ⟨_, _, _, rfl, _⟩ := h
    rfl
  obtain ⟨G, R, z, rfl, w, hz, k⟩ := h
  refine ⟨_, (pss_cons (ps_set (i := 1) sc__law_is_text.nd rfl (by first | exact Or.inl rfl | exact Or.inr rfl) (ke_split (pv 0) pe_str))
      (pss_cons (ps_if (pt_cmpR (ka_eq K hr.units) (pe_ix (ka_ix K) (pv 1) pe_int (fun _ _ => rfl)) pe_str (nomark _)) (pss_cons (ps_if (PW.pt (pw_or (pt_cmpR (ka_ni K) (pe_callB (ka_len K) (by rfl) T.nb_len (by decide +kernel) (pa_cons (pv 1) pa_nil)) (pe_tup (pa_cons pe_int (pa_cons pe_int pa_nil))) (by first | exact nomark _ | rfl)) (pw_or (pt_not (kt_truth K (pe_callG Gln (hr.mono (by decide)) tk (pa_cons (pe_ix (ka_ix K) (pv 1) pe_int (fun _ _ => rfl)) pa_nil) pk_nil) (by intro _; rfl))) (pw_or1 (pt_not (kt_truth K (pe_callG Gln (hr.mono (by decide)) tk (pa_cons (pe_ix (ka_ix K) (pv 1) pe_int (fun _ _ => rfl)) pa_nil) pk_nil) (by intro _; rfl))))))) (pss_one (ps_ret pe_bl)) pss_nil)
      (pss_cons (ps_if (pt_cmpR (ka_eq K hr.units) (pe_callB (ka_len K) (by rfl) T.nb_len (by decide +kernel) (pa_cons (pv 1) pa_nil)) pe_int (nomark _)) (pss_one (ps_ret (pe_cmpR (ka_in K) (pe_ix (ka_ix K) (pv 1) pe_int (fun _ _ => rfl)) (pe_tup (pa_cons pe_str (pa_cons pe_str pa_nil))) (by first | exact nomark _ | rfl)))) pss_nil)
      (pss_one (ps_ret (ke_andT K (pe_cmpR (ka_eq K hr.units) (pe_ix (ka_ix K) (pv 1) pe_int (fun _ _ => rfl)) pe_str (nomark _)) (pe_one (pe_cmpR (ka_in K) (pe_ix (ka_ix K) (pv 1) pe_int (fun _ _ => rfl)) (pe_tup (pa_cons pe_str (pa_cons pe_str (pa_cons pe_str pa_nil)))) (by first | exact nomark _ | rfl)))))))) pss_nil)
      (pss_cons (ps_if (PW.pt (pw_or (pt_cmpR (ka_ni K) (pe_ix (ka_ix K) (pv 1) pe_int (fun _ _ => rfl)) (pe_tup (pa_cons pe_str (pa_cons pe_str pa_nil))) (by first | exact nomark _ | rfl)) (pw_or (pt_cmpR (ka_ni K) (pe_callB (ka_len K) (by rfl) T.nb_len (by decide +kernel) (pa_cons (pv 1) pa_nil)) (pe_tup (pa_cons pe_int (pa_cons pe_int pa_nil))) (by first | exact nomark _ | rfl)) (pw_or1 (pt_not (kt_truth K (pe_callG Gln (hr.mono (by decide)) tk (pa_cons (pe_ix (ka_ix K) (pv 1) pe_int (fun _ _ => rfl)) pa_nil) pk_nil) (by intro _; rfl))))))) (pss_one (ps_ret pe_bl)) pss_nil)
      (pss_one (ps_ret (ke_orT K (pe_cmpR (ka_eq K hr.units) (pe_callB (ka_len K) (by rfl) T.nb_len (by decide +kernel) (pa_cons (pv 1) pa_nil)) pe_int (nomark _)) (pe_one (pe_cmpR (ka_eq K hr.units) (pe_ix (ka_ix K) (pv 1) pe_int (fun _ _ => rfl)) pe_str (nomark _))))))))), ?_⟩
  walk_at "go"
  refine g_split w (by decide) (by rw [sizeLine_eq]; omega) fun p H1 n1 w1 => ?_
  have hp : upd G p (.lst ((Txt.split z " ").map V.str)) p = some (.lst ((Txt.split z " ").map V.str)) := upd_same
  have back : ∀ {H'}, Wd (upd G p (.lst ((Txt.split z " ").map V.str))) R H' → Wd G R H' := fun w' => w'.drop (Same.newG n1)
  have hne := split_ne z
  have hl : ∀ y ∈ Txt.split z " ", y.length ≤ 1000000 := fun y hy => Nat.le_trans (word_len hy) hz
  generalize Txt.split z " " = ws at *
  generalize upd G p (.lst (ws.map V.str)) = G1 at *
  have n0 : 0 < ws.length := List.length_pos_iff.mpr hne
  have at_ : ∀ i : Nat, i < ws.length → atI (ws.map V.str) (i : Int) = some (.str (wAt ws i)) := fun i hi => atI_nat (by
    unfold wAt
    rw [List.getElem?_map, List.getElem?_eq_getElem hi, List.getD_eq_getElem?_getD, List.getElem?_eq_getElem hi]
    rfl)
  have lens : ∀ i, (wAt ws i).length ≤ 1000000 := fun i => by
    unfold wAt
    rw [List.getD_eq_getElem?_getD]
    cases q : ws[i]? with
    | none => show (0 : Nat) ≤ 1000000; decide
    | some z => exact hl z (List.mem_of_getElem? q)
  have txt : ∀ {a b : Str}, V.str a = V.str b → a = b := fun h => V.str.inj h
  have hs := SqL.of (K := K) hp
  have no : ∀ {H'}, Wd G1 R H' → ¬ isTextP ws → Q (.bl false) H' := fun w' q => k false _ ⟨fun z => Bool.noConfusion z, fun z => absurd z q⟩ (back w')
  walk_at "go"
  refine g_ixL w1 hs (at_ 0 n0) ?_
  walk_at "go"
  refine g_eqS rfl ?_
  walk_at "go"
  refine iteD (fun h1 => ?_) (fun h1 => ?_)
  · replace h1 := txt h1
    walk_at "go"
    refine g_lenL w1 hs ?_
    rw [List.length_map]
    walk_at "go"
    refine g_newL w1 (by walk_at "sz") fun p2 H2 n2 w2 => ?_
    refine g_niT w2 (SqT.of upd_same) rfl rfl ?_
    have w3 := w2.drop (Same.newG n2)
    rw [inV_two]
    walk_at "go"
    refine iteN (fun h2 => ?_) (fun h2 => ?_)
    · walk_at "go"
      refine no w3 fun q => h2 ?_
      rcases q with ⟨_, _, _, ⟨e, _⟩ | ⟨e, _⟩⟩ | ⟨e, _⟩
      · exact .inl (by rw [e]; rfl)
      · exact .inr (by rw [e]; rfl)
      · exact absurd h1 e
    have hl45 : ws.length = 4 ∨ ws.length = 5 := by omega
    walk_at "go"
    refine g_ixL w3 hs (at_ 1 (by omega)) ?_
    walk_at "go"
    refine ⟨rfl, rfl, _, R, _, rfl, w3, lens 1, fun H4 w4 => ?_⟩
    walk_at "go"
    refine iteBN (fun h3 => ?_) (fun h3 => ?_)
    · walk_at "go"
      refine no w4 fun q => ?_
      rcases q with ⟨_, e, _⟩ | ⟨e, _⟩
      · rw [h3] at e; cases e
      · exact absurd h1 e
    walk_at "go"
    refine g_ixL w4 hs (at_ 2 (by omega)) ?_
    walk_at "go"
    refine ⟨rfl, rfl, _, R, _, rfl, w4, lens 2, fun H5 w5 => ?_⟩
    walk_at "go"
    refine iteBN (fun h4 => ?_) (fun h4 => ?_)
    · walk_at "go"
      refine no w5 fun q => ?_
      rcases q with ⟨_, _, e, _⟩ | ⟨e, _⟩
      · rw [h4] at e; cases e
      · exact absurd h1 e
    walk_at "go"
    refine g_lenL w5 hs ?_
    rw [List.length_map]
    walk_at "go"
    refine g_eqS rfl ?_
    walk_at "go"
    refine iteD (fun h5 => ?_) (fun h5 => ?_)
    · have h5' : ws.length = 4 := by have := V.int.inj h5; omega
      walk_at "go"
      refine g_ixL w5 hs (at_ 3 (by omega)) ?_
      walk_at "go"
      refine g_newL w5 (by walk_at "sz") fun p6 H6 n6 w6 => ?_
      refine g_inT w6 (SqT.of upd_same) rfl rfl ?_
      rw [show inV (.str (wAt ws 3)) [V.str "restrict", V.str "cascade"] = decide (wAt ws 3 ∈ (["restrict", "cascade"] : List Str)) from inV_str _ ["restrict", "cascade"]]
      refine k _ _ ?_ (back (w6.drop (Same.newG n6)))
      rw [decide_eq_true_eq]
      constructor
      · exact fun q => .inl ⟨h1, h3, h4, .inl ⟨h5', q⟩⟩
      · rintro (⟨_, _, _, ⟨_, q⟩ | ⟨q, _⟩⟩ | ⟨q, _⟩)
        · exact q
        · omega
        · exact absurd h1 q
    · have h5' : ws.length = 5 := by
        rcases hl45 with e | e
        · exact absurd (by rw [e]; rfl) h5
        · exact e
      walk_at "go"
      refine g_ixL w5 hs (at_ 3 (by omega)) ?_
      walk_at "go"
      refine g_eqS rfl ?_
      walk_at "go"
      refine iteD (fun h6 => ?_) (fun h6 => ?_)
      · replace h6 := txt h6
        walk_at "go"
        refine g_ixL w5 hs (at_ 4 (by omega)) ?_
        walk_at "go"
        refine g_newL w5 (by walk_at "sz") fun p6 H6 n6 w6 => ?_
        refine g_inT w6 (SqT.of upd_same) rfl rfl ?_
        rw [show inV (.str (wAt ws 4)) [V.str "restrict", V.str "cascade", V.str "clear"] = decide (wAt ws 4 ∈ (["restrict", "cascade", "clear"] : List Str)) from inV_str _ ["restrict", "cascade", "clear"]]
        refine k _ _ ?_ (back (w6.drop (Same.newG n6)))
        rw [decide_eq_true_eq]
        constructor
        · exact fun q => .inl ⟨h1, h3, h4, .inr ⟨h5', h6, q⟩⟩
        · rintro (⟨_, _, _, ⟨q, _⟩ | ⟨_, _, q⟩⟩ | ⟨q, _⟩)
          · omega
          · exact q
          · exact absurd h1 q
      · rw [decide_eq_false h6]
        refine no w5 ?_
        rintro (⟨_, _, _, ⟨q, _⟩ | ⟨_, q, _⟩⟩ | ⟨q, _⟩)
        · omega
        · exact h6 (congrArg V.str q)
        · exact q h1
  · have h1' : wAt ws 0 ≠ "ref" := fun q => h1 (congrArg V.str q)
    walk_at "go"
    refine g_ixL w1 hs (at_ 0 n0) ?_
    walk_at "go"
    refine g_newL w1 (by walk_at "sz") fun p2 H2 n2 w2 => ?_
    refine g_niT w2 (SqT.of upd_same) rfl rfl ?_
    have w3 := w2.drop (Same.newG n2)
    rw [show inV (.str (wAt ws 0)) [V.str "int", V.str "text"] = decide (wAt ws 0 ∈ (["int", "text"] : List Str)) from inV_str _ ["int", "text"]]
    walk_at "go"
    refine iteN (fun h2 => ?_) (fun h2 => ?_)
    · walk_at "go"
      refine no w3 ?_
      rintro (⟨q, _⟩ | ⟨_, q, _⟩)
      · exact h1' q
      · exact h2 q
    walk_at "go"
    refine g_lenL w3 hs ?_
    rw [List.length_map]
    walk_at "go"
    refine g_newL w3 (by walk_at "sz") fun p4 H4 n4 w4 => ?_
    refine g_niT w4 (SqT.of upd_same) rfl rfl ?_
    have w5 := w4.drop (Same.newG n4)
    rw [inV_two]
    walk_at "go"
    refine iteN (fun h3 => ?_) (fun h3 => ?_)
    · walk_at "go"
      refine no w5 ?_
      rintro (⟨q, _⟩ | ⟨_, _, _, q | ⟨q, _⟩⟩)
      · exact h1' q
      · exact h3 (.inl (by rw [q]; rfl))
      · exact h3 (.inr (by rw [q]; rfl))
    walk_at "go"
    refine g_ixL w5 hs (at_ 1 (by omega)) ?_
    walk_at "go"
    refine ⟨rfl, rfl, _, R, _, rfl, w5, lens 1, fun H6 w6 => ?_⟩
    walk_at "go"
    refine iteBN (fun h4 => ?_) (fun h4 => ?_)
    · walk_at "go"
      refine no w6 ?_
      rintro (⟨q, _⟩ | ⟨_, _, q, _⟩)
      · exact h1' q
      · rw [h4] at q; cases q
    walk_at "go"
    refine g_lenL w6 hs ?_
    rw [List.length_map]
    walk_at "go"
    refine g_eqS rfl ?_
    walk_at "go"
    refine iteD (fun h5 => ?_) (fun h5 => ?_)
    · have h5' : ws.length = 2 := by have := V.int.inj h5; omega
      rw [decide_eq_true h5]
      exact k _ _ ⟨fun _ => .inr ⟨h1', h2, h4, .inl h5'⟩, fun _ => rfl⟩ (back w6)
    · have h5' : ws.length ≠ 2 := fun q => h5 (by rw [q]; rfl)
      walk_at "go"
      refine g_ixL w6 hs (at_ 2 (by omega)) ?_
      walk_at "go"
      refine g_eqS rfl ?_
      refine k _ _ ?_ (back w6)
      rw [decide_eq_true_eq]
      constructor
      · exact fun q => .inr ⟨h1', h2, h4, .inr ⟨by omega, txt q⟩⟩
      · rintro (⟨q, _⟩ | ⟨_, _, _, q | ⟨_, q⟩⟩)
        · exact absurd q h1'
        · exact absurd q h5'
        · exact congrArg V.str q
end
end Sv


set_option Elab.async false
set_option linter.all false
set_option maxRecDepth 100000
set_option maxHeartbeats 4000000
namespace Sv
open PySem PySem.Spec PyProof.Rows L2 Sw
local macro_rules | `(tactic| walk_at "go1") => `(tactic| first
  | ((with_reducible refine' g_var ?hv ?_); (case hv => rfl))
  | with_reducible refine g_c ?_
  | with_reducible refine g_op ?_
  | with_reducible refine g_un ?_
  | with_reducible refine g_seq ?_
  | with_reducible refine g_next ?_
  | with_reducible refine g_asg ?_
  | with_reducible refine g_name ?_
  | with_reducible refine g_drop ?_
  | with_reducible refine g_sub ?_
  | with_reducible refine g_ret ?_
  | with_reducible refine g_retN ?_
  | with_reducible refine g_ifS ?_
  | with_reducible refine g_if ?_
  | with_reducible refine g_test ?_
  | with_reducible refine g_bl ?_
  | with_reducible refine g_cons ?_
  | with_reducible refine g_nil ?_
  | with_reducible refine g_and ?_
  | with_reducible refine g_or ?_
  | with_reducible refine g_not ?_
  | with_reducible refine g_callB ?_
  | with_reducible refine g_addI ?_
  | with_reducible refine g_I0 ?_
  | with_reducible refine g_calG ?_
  | with_reducible refine g_mkG ?_
  | with_reducible refine g_tup ?_
  | with_reducible refine g_lst ?_
  | with_reducible refine g_forL ?_
  | with_reducible refine g_forR ?_
  | with_reducible refine g_forR2 ?_
  | with_reducible refine g_forS ?_
  | with_reducible refine g_forE ?_
  | with_reducible refine g_lcL ?_
  | with_reducible refine g_lcR ?_
  | with_reducible refine g_lcS ?_
  | with_reducible refine g_lcE ?_
  | with_reducible refine g_orT ?_
  | with_reducible refine g_slc ?_
  | with_reducible refine g_noPart ?_
  | with_reducible refine g_part ?_
  | with_reducible refine g_bm ?_
  | with_reducible refine g_par ?_
  | with_reducible refine g_yes ?_
  | with_reducible refine g_tupG ?_
  | with_reducible refine g_gcons ?_
  | with_reducible refine g_gnil ?_
  | with_reducible refine g_chain ?_
  | with_reducible refine g_truB ?_
  | with_reducible refine g_truN ?_
  | with_reducible refine g_truI ?_
  | with_reducible refine g_m1 ?_
  | with_reducible refine g_fld ?_
  | with_reducible refine g_con ?_
  | with_reducible refine g_tru ?_
  | with_reducible refine g_U ?_
  | with_reducible refine g_xg ?_
  | with_reducible refine g_andT ?_
  | with_reducible refine g_exI ?_
  | with_reducible refine g_dnew ?_
  | with_reducible refine g_intB ?_
  | with_reducible refine g_meth ?_
  | with_reducible refine g_prop ?_
  | with_reducible refine g_exc1 ?_
  | with_reducible refine g_setF ?_
  | with_reducible refine g_star ?_
  | with_reducible refine g_strM ?_
  | with_reducible refine iteT ?_
  | with_reducible refine iteF ?_
  | with_reducible refine iteNT ?_
  | with_reducible refine iteNF ?_)
local macro_rules | `(tactic| walk_at "go") => `(tactic| repeat (walk_at "go1"))
local macro_rules | `(tactic| walk_at "sz") => `(tactic| (first | (rw [sizeLine_eq]; simp only [List.length_cons, List.length_nil, List.length_map, List.length_append, List.length_take]; omega) | (rw [sizeLine_eq]; omega)))
section
variable {P : Program} {wo : World} {A : Ad} {K : PySem.W.Frag} {mg : Str → Option Value} {base : Heap}

/-! ### _law_column -/
def colTup (c : Col) : List V := [.str (kstr c.k), .str c.name, if c.k = .ref then .str c.target else .non, .bl c.opt, if c.k = .ref then .str c.rule else .non]
def spColumn (K : PySem.W.Frag) : Sp := fun vs H Q _ => ∃ G a c t nm, ∃ ts : List Str, vs = [.ref a, .ref t, .str nm] ∧ Wd G (RD a c) H ∧ G t = some (.lst (ts.map V.str)) ∧ 0 < ts.length ∧ ts.length ≤ 1000 ∧
  ∀ co p H', co.name = nm → (co.k = .ref → co.target ∈ ts ∧ ruleOk co.rule co.opt = true) → G p = none → Wd (upd G p (.tup (colTup co))) (RD a c) H' → Q (.ref p) H'
theorem sc__law_column : FnScope (["_law_state", "_law_tables", "_law_name", "_law_kind", "_law_empty", "_law_rules"] : List Str) (["_law_state", "_law_tables", "_law_name"] : List Str) (defScope s__law_column) := ⟨rfl, rfl, rfl, by decide +kernel, rfl, by decide +kernel, by decide +kernel⟩
theorem ok_column {f : Addr} {fd : FuncData} (F : Fun K "_law_column" "_law_column" s__law_column f fd) (T : Txt K mg A) (Gd : GFn P wo K mg base 1 "_law_draw" 2 [] (fun vs _ => spDraw vs)) (Gp : GFn P wo K mg base 2 "_law_pick" 2 [] (fun vs _ => spPick K vs)) : FnOk P wo K mg base (L2.CX P wo) 3 f fd (["_law_state", "_law_tables", "_law_name"] : List Str) (spColumn K) := by
  refine okT F sc__law_column (fun vs H Q E h => ?_) (fun cdv Ar outer s H vs Q E hr tk po h => ?_)
  · obtain ⟨_, _, _, _, _, _, rfl, _⟩ := h
    rfl
  obtain ⟨G, a, c, t, nm, ts, rfl, w, ht, t0, t1, k⟩ := h
  refine ⟨_, (pss_cons (ps_par (i := 3) (j := 4) rfl sc__law_column.nd rfl rfl (by decide) rfl rfl (pa_cons (pe_callG Gp (hr.mono (by decide)) tk (pa_cons (pv 0) (pa_cons (pe_lst (pa_cons pe_str (pa_cons pe_str (pa_cons pe_str (pa_cons pe_str pa_nil))))) pa_nil)) pk_nil) (pa_cons (pe_cmpR (ka_eq K hr.units) (pe_callG Gd (hr.mono (by decide)) tk (pa_cons (pv 0) (pa_cons pe_int pa_nil)) pk_nil) pe_int (nomark _)) pa_nil)) (by rfl))
      (pss_cons (ps_if (pt_cmpR (ka_ne K hr.units) (pv 3) pe_str (nomark _)) (pss_one (ps_ret (pe_tup (pa_cons (pv 3) (pa_cons (pv 2) (pa_cons pe_non (pa_cons (pv 4) (pa_cons pe_non pa_nil)))))))) pss_nil)
      (pss_cons (ps_set (i := 5) sc__law_column.nd rfl (by first | exact Or.inl rfl | exact Or.inr rfl) (pe_op (ka_add K) (pe_lst (pa_cons pe_str (pa_cons pe_str pa_nil))) (pe_op (ka_mul K) (pe_lst (pa_cons pe_str pa_nil)) (pe_callTy ka_int (by rfl) T.nb_int (by decide +kernel) (pa_cons (pv 4) pa_nil)))))
      (pss_one (ps_ret (pe_tup (pa_cons (pv 3) (pa_cons (pv 2) (pa_cons (pe_callG Gp (hr.mono (by decide)) tk (pa_cons (pv 0) (pa_cons (pv 1) pa_nil)) pk_nil) (pa_cons (pv 4) (pa_cons (pe_callG Gp (hr.mono (by decide)) tk (pa_cons (pv 0) (pa_cons (pv 5) pa_nil)) pk_nil) pa_nil))))))))))), ?_⟩
  walk_at "go"
  refine g_newL w (by walk_at "sz") fun p1 H1 n1 w1 => ?_
  walk_at "go"
  refine ⟨rfl, rfl, _, a, c, w1, .inl ⟨p1, _, rfl, .inl (SqL.of upd_same), by decide, by decide, fun x H2 hx w2 => ?_⟩⟩
  replace w2 := w2.drop (Same.newG n1)
  walk_at "go"
  refine ⟨rfl, rfl, G, a, c, 2, rfl, w2, by decide, by decide, fun r H3 r0 r1 w3 => ?_⟩
  walk_at "go"
  refine g_eqS rfl ?_
  walk_at "go"
  refine ⟨_, _, rfl, ?_⟩
  have hk : ∃ kd : Kd, x = .str (kstr kd) := by
    simp only [List.mem_cons, List.not_mem_nil, or_false] at hx
    rcases hx with rfl | rfl | rfl | rfl
    · exact ⟨.int, rfl⟩
    · exact ⟨.text, rfl⟩
    · exact ⟨.ref, rfl⟩
    · exact ⟨.ref, rfl⟩
  obtain ⟨kd, rfl⟩ := hk
  generalize decide (V.int r = V.int 0) = e
  walk_at "go"
  refine g_neS rfl ?_
  walk_at "go"
  refine iteN (fun h1 => ?_) (fun h1 => ?_)
  · walk_at "go"
    have hkr : kd ≠ .ref := fun z => h1 (by rw [z]; rfl)
    refine g_newL w3 (by walk_at "sz") fun p H4 n4 w4 => ?_
    refine k ⟨kd, nm, e, "", ""⟩ p H4 rfl (fun z => absurd z hkr) n4 ?_
    have : colTup ⟨kd, nm, e, "", ""⟩ = [.str (kstr kd), .str nm, .non, .bl e, .non] := by
      unfold colTup
      simp only [if_neg hkr]
    rw [this]
    exact w4
  · have hkr : kd = .ref := by
      cases kd with
      | ref => rfl
      | int => exact absurd (V.str.inj h1) (by decide)
      | text => exact absurd (V.str.inj h1) (by decide)
    subst hkr
    walk_at "go"
    refine g_newL w3 (by walk_at "sz") fun p4 H4 n4 w4 => ?_
    walk_at "go"
    refine g_newL w4 (by walk_at "sz") fun p5 H5 n5 w5 => ?_
    walk_at "go"
    refine g_mulL w5 upd_same (by cases e <;> decide) (by cases e <;> decide) (by rw [sizeLine_eq]; cases e <;> decide) fun p6 H6 n6 w6 => ?_
    have er : (List.replicate ((if e = true then (1 : Int) else 0)).toNat [V.str "clear"]).flatten = (if e = true then [V.str "clear"] else []) := by
      cases e <;> rfl
    rw [er] at w6
    refine g_addL w6 (upd_old (upd_old upd_same n5) n6) upd_same (by rw [sizeLine_eq]; cases e <;> decide) fun p7 H7 n7 w7 => ?_
    have s7 := fun o => Same.trans (Same.trans (Same.trans (Same.newG n4) (Same.newG n5)) (Same.newG n6)) (Same.newG (o := o) n7)
    walk_at "go"
    refine ⟨rfl, rfl, _, a, c, w7, .inl ⟨t, _, rfl, .inl (SqL.of (s7 _ _ _ ht)), by rw [List.length_map]; exact t0, by rw [List.length_map]; omega, fun x H8 hx8 w8 => ?_⟩⟩
    obtain ⟨tg, htg, rfl⟩ := List.mem_map.mp hx8
    walk_at "go"
    refine ⟨rfl, rfl, _, a, c, w8, .inl ⟨p7, _, rfl, .inl (SqL.of upd_same), by cases e <;> decide, by cases e <;> decide, fun x H9 hx9 w9 => ?_⟩⟩
    obtain ⟨ru, rfl, hru⟩ : ∃ ru : Str, x = .str ru ∧ ruleOk ru e = true := by
      cases e with
      | true =>
        simp only [if_true, List.mem_append, List.mem_cons, List.not_mem_nil, or_false] at hx9
        rcases hx9 with (rfl | rfl) | rfl
        · exact ⟨_, rfl, by decide +kernel⟩
        · exact ⟨_, rfl, by decide +kernel⟩
        · exact ⟨_, rfl, by decide +kernel⟩
      | false =>
        simp only [Bool.false_eq_true, if_false, List.append_nil, List.mem_cons, List.not_mem_nil, or_false] at hx9
        rcases hx9 with rfl | rfl
        · exact ⟨_, rfl, by decide +kernel⟩
        · exact ⟨_, rfl, by decide +kernel⟩
    walk_at "go"
    replace w9 := w9.drop (s7 _)
    refine g_newL w9 (by walk_at "sz") fun p H10 n10 w10 => ?_
    exact k ⟨.ref, nm, e, tg, ru⟩ p H10 rfl (fun _ => ⟨htg, hru⟩) n10 w10

/-! ### _law_column_text -/
def spColText (K : PySem.W.Frag) : Sp := fun vs H Q _ => ∃ G R p c, vs = [.ref p] ∧ Wd G R H ∧ SqT K G p (colTup c) ∧ c.ok ∧ ∀ H', Wd G R H' → Q (.str c.text) H'
theorem sc__law_column_text : FnScope (["_law_column_here", "_law_kind", "_law_name", "_law_target", "_law_empty", "_law_law_rule", "_law_words"] : List Str) (["_law_column_here"] : List Str) (defScope s__law_column_text) := ⟨rfl, rfl, rfl, by decide +kernel, rfl, by decide +kernel, by decide +kernel⟩
theorem ok_column_text {f : Addr} {fd : FuncData} (F : Fun K "_law_column_text" "_law_column_text" s__law_column_text f fd) (T : Txt K mg A) : FnOk P wo K mg base (L2.CX P wo) 1 f fd (["_law_column_here"] : List Str) (spColText K) := by
  refine okT F sc__law_column_text (fun vs H Q E h => ?_) (fun cdv Ar outer s H vs Q E hr tk po h => ?_)
  · obtain ⟨_, _, _, _, rfl, _⟩ := h
    rfl
  obtain ⟨G, R, p, c, rfl, w, hp, ok, k⟩ := h
  refine ⟨_, (pss_cons (ps_asg (pv 0) (kg_tup (n := 5) K rfl (pgs_cons (pg_name (i := 1) sc__law_column_text.nd rfl (by first | exact Or.inl rfl | exact Or.inr rfl)) (pgs_cons (pg_name (i := 2) sc__law_column_text.nd rfl (by first | exact Or.inl rfl | exact Or.inr rfl)) (pgs_cons (pg_name (i := 3) sc__law_column_text.nd rfl (by first | exact Or.inl rfl | exact Or.inr rfl)) (pgs_cons (pg_name (i := 4) sc__law_column_text.nd rfl (by first | exact Or.inl rfl | exact Or.inr rfl)) (pgs_cons (pg_name (i := 5) sc__law_column_text.nd rfl (by first | exact Or.inl rfl | exact Or.inr rfl)) pgs_nil)))))))
      (pss_cons (ps_set (i := 6) sc__law_column_text.nd rfl (by first | exact Or.inl rfl | exact Or.inr rfl) (pe_op (ka_add K) (pe_op (ka_add K) (pe_lst (pa_cons (pv 1) (pa_cons (pv 2) pa_nil))) (pe_op (ka_mul K) (pe_lst (pa_cons (pv 3) pa_nil)) (pe_callTy ka_int (by rfl) T.nb_int (by decide +kernel) (pa_cons (pe_cmpR (ka_eq K hr.units) (pv 1) pe_str (nomark _)) pa_nil)))) (pe_op (ka_mul K) (pe_lst (pa_cons pe_str pa_nil)) (pe_callTy ka_int (by rfl) T.nb_int (by decide +kernel) (pa_cons (pv 4) pa_nil)))))
      (pss_one (ps_ret (ke_join K pe_str (pe_op (ka_add K) (pv 6) (pe_op (ka_mul K) (pe_lst (pa_cons (pv 5) pa_nil)) (pe_callTy ka_int (by rfl) T.nb_int (by decide +kernel) (pa_cons (pe_cmpR (ka_eq K hr.units) (pv 1) pe_str (nomark _)) pa_nil))))))))), ?_⟩
  have hz := Col.text_len ok
  walk_at "go"
  refine ⟨p, _, rfl, Evl.ex_t w.sub hp, rfl, ?_⟩
  unfold colTup
  walk_at "go"
  refine g_newL w (by walk_at "sz") fun p1 H1 n1 w1 => ?_
  walk_at "go"
  refine g_newL w1 (by walk_at "sz") fun p2 H2 n2 w2 => ?_
  walk_at "go"
  refine g_eqS rfl ?_
  walk_at "go"
  have eb : decide (V.str (kstr c.k) = V.str "ref") = decide (c.k = .ref) := by
    cases c.k <;> decide
  have ew : ∀ b : Bool, b = decide (c.k = .ref) → (([V.str (kstr c.k), V.str c.name] ++ (if b = true then [if c.k = .ref then V.str c.target else .non] else [])) ++ (if c.opt = true then [V.str "optional"] else [])) ++ (if b = true then [if c.k = .ref then V.str c.rule else .non] else []) = c.words.map V.str := fun b hb => by
    subst hb
    by_cases hr : c.k = .ref
    · rw [if_pos hr, if_pos hr, if_pos (decide_eq_true hr), if_pos (decide_eq_true hr)]
      unfold Col.words optW
      rw [if_pos hr]
      cases c.opt <;> rfl
    · have hd : ¬ (decide (c.k = .ref) = true) := fun z => hr (of_decide_eq_true z)
      rw [if_neg hd, if_neg hd]
      unfold Col.words Col.words0 optW
      rw [if_neg hr]
      cases c.opt <;> rfl
  have rep : ∀ (b : Bool) (x : V), (List.replicate ((if b = true then (1 : Int) else 0)).toNat [x]).flatten = (if b = true then [x] else []) := fun b x => by
    cases b <;> rfl
  have fits : ∀ b : Bool, -(2 ^ 63) ≤ (if b = true then (1 : Int) else 0) ∧ (if b = true then (1 : Int) else 0) < 2 ^ 63 ∧ 1 * (if b = true then (1 : Int) else 0).toNat ≤ sizeLine := fun b => by
    rw [sizeLine_eq]
    cases b <;> decide
  have l1 : ∀ (b : Bool) (x : V), (if b = true then [x] else []).length ≤ 1 := fun b x => by
    cases b <;> simp
  rw [eb]
  replace ew := ew _ rfl
  generalize decide (c.k = .ref) = b at *
  generalize (if c.k = .ref then V.str c.target else .non) = tv at *
  generalize (if c.k = .ref then V.str c.rule else .non) = rv at *
  refine g_mulL w2 upd_same (fits b).1 (fits b).2.1 (fits b).2.2 fun p3 H3 n3 w3 => ?_
  rw [rep] at w3
  refine g_addL w3 (upd_old (upd_old upd_same n2) n3) upd_same (by have := l1 b tv; rw [sizeLine_eq]; show 2 + _ ≤ _; omega) fun p4 H4 n4 w4 => ?_
  walk_at "go"
  refine g_newL w4 (by walk_at "sz") fun p5 H5 n5 w5 => ?_
  walk_at "go"
  refine g_mulL w5 upd_same (fits _).1 (fits _).2.1 (fits _).2.2 fun p6 H6 n6 w6 => ?_
  rw [rep] at w6
  refine g_addL w6 (upd_old (upd_old upd_same n5) n6) upd_same (by have := l1 b tv; have := l1 c.opt (.str "optional"); rw [sizeLine_eq]; simp only [List.length_append, List.length_cons, List.length_nil]; omega) fun p7 H7 n7 w7 => ?_
  walk_at "go"
  refine g_newL w7 (by walk_at "sz") fun p8 H8 n8 w8 => ?_
  walk_at "go"
  refine g_eqS rfl ?_
  walk_at "go"
  rw [eb]
  refine g_mulL w8 upd_same (fits b).1 (fits b).2.1 (fits b).2.2 fun p9 H9 n9 w9 => ?_
  rw [rep] at w9
  refine g_addL w9 (upd_old (upd_old upd_same n8) n9) upd_same (by have := l1 b tv; have := l1 b rv; have := l1 c.opt (.str "optional"); rw [sizeLine_eq]; simp only [List.length_append, List.length_cons, List.length_nil]; omega) fun p10 H10 n10 w10 => ?_
  walk_at "go"
  rw [ew] at w10
  refine g_join w10 (SqL.of upd_same) (Nat.le_trans (show _ ≤ 64 from hz) (by decide)) ?_
  refine k _ (w10.drop ?_)
  exact Same.trans (Same.trans (Same.trans (Same.trans (Same.trans (Same.trans (Same.trans (Same.trans (Same.trans (Same.newG n1) (Same.newG n2)) (Same.newG n3)) (Same.newG n4)) (Same.newG n5)) (Same.newG n6)) (Same.newG n7)) (Same.newG n8)) (Same.newG n9)) (Same.newG n10)
end
end Sv


set_option Elab.async false
set_option linter.all false
set_option maxRecDepth 100000
set_option maxHeartbeats 4000000
namespace Sv
open PySem PySem.Spec PyProof.Rows L2 Sw
local macro_rules | `(tactic| walk_at "go1") => `(tactic| first
  | ((with_reducible refine' g_var ?hv ?_); (case hv => rfl))
  | with_reducible refine g_c ?_
  | with_reducible refine g_op ?_
  | with_reducible refine g_un ?_
  | with_reducible refine g_seq ?_
  | with_reducible refine g_next ?_
  | with_reducible refine g_asg ?_
  | with_reducible refine g_name ?_
  | with_reducible refine g_drop ?_
  | with_reducible refine g_sub ?_
  | with_reducible refine g_ret ?_
  | with_reducible refine g_retN ?_
  | with_reducible refine g_ifS ?_
  | with_reducible refine g_if ?_
  | with_reducible refine g_test ?_
  | with_reducible refine g_bl ?_
  | with_reducible refine g_cons ?_
  | with_reducible refine g_nil ?_
  | with_reducible refine g_and ?_
  | with_reducible refine g_or ?_
  | with_reducible refine g_not ?_
  | with_reducible refine g_callB ?_
  | with_reducible refine g_addI ?_
  | with_reducible refine g_I0 ?_
  | with_reducible refine g_calG ?_
  | with_reducible refine g_mkG ?_
  | with_reducible refine g_tup ?_
  | with_reducible refine g_lst ?_
  | with_reducible refine g_forL ?_
  | with_reducible refine g_forR ?_
  | with_reducible refine g_forR2 ?_
  | with_reducible refine g_forS ?_
  | with_reducible refine g_forE ?_
  | with_reducible refine g_lcL ?_
  | with_reducible refine g_lcR ?_
  | with_reducible refine g_lcS ?_
  | with_reducible refine g_lcE ?_
  | with_reducible refine g_orT ?_
  | with_reducible refine g_slc ?_
  | with_reducible refine g_noPart ?_
  | with_reducible refine g_part ?_
  | with_reducible refine g_bm ?_
  | with_reducible refine g_par ?_
  | with_reducible refine g_yes ?_
  | with_reducible refine g_tupG ?_
  | with_reducible refine g_gcons ?_
  | with_reducible refine g_gnil ?_
  | with_reducible refine g_chain ?_
  | with_reducible refine g_truB ?_
  | with_reducible refine g_truN ?_
  | with_reducible refine g_truI ?_
  | with_reducible refine g_m1 ?_
  | with_reducible refine g_fld ?_
  | with_reducible refine g_con ?_
  | with_reducible refine g_tru ?_
  | with_reducible refine g_U ?_
  | with_reducible refine g_xg ?_
  | with_reducible refine g_andT ?_
  | with_reducible refine g_exI ?_
  | with_reducible refine g_dnew ?_
  | with_reducible refine g_intB ?_
  | with_reducible refine g_meth ?_
  | with_reducible refine g_prop ?_
  | with_reducible refine g_exc1 ?_
  | with_reducible refine g_setF ?_
  | with_reducible refine g_star ?_
  | with_reducible refine g_strM ?_
  | with_reducible refine iteT ?_
  | with_reducible refine iteF ?_
  | with_reducible refine iteNT ?_
  | with_reducible refine iteNF ?_)
local macro_rules | `(tactic| walk_at "go") => `(tactic| repeat (walk_at "go1"))
local macro_rules | `(tactic| walk_at "sz") => `(tactic| (first | (rw [sizeLine_eq]; simp only [List.length_cons, List.length_nil, List.length_map, List.length_append, List.length_take]; omega) | (rw [sizeLine_eq]; omega)))
section
variable {P : Program} {wo : World} {A : Ad} {K : PySem.W.Frag} {mg : Str → Option Value} {base : Heap}

/-! ### _law_read -/
structure RdF (K : PySem.W.Frag) (A : Ad) : Prop where
  em : PySem.W.exmOne K (.ref A.InvalidText) (.ref A.SaveError) = some true
  ec : ExcC K A.InvalidText
  ki : PySem.W.kitOne K (.ref A.InvalidText) (.ref A.InvalidText) = some true
  xf : XfC K A.InvalidText
  nl : PySem.W.findIn K (.ref A.InvalidText) "line" = some none
theorem parseT_ok {s : Str} {c : Col} (h : parseT s = some c) : c.ok ∧ c.text = s := by
  unfold parseT at h
  cases e : parseW (Txt.split s " ") with
  | none => rw [e] at h; cases h
  | some c' =>
    rw [e] at h
    simp only at h
    split at h
    · rename_i q
      cases h
      exact ⟨parseW_ok e, q⟩
    · cases h
def spRead (K : PySem.W.Frag) : Sp := fun vs H Q _ => ∃ G R v, vs = [v] ∧ Wd G R H ∧
  ((∃ s : Str, v = .str s ∧ s.length ≤ 1000000 ∧ ((parseT s).isSome = true → ∀ H', Wd G R H' → Q (.str s) H') ∧ (parseT s = none → ∀ p H', G p = none → Wd (upd G p (.lst [.int 0])) R H' → Q (.ref p) H')) ∨
   (NotStr K G v ∧ ∀ p H', G p = none → Wd (upd G p (.lst [.int 0])) R H' → Q (.ref p) H'))
theorem sc__law_read : FnScope (["_law_value", "_law_found", "_law_caught", "e"] : List Str) (["_law_value"] : List Str) (defScope s__law_read) := ⟨rfl, rfl, rfl, by decide +kernel, rfl, by decide +kernel, by decide +kernel⟩
theorem ok_read {f : Addr} {fd : FuncData} (F : Fun K "_law_read" "_law_read" s__law_read f fd) (T : Txt K mg A) (RF : RdF K A) (Gpar : GSt P wo K mg base 7 "Column" "parse" 1 [] (fun vs _ => spParse K A vs))
    (GT : ∀ k, GPr P wo K mg base 3 (kcls A k) "text" (fun vs _ => spText A vs)) : FnOk P wo K mg base (L2.CX P wo) 8 f fd (["_law_value"] : List Str) (spRead K) := by
  refine okT F sc__law_read (fun vs H Q E h => ?_) (fun cdv Ar outer s H vs Q E hr tk po h => ?_)
  · obtain ⟨_, _, _, rfl, _⟩ := h
    rfl
  obtain ⟨G, R, v, rfl, w, h⟩ := h
  refine ⟨_, (pss_cons (ps_asg (pe_tup (pa_cons pe_non (pa_cons pe_non pa_nil))) (kg_tup (n := 2) K rfl (pgs_cons (pg_name (i := 1) sc__law_read.nd rfl (by first | exact Or.inl rfl | exact Or.inr rfl)) (pgs_cons (pg_name (i := 2) sc__law_read.nd rfl (by first | exact Or.inl rfl | exact Or.inr rfl)) pgs_nil))))
      (pss_cons (ps_try_as (i := 3) rfl rfl sc__law_read.nd rfl rfl (names_of rfl T.g_SaveError) tk (fun _ _ _ tk po => (pss_one (ps_set (i := 1) sc__law_read.nd rfl (by first | exact Or.inl rfl | exact Or.inr rfl) (pe_static Gpar (hr.mono (by decide)) tk (pa_cons (pv 0) pa_nil) pk_nil)))) (fun _ _ _ _ _ hz hf => (pss_one (ps_set (i := 2) sc__law_read.nd rfl (by first | exact Or.inl rfl | exact Or.inr rfl) (pe_ifExp (kt_truth K (pe_callB (call_isX K hz hf) (by rfl) T.nb_isinstance (by decide +kernel) (pa_cons (pv 3) (pa_cons (pe_globE (by rfl) T.g_InvalidText) pa_nil))) (by intro _; rfl)) (pe_lst (pa_cons (pe_xg K hz hf (pv 3)) pa_nil)) (pe_lst (pa_cons pe_str pa_nil)))))))
      (pss_one (ps_ret (pe_ifExp (pt_cmpR op_isN (pv 2) pe_non (nomark _)) (pe_propG (k := 3) (pv 1) (hr.mono (by decide))) (pv 2)))))), ?_⟩
  walk_at "go"
  refine g_newL w (by walk_at "sz") fun tp H0 n0 w0 => ?_
  refine ⟨tp, _, rfl, SqT.of (w0.get upd_same), rfl, ?_⟩
  replace w0 := w0.drop (Same.newG n0)
  walk_at "go"
  refine ⟨rfl, rfl, G, R, v, rfl, w0, ?_⟩
  rcases h with ⟨s, rfl, hs, k1, k2⟩ | ⟨hn, k2⟩
  · refine .inl ⟨s, rfl, hs, fun c hc x G' H1 e1 nx hx w1 => ?_, fun hc G' d H1 e1 nd hd w1 => ?_⟩
    · obtain ⟨dx, hx⟩ := hx
      walk_at "go"
      refine ⟨rfl, _, rfl, ?_⟩
      rw [decide_eq_true (show V.non = V.non from rfl)]
      walk_at "go"
      refine ⟨x, kcls A c.k, dx, c.fs, _, rfl, w1.get hx, GT c.k, ?_⟩
      obtain ⟨ok, et⟩ := parseT_ok hc
      refine ⟨G', R, x, c, rfl, w1, ⟨dx, hx⟩, ok, fun H2 w2 => ?_⟩
      rw [et]
      exact k1 (by rw [hc]; rfl) _ (w2.drop e1)
    · refine ⟨true, RF.em, fun _ ea he => ?_, fun z => Bool.noConfusion z⟩
      walk_at "go"
      refine ⟨_, _, true, A.InvalidText, d, _, rfl, rfl, rfl, w1.get hd, RF.ec, fun u r => r, RF.ki, ?_⟩
      walk_at "go"
      refine ⟨rfl, A.InvalidText, d, _, .int 0, rfl, rfl, RF.xf, RF.nl, w1.get hd, rfl, ?_⟩
      walk_at "go"
      refine g_newL w1 (by walk_at "sz") fun p H2 n2 w2 => ?_
      walk_at "go"
      refine ⟨rfl, _, rfl, ?_⟩
      rw [decide_eq_false (show ¬ (V.ref p = V.non) from fun z => nomatch z)]
      walk_at "go"
      exact k2 hc p H2 (Same.free e1 n2) (w2.drop (Same.upd2 e1))
  · refine .inr ⟨hn, fun G' d H1 e1 nd hd w1 => ?_⟩
    refine ⟨true, RF.em, fun _ ea he => ?_, fun z => Bool.noConfusion z⟩
    walk_at "go"
    refine ⟨_, _, true, A.InvalidText, d, _, rfl, rfl, rfl, w1.get hd, RF.ec, fun u r => r, RF.ki, ?_⟩
    walk_at "go"
    refine ⟨rfl, A.InvalidText, d, _, .int 0, rfl, rfl, RF.xf, RF.nl, w1.get hd, rfl, ?_⟩
    walk_at "go"
    refine g_newL w1 (by walk_at "sz") fun p H2 n2 w2 => ?_
    walk_at "go"
    refine ⟨rfl, _, rfl, ?_⟩
    rw [decide_eq_false (show ¬ (V.ref p = V.non) from fun z => nomatch z)]
    walk_at "go"
    exact k2 p H2 (Same.free e1 n2) (w2.drop (Same.upd2 e1))
end
end Sv


set_option Elab.async false
set_option linter.all false
set_option maxRecDepth 100000
set_option maxHeartbeats 4000000
namespace Sv
open PySem PySem.Spec PyProof.Rows L2 Sw
local macro_rules | `(tactic| walk_at "go1") => `(tactic| first
  | ((with_reducible refine' g_var ?hv ?_); (case hv => rfl))
  | with_reducible refine g_c ?_
  | with_reducible refine g_op ?_
  | with_reducible refine g_un ?_
  | with_reducible refine g_seq ?_
  | with_reducible refine g_next ?_
  | with_reducible refine g_asg ?_
  | with_reducible refine g_name ?_
  | with_reducible refine g_drop ?_
  | with_reducible refine g_sub ?_
  | with_reducible refine g_ret ?_
  | with_reducible refine g_retN ?_
  | with_reducible refine g_ifS ?_
  | with_reducible refine g_if ?_
  | with_reducible refine g_test ?_
  | with_reducible refine g_bl ?_
  | with_reducible refine g_cons ?_
  | with_reducible refine g_nil ?_
  | with_reducible refine g_and ?_
  | with_reducible refine g_or ?_
  | with_reducible refine g_not ?_
  | with_reducible refine g_callB ?_
  | with_reducible refine g_addI ?_
  | with_reducible refine g_I0 ?_
  | with_reducible refine g_calG ?_
  | with_reducible refine g_mkG ?_
  | with_reducible refine g_tup ?_
  | with_reducible refine g_lst ?_
  | with_reducible refine g_forL ?_
  | with_reducible refine g_forR ?_
  | with_reducible refine g_forR2 ?_
  | with_reducible refine g_forS ?_
  | with_reducible refine g_forE ?_
  | with_reducible refine g_lcL ?_
  | with_reducible refine g_lcR ?_
  | with_reducible refine g_lcS ?_
  | with_reducible refine g_lcE ?_
  | with_reducible refine g_orT ?_
  | with_reducible refine g_slc ?_
  | with_reducible refine g_noPart ?_
  | with_reducible refine g_part ?_
  | with_reducible refine g_bm ?_
  | with_reducible refine g_par ?_
  | with_reducible refine g_yes ?_
  | with_reducible refine g_tupG ?_
  | with_reducible refine g_gcons ?_
  | with_reducible refine g_gnil ?_
  | with_reducible refine g_chain ?_
  | with_reducible refine g_truB ?_
  | with_reducible refine g_truN ?_
  | with_reducible refine g_truI ?_
  | with_reducible refine g_m1 ?_
  | with_reducible refine g_fld ?_
  | with_reducible refine g_con ?_
  | with_reducible refine g_tru ?_
  | with_reducible refine g_U ?_
  | with_reducible refine g_xg ?_
  | with_reducible refine g_andT ?_
  | with_reducible refine g_exI ?_
  | with_reducible refine g_dnew ?_
  | with_reducible refine g_intB ?_
  | with_reducible refine g_meth ?_
  | with_reducible refine g_prop ?_
  | with_reducible refine g_exc1 ?_
  | with_reducible refine g_setF ?_
  | with_reducible refine g_star ?_
  | with_reducible refine g_strM ?_
  | with_reducible refine iteT ?_
  | with_reducible refine iteF ?_
  | with_reducible refine iteNT ?_
  | with_reducible refine iteNF ?_)
local macro_rules | `(tactic| walk_at "go") => `(tactic| repeat (walk_at "go1"))
local macro_rules | `(tactic| walk_at "sz") => `(tactic| (first | (rw [sizeLine_eq]; simp only [List.length_cons, List.length_nil, List.length_map, List.length_append, List.length_take]; omega) | (rw [sizeLine_eq]; omega)))
section
variable {P : Program} {wo : World} {A : Ad} {K : PySem.W.Frag} {mg : Str → Option Value} {base : Heap}

/-! ### _law_spoilt -/
def weight (ws : List Str) : Nat := (ws.map (·.length)).sum + ws.length
theorem weight_app (a b : List Str) : weight (a ++ b) = weight a + weight b := by
  unfold weight
  rw [List.map_append, List.sum_append, List.length_append]
  omega
theorem weight_take (ws : List Str) (n : Nat) : weight (ws.take n) ≤ weight ws := by
  have := weight_app (ws.take n) (ws.drop n)
  rw [List.take_append_drop] at this
  omega
theorem weight_drop (ws : List Str) (n : Nat) : weight (ws.drop n) ≤ weight ws := by
  have := weight_app (ws.take n) (ws.drop n)
  rw [List.take_append_drop] at this
  omega
theorem cutV_strs (ws : List Str) (lo hi : Option Int) : ∃ us : List Str, cutV (ws.map V.str) lo hi = us.map V.str ∧ weight us ≤ weight ws := by
  refine ⟨(ws.drop (HT.sIx (ws.map V.str).length 0 lo)).take (HT.sIx (ws.map V.str).length (ws.map V.str).length hi - HT.sIx (ws.map V.str).length 0 lo), ?_, Nat.le_trans (weight_take _ _) (weight_drop _ _)⟩
  unfold cutV
  rw [List.map_take, List.map_drop]
theorem join_weight (ws : List Str) : (Txt.join " " ws).length ≤ weight ws := by
  rw [TL.join_eq]
  cases ws with
  | nil => decide
  | cons a l =>
    rw [len_join_cons]
    unfold weight
    have e : (" " : Str).length = 1 := rfl
    rw [e, List.length_cons]
    omega
theorem split_weight' (s : Str) : weight (Txt.split s " ") ≤ s.length + 1 := split_weight s " " (by decide)
theorem mem_weight {ws : List Str} {x : Str} (h : x ∈ ws) : x.length ≤ weight ws := by
  have := le_sum (List.mem_map_of_mem (f := fun w : Str => w.length) h)
  unfold weight
  omega
def moreW : List Str := ["int", "text", "ref", "optional", "restrict", "clear", "cascade", "a", "", "key", "A", "a\n"]
def signW : List Str := [" ", "a", "\n", "-", "Z"]
theorem moreW_len : ∀ s ∈ moreW, s.length ≤ 8 := by decide +kernel
theorem signW_len : ∀ s ∈ signW, s.length ≤ 8 := by decide +kernel
def spSpoilt : Sp := fun vs H Q _ => ∃ G a c t, vs = [.ref a, .str t] ∧ Wd G (RD a c) H ∧ t.length ≤ 100000 ∧ ∀ t' H', t'.length ≤ 3 * t.length + 20 → Wd G (RD a c) H' → Q (.str t') H'
theorem sc__law_spoilt : FnScope (["_law_state", "_law_text", "_law_words", "_law_way", "_law_at", "_law_other", "_law_more", "_law_spot", "_law_k", "_law_word"] : List Str) (["_law_state", "_law_text"] : List Str) (defScope s__law_spoilt) := ⟨rfl, rfl, rfl, by decide +kernel, rfl, by decide +kernel, by decide +kernel⟩
theorem ok_spoilt {f : Addr} {fd : FuncData} (F : Fun K "_law_spoilt" "_law_spoilt" s__law_spoilt f fd) (T : Txt K mg A) (Gd : GFn P wo K mg base 1 "_law_draw" 2 [] (fun vs _ => spDraw vs)) (Gp : GFn P wo K mg base 2 "_law_pick" 2 [] (fun vs _ => spPick K vs)) : FnOk P wo K mg base (L2.CX P wo) 3 f fd (["_law_state", "_law_text"] : List Str) spSpoilt := by
  refine okT F sc__law_spoilt (fun vs H Q E h => ?_) (fun cdv Ar outer s H vs Q E hr tk po h => ?_)
  · obtain ⟨_, _, _, _, rfl, _⟩ := h
    rfl
  obtain ⟨G, a, c, t, rfl, w, ht, k⟩ := h
  refine ⟨_, (pss_cons (ps_asg (pe_tup (pa_cons (ke_split (pv 1) pe_str) (pa_cons (pe_callG Gd (hr.mono (by decide)) tk (pa_cons (pv 0) (pa_cons pe_int pa_nil)) pk_nil) pa_nil))) (kg_tup (n := 2) K rfl (pgs_cons (pg_name (i := 2) sc__law_spoilt.nd rfl (by first | exact Or.inl rfl | exact Or.inr rfl)) (pgs_cons (pg_name (i := 3) sc__law_spoilt.nd rfl (by first | exact Or.inl rfl | exact Or.inr rfl)) pgs_nil))))
      (pss_cons (ps_asg (pe_tup (pa_cons (pe_callG Gd (hr.mono (by decide)) tk (pa_cons (pv 0) (pa_cons (pe_callB (ka_len K) (by rfl) T.nb_len (by decide +kernel) (pa_cons (pv 2) pa_nil)) pa_nil)) pk_nil) (pa_cons (pe_callG Gd (hr.mono (by decide)) tk (pa_cons (pv 0) (pa_cons (pe_callB (ka_len K) (by rfl) T.nb_len (by decide +kernel) (pa_cons (pv 2) pa_nil)) pa_nil)) pk_nil) pa_nil))) (kg_tup (n := 2) K rfl (pgs_cons (pg_name (i := 4) sc__law_spoilt.nd rfl (by first | exact Or.inl rfl | exact Or.inr rfl)) (pgs_cons (pg_name (i := 5) sc__law_spoilt.nd rfl (by first | exact Or.inl rfl | exact Or.inr rfl)) pgs_nil))))
      (pss_cons (ps_set (i := 6) sc__law_spoilt.nd rfl (by first | exact Or.inl rfl | exact Or.inr rfl) (pe_lst (pa_cons pe_str (pa_cons pe_str (pa_cons pe_str (pa_cons pe_str (pa_cons pe_str (pa_cons pe_str (pa_cons pe_str (pa_cons pe_str (pa_cons pe_str (pa_cons pe_str (pa_cons pe_str (pa_cons pe_str pa_nil))))))))))))))
      (pss_cons (ps_set (i := 6) sc__law_spoilt.nd rfl (by first | exact Or.inl rfl | exact Or.inr rfl) (pe_callG Gp (hr.mono (by decide)) tk (pa_cons (pv 0) (pa_cons (pv 6) pa_nil)) pk_nil))
      (pss_cons (ps_if (pt_cmpR (ka_eq K hr.units) (pv 3) pe_int (nomark _)) (pss_one (ps_set (i := 2) sc__law_spoilt.nd rfl (by first | exact Or.inl rfl | exact Or.inr rfl) (pe_op (ka_add K) (pe_slice (ka_sl K) (pv 2) po_none (po_some (pv 4))) (pe_slice (ka_sl K) (pv 2) (po_some (pe_op (ka_add K) (pv 4) pe_int)) po_none)))) (pss_one (ps_if (pt_cmpR (ka_eq K hr.units) (pv 3) pe_int (nomark _)) (pss_one (ps_set (i := 2) sc__law_spoilt.nd rfl (by first | exact Or.inl rfl | exact Or.inr rfl) (pe_op (ka_add K) (pe_op (ka_add K) (pe_slice (ka_sl K) (pv 2) po_none (po_some (pv 4))) (pe_lst (pa_cons (pv 6) pa_nil))) (pe_slice (ka_sl K) (pv 2) (po_some (pv 4)) po_none)))) (pss_one (ps_if (pt_cmpR (ka_eq K hr.units) (pv 3) pe_int (nomark _)) (pss_one (ps_set (i := 2) sc__law_spoilt.nd rfl (by first | exact Or.inl rfl | exact Or.inr rfl) (pe_op (ka_add K) (pe_op (ka_add K) (pe_slice (ka_sl K) (pv 2) po_none (po_some (pv 4))) (pe_lst (pa_cons (pv 6) pa_nil))) (pe_slice (ka_sl K) (pv 2) (po_some (pe_op (ka_add K) (pv 4) pe_int)) po_none)))) (pss_one (ps_if (pt_cmpR (ka_eq K hr.units) (pv 3) pe_int (nomark _)) (pss_one (ps_set (i := 2) sc__law_spoilt.nd rfl (by first | exact Or.inl rfl | exact Or.inr rfl) (pe_lc (own := [("_law_k", 8), ("_law_word", 9)]) (g := (gTup K 2 (gCons (gName 8) (gCons (gName 9) gNil)))) (tt := tYes) rfl sc__law_spoilt.nd (pi_enum (by rfl) T.nb_enumerate (pa_cons (pv 2) pa_nil)) (blkOk_by (N := (["_law_state", "_law_text", "_law_words", "_law_way", "_law_at", "_law_other", "_law_more", "_law_spot", "_law_k", "_law_word"] : List Str)) (sc := defScope s__law_spoilt) (by decide +kernel)) (fun _ _ _ _ _ => (kg_tup (n := 2) K rfl (pgs_cons (pg_name (i := 8) sc__law_spoilt.nd rfl (by first | exact Or.inl rfl | exact Or.inr rfl)) (pgs_cons (pg_name (i := 9) sc__law_spoilt.nd rfl (by first | exact Or.inl rfl | exact Or.inr rfl)) pgs_nil)))) (fun _ _ _ _ _ => pts_nil) (fun _ _ _ _ _ => (pe_ifExp (pt_cmpR (ka_eq K hr.units) (pv 8) (pv 4) (nomark _)) (pe_ix (ka_ix K) (pv 2) (pv 5) (fun _ _ => rfl)) (pe_ifExp (pt_cmpR (ka_eq K hr.units) (pv 8) (pv 5) (nomark _)) (pe_ix (ka_ix K) (pv 2) (pv 4) (fun _ _ => rfl)) (pv 9))))))) (pss_one (ps_if (pt_cmpR (ka_eq K hr.units) (pv 3) pe_int (nomark _)) (pss_cons (ps_set (i := 7) sc__law_spoilt.nd rfl (by first | exact Or.inl rfl | exact Or.inr rfl) (pe_callG Gd (hr.mono (by decide)) tk (pa_cons (pv 0) (pa_cons (pe_op (ka_add K) (pe_callB (ka_len K) (by rfl) T.nb_len (by decide +kernel) (pa_cons (pv 1) pa_nil)) pe_int) pa_nil)) pk_nil))
      (pss_one (ps_ret (pe_op (ka_add K) (pe_op (ka_add K) (pe_slice (ka_sl K) (pv 1) po_none (po_some (pv 7))) (pe_callG Gp (hr.mono (by decide)) tk (pa_cons (pv 0) (pa_cons (pe_lst (pa_cons pe_str (pa_cons pe_str (pa_cons pe_str (pa_cons pe_str (pa_cons pe_str pa_nil)))))) pa_nil)) pk_nil)) (pe_slice (ka_sl K) (pv 1) (po_some (pv 7)) po_none))))) pss_nil)))))))))
      (pss_one (ps_ret (ke_join K pe_str (pv 2))))))))), ?_⟩
  walk_at "go"
  refine g_split w (by decide) (by rw [sizeLine_eq]; omega) fun p H1 n1 w1 => ?_
  have hp : upd G p (.lst ((Txt.split t " ").map V.str)) p = some (.lst ((Txt.split t " ").map V.str)) := upd_same
  have sG : Same G (upd G p (.lst ((Txt.split t " ").map V.str))) := Same.newG n1
  have hne := split_ne t
  have hw := split_weight' t
  generalize Txt.split t " " = ws at *
  generalize upd G p (.lst (ws.map V.str)) = G1 at *
  have n0 : 0 < ws.length := List.length_pos_iff.mpr hne
  have nl : ws.length ≤ t.length + 1 := by
    unfold weight at hw
    omega
  have hs : SqL K G1 p (ws.map V.str) := SqL.of hp
  have fin : ∀ (q : Addr) (us : List Str) (Gx : Hp) (H' : Hp), Same G1 Gx → Gx q = some (.lst (us.map V.str)) → weight us ≤ 3 * t.length + 20 → Wd Gx (RD a c) H' → rJoin K (.str " ") [.ref q] H' Q := fun q us Gx H' e hq hl w' => by
    have jw := join_weight us
    refine g_join w' (SqL.of hq) (by have e1 : (" " : Str).length = 1 := rfl; rw [e1]; unfold weight at hl; omega) ?_
    exact k _ _ (by omega) (w'.drop (Same.trans sG e))
  walk_at "go"
  refine ⟨rfl, rfl, G1, a, c, 6, rfl, w1, by decide, by decide, fun way H2 r0 r1 w2 => ?_⟩
  walk_at "go"
  refine g_newL w2 (by walk_at "sz") fun tp H3 n3 w3 => ?_
  refine ⟨tp, _, rfl, SqT.of (w3.get upd_same), rfl, ?_⟩
  replace w3 := w3.drop (Same.newG n3)
  walk_at "go"
  refine g_lenL w3 hs ?_
  rw [List.length_map]
  walk_at "go"
  refine ⟨rfl, rfl, G1, a, c, _, rfl, w3, by omega, by omega, fun at_ H4 a0 a1 w4 => ?_⟩
  walk_at "go"
  refine g_lenL w4 hs ?_
  rw [List.length_map]
  walk_at "go"
  refine ⟨rfl, rfl, G1, a, c, _, rfl, w4, by omega, by omega, fun ot H5 o0 o1 w5 => ?_⟩
  walk_at "go"
  refine g_newL w5 (by walk_at "sz") fun tp6 H6 n6 w6 => ?_
  refine ⟨tp6, _, rfl, SqT.of (w6.get upd_same), rfl, ?_⟩
  replace w6 := w6.drop (Same.newG n6)
  walk_at "go"
  refine g_newL w6 (by walk_at "sz") fun p7 H7 n7 w7 => ?_
  walk_at "go"
  refine ⟨rfl, rfl, _, a, c, w7, .inl ⟨p7, moreW.map V.str, rfl, .inl (SqL.of upd_same), by decide, by decide, fun x H8 hx w8 => ?_⟩⟩
  replace w8 := w8.drop (Same.newG n7)
  obtain ⟨more, hm, rfl⟩ := List.mem_map.mp hx
  have hml := moreW_len more hm
  walk_at "go"
  obtain ⟨ka, rfl⟩ : ∃ j : Nat, at_ = j := ⟨at_.toNat, by omega⟩
  obtain ⟨ko, rfl⟩ : ∃ j : Nat, ot = j := ⟨ot.toNat, by omega⟩
  have hka : ka < ws.length := by omega
  have hko : ko < ws.length := by omega
  have at_ : ∀ i : Nat, i < ws.length → atI (ws.map V.str) (i : Int) = some (.str (wAt ws i)) := fun i hi => atI_nat (by
    unfold wAt
    rw [List.getElem?_map, List.getElem?_eq_getElem hi, List.getD_eq_getElem?_getD, List.getElem?_eq_getElem hi]
    rfl)
  have wl : ∀ i : Nat, i < ws.length → (wAt ws i).length ≤ weight ws := fun i hi => by
    refine mem_weight ?_
    unfold wAt
    rw [List.getD_eq_getElem?_getD, List.getElem?_eq_getElem hi]
    exact List.getElem_mem hi
  refine g_eqS rfl ?_
  walk_at "go"
  refine iteD (fun h1 => ?_) (fun h1 => ?_)
  · walk_at "go"
    obtain ⟨u1, e1, l1⟩ := cutV_strs ws none (some (ka : Int))
    obtain ⟨u2, e2, l2⟩ := cutV_strs ws (some ((ka : Int) + 1)) none
    refine g_slL w8 hs fun p9 H9 n9 w9 => ?_
    walk_at "go"
    refine g_slL w9 (SqL.of (upd_old hp n9)) fun p10 H10 n10 w10 => ?_
    rw [e1] at w9 n10
    rw [e1, e2] at w10
    refine g_addL w10 (upd_old upd_same n10) upd_same (by unfold weight at *; rw [sizeLine_eq, List.length_map, List.length_map]; omega) fun p11 H11 n11 w11 => ?_
    rw [← List.map_append] at w11
    walk_at "go"
    exact fin p11 _ _ _ (Same.trans (Same.trans (Same.newG n9) (Same.newG n10)) (Same.newG n11)) upd_same (by rw [weight_app]; omega) w11
  walk_at "go"
  refine g_eqS rfl ?_
  walk_at "go"
  have add3 : ∀ {u1 u2 : List Str}, weight u1 ≤ weight ws → weight u2 ≤ weight ws → weight (u1 ++ [more] ++ u2) ≤ 3 * t.length + 20 := fun h1 h2 => by
    rw [weight_app, weight_app]
    have : weight [more] = more.length + 1 := by
      unfold weight
      simp
    omega
  have len3 : ∀ {u1 u2 : List Str}, weight u1 ≤ weight ws → weight u2 ≤ weight ws → u1.length ≤ 200000 ∧ u2.length ≤ 200000 := fun h1 h2 => by
    unfold weight at *
    omega
  refine iteD (fun h2 => ?_) (fun h2 => ?_)
  · walk_at "go"
    obtain ⟨u1, e1, l1⟩ := cutV_strs ws none (some (ka : Int))
    obtain ⟨u2, e2, l2⟩ := cutV_strs ws (some (ka : Int)) none
    obtain ⟨z1, z2⟩ := len3 l1 l2
    refine g_slL w8 hs fun p9 H9 n9 w9 => ?_
    rw [e1] at w9
    walk_at "go"
    refine g_newL w9 (by walk_at "sz") fun p10 H10 n10 w10 => ?_
    refine g_addL w10 (upd_old upd_same n10) upd_same (by rw [sizeLine_eq, List.length_map]; show _ + 1 ≤ _; omega) fun p11 H11 n11 w11 => ?_
    walk_at "go"
    refine g_slL w11 (SqL.of (upd_old (upd_old (upd_old hp n9) n10) n11)) fun p12 H12 n12 w12 => ?_
    rw [e2] at w12
    refine g_addL w12 (upd_old upd_same n12) upd_same (by rw [sizeLine_eq, List.length_append, List.length_map, List.length_map]; show _ + 1 + _ ≤ _; omega) fun p13 H13 n13 w13 => ?_
    have em : u1.map V.str ++ [V.str more] ++ u2.map V.str = (u1 ++ [more] ++ u2).map V.str := by simp
    rw [em] at w13
    walk_at "go"
    exact fin p13 _ _ _ (Same.trans (Same.trans (Same.trans (Same.trans (Same.newG n9) (Same.newG n10)) (Same.newG n11)) (Same.newG n12)) (Same.newG n13)) upd_same (add3 l1 l2) w13
  walk_at "go"
  refine g_eqS rfl ?_
  walk_at "go"
  refine iteD (fun h3 => ?_) (fun h3 => ?_)
  · walk_at "go"
    obtain ⟨u1, e1, l1⟩ := cutV_strs ws none (some (ka : Int))
    obtain ⟨u2, e2, l2⟩ := cutV_strs ws (some ((ka : Int) + 1)) none
    obtain ⟨z1, z2⟩ := len3 l1 l2
    refine g_slL w8 hs fun p9 H9 n9 w9 => ?_
    rw [e1] at w9
    walk_at "go"
    refine g_newL w9 (by walk_at "sz") fun p10 H10 n10 w10 => ?_
    refine g_addL w10 (upd_old upd_same n10) upd_same (by rw [sizeLine_eq, List.length_map]; show _ + 1 ≤ _; omega) fun p11 H11 n11 w11 => ?_
    walk_at "go"
    refine g_slL w11 (SqL.of (upd_old (upd_old (upd_old hp n9) n10) n11)) fun p12 H12 n12 w12 => ?_
    rw [e2] at w12
    refine g_addL w12 (upd_old upd_same n12) upd_same (by rw [sizeLine_eq, List.length_append, List.length_map, List.length_map]; show _ + 1 + _ ≤ _; omega) fun p13 H13 n13 w13 => ?_
    have em : u1.map V.str ++ [V.str more] ++ u2.map V.str = (u1 ++ [more] ++ u2).map V.str := by simp
    rw [em] at w13
    walk_at "go"
    exact fin p13 _ _ _ (Same.trans (Same.trans (Same.trans (Same.trans (Same.newG n9) (Same.newG n10)) (Same.newG n11)) (Same.newG n12)) (Same.newG n13)) upd_same (add3 l1 l2) w13
  walk_at "go"
  refine g_eqS rfl ?_
  walk_at "go"
  refine iteD (fun h4 => ?_) (fun h4 => ?_)
  · walk_at "go"
    refine ⟨p, _, rfl, SqL.of (w8.get hp), ?_⟩
    refine lc_it (itf_enum (xs := ws.map V.str)) w8 (fun H' e => SqL.of (e _ _ hp)) (by rw [sizeLine_eq, List.length_map]; omega)
      (fun i _ acc => ∃ ys : List Str, acc = ys.map V.str ∧ weight ys ≤ weight (ws.take i) + (if ka < i then weight ws else 0) + (if ko < i then weight ws else 0)) ⟨[], rfl, by simp [weight]⟩ ?_ ?_
    · rintro i x Gi acc D H9 H9' hi e nD ⟨ys, rfl, hy⟩ hl2 w9 ⟨T, y, rfl, nT, rfl, hx⟩
      obtain ⟨s, rfl, hsx⟩ := getStr hx
      have nT' := w9.free nT
      have w10 := w9.new (o := .tup [.int (i : Nat), .str s]) nT
      rw [List.length_map] at hi
      have tk1 : weight (ws.take (i + 1)) = weight (ws.take i) + (s.length + 1) := by
        rw [List.take_add_one, hsx, weight_app]
        unfold weight
        simp
      have keep : ∀ (z : Str) (H10 : Hp), weight (ys ++ [z]) ≤ weight (ws.take (i + 1)) + (if ka < i + 1 then weight ws else 0) + (if ko < i + 1 then weight ws else 0) → Wd (upd (upd Gi D (.lst (ys.map V.str))) T (.tup [.int (i : Nat), .str s])) (RD a c) H10 → _ := fun z H10 hz w11 =>
        lc_keep (y := .str z) (n := (ws.map V.str).length) (Pv := fun i _ acc => ∃ ys : List Str, acc = ys.map V.str ∧ weight ys ≤ weight (ws.take i) + (if ka < i then weight ws else 0) + (if ko < i then weight ws else 0)) (w11.drop (Same.newG nT')) e nD hl2 (by rw [List.length_map]; exact hi) (by rw [sizeLine_eq, List.length_map]; omega) ⟨ys ++ [z], by simp, hz⟩
      have w1e : ∀ z : Str, weight (ys ++ [z]) = weight ys + (z.length + 1) := fun z => by
        rw [weight_app]
        unfold weight
        simp
      walk_at "go"
      refine ⟨T, _, rfl, SqT.of (w10.get upd_same), rfl, ?_⟩
      walk_at "go"
      refine ⟨rfl, ?_⟩
      walk_at "go"
      refine g_eqS rfl ?_
      walk_at "go"
      have hpi : SqL K (upd (upd Gi D (.lst (ys.map V.str))) T (.tup [.int (i : Nat), .str s])) p (ws.map V.str) := SqL.of (upd_old (upd_old (e _ _ hp) nD) nT')
      refine iteD (fun g1 => ?_) (fun g1 => ?_)
      · walk_at "go"
        refine g_ixL w10 hpi (at_ ko hko) ?_
        have gi : i = ka := by have := V.int.inj g1; omega
        refine keep _ _ ?_ w10
        rw [w1e, tk1]
        have hz := wl ko hko
        have m1 : weight ys ≤ weight (ws.take i) + (if ko < i then weight ws else 0) := by
          rw [if_neg (show ¬ ka < i by omega)] at hy
          omega
        rw [if_pos (show ka < i + 1 by omega)]
        split at m1 <;> split <;> omega
      · have gi : i ≠ ka := fun q => g1 (by rw [q])
        walk_at "go"
        refine g_eqS rfl ?_
        walk_at "go"
        have ha1 : (ka < i + 1) = (ka < i) := propext ⟨fun _ => by omega, fun _ => by omega⟩
        refine iteD (fun g2 => ?_) (fun g2 => ?_)
        · walk_at "go"
          refine g_ixL w10 hpi (at_ ka hka) ?_
          have gj : i = ko := by have := V.int.inj g2; omega
          refine keep _ _ ?_ w10
          rw [w1e, tk1]
          have hz := wl ka hka
          rw [if_neg (show ¬ ko < i by omega)] at hy
          rw [if_pos (show ko < i + 1 by omega)]
          split at hy <;> split <;> omega
        · have gj : i ≠ ko := fun q => g2 (by rw [q])
          walk_at "go"
          refine keep _ _ ?_ w10
          rw [w1e, tk1]
          split at hy <;> split at hy <;> split <;> split <;> omega
    · rintro D Gn acc H9 e nD ⟨ys, rfl, hy⟩ hl2 w9
      walk_at "go"
      refine fin D ys _ _ (Same.trans e (Same.newG nD)) upd_same ?_ w9
      have := weight_take ws ((ws.map V.str).length)
      split at hy <;> split at hy <;> omega
  walk_at "go"
  refine g_eqS rfl ?_
  walk_at "go"
  refine iteD (fun h5 => ?_) (fun h5 => ?_)
  · have hts : t.length ≤ sizeLine := by rw [sizeLine_eq]; omega
    walk_at "go"
    refine g_lenS hts ?_
    walk_at "go"
    refine ⟨rfl, rfl, G1, a, c, _, rfl, w8, by omega, by omega, fun sp H9 s0 s1 w9 => ?_⟩
    walk_at "go"
    refine g_slS hts ?_
    walk_at "go"
    refine g_newL w9 (by walk_at "sz") fun p10 H10 n10 w10 => ?_
    walk_at "go"
    refine ⟨rfl, rfl, _, a, c, w10, .inl ⟨p10, signW.map V.str, rfl, .inl (SqL.of upd_same), by decide, by decide, fun x H11 hx w11 => ?_⟩⟩
    obtain ⟨sg, hsg, rfl⟩ := List.mem_map.mp hx
    have hsl := signW_len sg hsg
    have c1 := cutS_length t none (some sp)
    have c2 := cutS_length t (some sp) none
    refine g_addS (by rw [sizeLine_eq]; omega) ?_
    walk_at "go"
    refine g_slS hts ?_
    refine g_addS (by rw [sizeLine_eq, Str.length_append]; omega) ?_
    refine k _ _ (by rw [Str.length_append, Str.length_append]; omega) ((w11.drop (Same.newG n10)).drop sG)
  · walk_at "go"
    exact fin p ws _ _ (Same.refl G1) hp (by omega) w8
end
end Sv


set_option Elab.async false
set_option linter.all false
set_option maxRecDepth 100000
set_option maxHeartbeats 4000000
namespace Sv
open PySem PySem.Spec PyProof.Rows L2 Sw
theorem low_nospace {s : Str} (h : lowS s = true) : 32 ∉ TL.tl s := fun z => by
  unfold lowS at h
  have := List.all_eq_true.mp h 32 z
  rw [decide_eq_true_eq] at this
  revert this
  decide +kernel
theorem isNm_low {s : Str} (h : isNm s = true) : lowS s = true := by
  unfold isNm at h
  exact (Bool.and_eq_true_iff.mp h).2
theorem words_nospace {c : Col} (h : c.ok) : ∀ w ∈ c.words, 32 ∉ TL.tl w := by
  have hk : 32 ∉ TL.tl (kstr c.k) := by
    cases c.k <;> decide +kernel
  have hn := low_nospace (isNm_low h.1)
  have ho : ∀ w ∈ optW c.opt, 32 ∉ TL.tl w := by
    unfold optW
    split
    · decide +kernel
    · intro w hw
      cases hw
  intro w hw
  unfold Col.words at hw
  split at hw
  · rename_i e
    obtain ⟨h2, h3⟩ := h.2 e
    simp only [List.mem_append, List.mem_cons, List.not_mem_nil, or_false] at hw
    rcases hw with ((rfl | rfl | rfl) | hw) | rfl
    · exact hk
    · exact hn
    · exact low_nospace (isNm_low h2)
    · exact ho w hw
    · rcases ruleOk_mem h3 with q | q | q <;> rw [q] <;> decide +kernel
  · unfold Col.words0 at hw
    simp only [List.mem_append, List.mem_cons, List.not_mem_nil, or_false] at hw
    rcases hw with (rfl | rfl) | hw
    · exact hk
    · exact hn
    · exact ho w hw
theorem words_ne (c : Col) : c.words ≠ [] := by
  unfold Col.words Col.words0
  split <;> exact fun z => nomatch z
theorem split_text {c : Col} (h : c.ok) : Txt.split c.text " " = c.words :=
  TL.split_join (s := 32) (S := []) rfl (by decide +kernel) (words_ne c) (words_nospace h)
theorem text_words {c : Col} {s : Str} (h : c.ok) : c.text = s ↔ c.words = Txt.split s " " := by
  constructor
  · rintro rfl
    exact (split_text h).symm
  · intro e
    unfold Col.text
    rw [e, TL.join_eq]
    exact StrLaws.join_split s " "
theorem kd_cases {w : Str} (h : w ∈ (["int", "text"] : List Str)) : w = "int" ∨ w = "text" := by
  simpa using h
theorem text_of {ws : List Str} (h : isTextP ws) : ∃ c, mkCol ws = some c ∧ c.ok ∧ c.words = ws := by
  rcases h with ⟨h0, h1, h2, ⟨hl, h3⟩ | ⟨hl, h3, h4⟩⟩ | ⟨hn, h0, h1, hl | ⟨hl, h2⟩⟩
  · match ws, hl with
    | [a, b, c, d], _ =>
      have h0 : a = "ref" := h0
      subst h0
      refine ⟨⟨.ref, b, false, c, d⟩, by unfold mkCol; rw [if_pos ⟨rfl, .inl rfl⟩]; rfl, ⟨h1, fun _ => ⟨h2, ?_⟩⟩, rfl⟩
      have h3 : d ∈ (["restrict", "cascade"] : List Str) := h3
      show ruleOk d false = true
      simp only [List.mem_cons, List.not_mem_nil, or_false] at h3
      rcases h3 with rfl | rfl <;> decide +kernel
  · match ws, hl with
    | [a, b, c, d, e], _ =>
      have h0 : a = "ref" := h0
      have h3 : d = "optional" := h3
      subst h0 h3
      refine ⟨⟨.ref, b, true, c, e⟩, by unfold mkCol; rw [if_pos ⟨rfl, .inr rfl⟩]; rfl, ⟨h1, fun _ => ⟨h2, ?_⟩⟩, rfl⟩
      have h4 : e ∈ (["restrict", "cascade", "clear"] : List Str) := h4
      show ruleOk e true = true
      simp only [List.mem_cons, List.not_mem_nil, or_false] at h4
      rcases h4 with rfl | rfl | rfl <;> decide +kernel
  · match ws, hl with
    | [a, b], _ =>
      have h0 : a ∈ (["int", "text"] : List Str) := h0
      rcases kd_cases h0 with rfl | rfl
      · exact ⟨⟨.int, b, false, "", ""⟩, by unfold mkCol; rw [if_neg (fun z => absurd z.1 hn), if_pos ⟨rfl, .inl rfl⟩]; rfl, ⟨h1, fun z => nomatch z⟩, rfl⟩
      · exact ⟨⟨.text, b, false, "", ""⟩, by unfold mkCol; rw [if_neg (fun z => absurd z.1 hn), if_neg (fun z => absurd z.1 (by show ("text" : Str) ≠ "int"; decide)), if_pos ⟨rfl, .inl rfl⟩]; rfl, ⟨h1, fun z => nomatch z⟩, rfl⟩
  · match ws, hl with
    | [a, b, c], _ =>
      have h0 : a ∈ (["int", "text"] : List Str) := h0
      have h2 : c = "optional" := h2
      subst h2
      rcases kd_cases h0 with rfl | rfl
      · exact ⟨⟨.int, b, true, "", ""⟩, by unfold mkCol; rw [if_neg (fun z => absurd z.1 hn), if_pos ⟨rfl, .inr rfl⟩]; rfl, ⟨h1, fun z => nomatch z⟩, rfl⟩
      · exact ⟨⟨.text, b, true, "", ""⟩, by unfold mkCol; rw [if_neg (fun z => absurd z.1 hn), if_neg (fun z => absurd z.1 (by show ("text" : Str) ≠ "int"; decide)), if_pos ⟨rfl, .inr rfl⟩]; rfl, ⟨h1, fun z => nomatch z⟩, rfl⟩
/-- the words of a column read as a text of the law -/
theorem text_col {c : Col} (h : c.ok) : isTextP c.words := by
  obtain ⟨k, n, o, t, r⟩ := c
  have hn : isNm n = true := h.1
  cases k with
  | ref =>
    obtain ⟨h2, h3⟩ := h.2 rfl
    have h2 : isNm t = true := h2
    have h3 : ruleOk r o = true := h3
    have hm := ruleOk_mem h3
    cases o with
    | false =>
      refine .inl ⟨rfl, hn, h2, .inl ⟨rfl, ?_⟩⟩
      show r ∈ (["restrict", "cascade"] : List Str)
      rcases hm with rfl | rfl | rfl
      · decide +kernel
      · exact absurd h3 (by decide +kernel)
      · decide +kernel
    | true =>
      refine .inl ⟨rfl, hn, h2, .inr ⟨rfl, rfl, ?_⟩⟩
      show r ∈ (["restrict", "cascade", "clear"] : List Str)
      rcases hm with rfl | rfl | rfl <;> decide +kernel
  | int =>
    cases o with
    | false => exact .inr ⟨by show ("int" : Str) ≠ "ref"; decide, by show ("int" : Str) ∈ _; decide +kernel, hn, .inl rfl⟩
    | true => exact .inr ⟨by show ("int" : Str) ≠ "ref"; decide, by show ("int" : Str) ∈ _; decide +kernel, hn, .inr ⟨rfl, rfl⟩⟩
  | text =>
    cases o with
    | false => exact .inr ⟨by show ("text" : Str) ≠ "ref"; decide, by show ("text" : Str) ∈ _; decide +kernel, hn, .inl rfl⟩
    | true => exact .inr ⟨by show ("text" : Str) ≠ "ref"; decide, by show ("text" : Str) ∈ _; decide +kernel, hn, .inr ⟨rfl, rfl⟩⟩
theorem parse_iff (s : Str) : isTextP (Txt.split s " ") ↔ (parseT s).isSome = true := by
  constructor
  · intro h
    obtain ⟨c, h1, h2, h3⟩ := text_of h
    unfold parseT
    rw [parseW_some h1 h2]
    simp only
    rw [if_pos ((text_words h2).mpr h3)]
    rfl
  · intro h
    obtain ⟨c, hc⟩ := Option.isSome_iff_exists.mp h
    obtain ⟨ok, et⟩ := parseT_ok hc
    rw [← (text_words ok).mp et]
    exact text_col ok
theorem parse_col {c : Col} (h : c.ok) : (parseT c.text).isSome = true := by
  rw [← parse_iff, split_text h]
  exact text_col h
end Sv

set_option Elab.async false
set_option linter.all false
set_option maxRecDepth 100000
set_option maxHeartbeats 4000000
namespace Sv
open PySem PySem.Spec PyProof.Rows L2 Sw
local macro_rules | `(tactic| walk_at "go1") => `(tactic| first
  | ((with_reducible refine' g_var ?hv ?_); (case hv => rfl))
  | with_reducible refine g_c ?_
  | with_reducible refine g_op ?_
  | with_reducible refine g_un ?_
  | with_reducible refine g_seq ?_
  | with_reducible refine g_next ?_
  | with_reducible refine g_asg ?_
  | with_reducible refine g_name ?_
  | with_reducible refine g_drop ?_
  | with_reducible refine g_sub ?_
  | with_reducible refine g_ret ?_
  | with_reducible refine g_retN ?_
  | with_reducible refine g_ifS ?_
  | with_reducible refine g_if ?_
  | with_reducible refine g_test ?_
  | with_reducible refine g_bl ?_
  | with_reducible refine g_cons ?_
  | with_reducible refine g_nil ?_
  | with_reducible refine g_and ?_
  | with_reducible refine g_or ?_
  | with_reducible refine g_not ?_
  | with_reducible refine g_callB ?_
  | with_reducible refine g_addI ?_
  | with_reducible refine g_I0 ?_
  | with_reducible refine g_calG ?_
  | with_reducible refine g_mkG ?_
  | with_reducible refine g_tup ?_
  | with_reducible refine g_lst ?_
  | with_reducible refine g_forL ?_
  | with_reducible refine g_forR ?_
  | with_reducible refine g_forR2 ?_
  | with_reducible refine g_forS ?_
  | with_reducible refine g_forE ?_
  | with_reducible refine g_lcL ?_
  | with_reducible refine g_lcR ?_
  | with_reducible refine g_lcS ?_
  | with_reducible refine g_lcE ?_
  | with_reducible refine g_orT ?_
  | with_reducible refine g_slc ?_
  | with_reducible refine g_noPart ?_
  | with_reducible refine g_part ?_
  | with_reducible refine g_bm ?_
  | with_reducible refine g_par ?_
  | with_reducible refine g_yes ?_
  | with_reducible refine g_tupG ?_
  | with_reducible refine g_gcons ?_
  | with_reducible refine g_gnil ?_
  | with_reducible refine g_chain ?_
  | with_reducible refine g_truB ?_
  | with_reducible refine g_truN ?_
  | with_reducible refine g_truI ?_
  | with_reducible refine g_m1 ?_
  | with_reducible refine g_fld ?_
  | with_reducible refine g_con ?_
  | with_reducible refine g_tru ?_
  | with_reducible refine g_U ?_
  | with_reducible refine g_xg ?_
  | with_reducible refine g_andT ?_
  | with_reducible refine g_exI ?_
  | with_reducible refine g_dnew ?_
  | with_reducible refine g_intB ?_
  | with_reducible refine g_meth ?_
  | with_reducible refine g_prop ?_
  | with_reducible refine g_exc1 ?_
  | with_reducible refine g_setF ?_
  | with_reducible refine g_star ?_
  | with_reducible refine g_strM ?_
  | with_reducible refine iteT ?_
  | with_reducible refine iteF ?_
  | with_reducible refine iteNT ?_
  | with_reducible refine iteNF ?_)
local macro_rules | `(tactic| walk_at "go") => `(tactic| repeat (walk_at "go1"))
local macro_rules | `(tactic| walk_at "sz") => `(tactic| (first | (rw [sizeLine_eq]; simp only [List.length_cons, List.length_nil, List.length_map, List.length_append, List.length_take]; omega) | (rw [sizeLine_eq]; omega)))
section
variable {P : Program} {wo : World} {A : Ad} {K : PySem.W.Frag} {mg : Str → Option Value} {base : Heap}

/-- what the text says of str: no other class -/
structure NsF (K : PySem.W.Frag) : Prop where
  n1 : PySem.W.kitOne K (.type "NoneType") (.type "str") = some false
  n2 : PySem.W.kitOne K (.type "int") (.type "str") = some false
  n3 : PySem.W.kitOne K (.type "bool") (.type "str") = some false
  n4 : PySem.W.kitOne K (.type "tuple") (.type "str") = some false
  n5 : PySem.W.kitOne K (.type "list") (.type "str") = some false
  n6 : PySem.W.kitOne K (.type "dict") (.type "str") = some false
def spLaw (K : PySem.W.Frag) : Sp := fun vs H Q _ => ∃ (s : Addr) (ns : List Int), vs = [.ref s] ∧ SqL K H s (ns.map V.int) ∧ ∀ H', Q (.bl true) H'
theorem sc_law : FnScope (["_law_script", "_law_state", "_law_turn", "_law_names_here", "_law_text", "_law_change"] : List Str) (["_law_script"] : List Str) (defScope s_law) := ⟨rfl, rfl, rfl, by decide +kernel, rfl, by decide +kernel, by decide +kernel⟩
theorem ok_law {f : Addr} {fd : FuncData} (F : Fun K "law" "law" s_law f fd) (T : Txt K mg A) (NF : NsF K) (Gb : GFn P wo K mg base 1 "_law_begun" 1 [] (fun vs _ => spBegun K vs)) (Gd : GFn P wo K mg base 1 "_law_draw" 2 [] (fun vs _ => spDraw vs)) (Gp : GFn P wo K mg base 2 "_law_pick" 2 [] (fun vs _ => spPick K vs))
    (Gns : GFn P wo K mg base 3 "_law_names" 2 [] (fun vs _ => spNames vs)) (Glc : GFn P wo K mg base 3 "_law_column" 3 [] (fun vs _ => spColumn K vs)) (Glct : GFn P wo K mg base 1 "_law_column_text" 1 [] (fun vs _ => spColText K vs))
    (Glr : GFn P wo K mg base 8 "_law_read" 1 [] (fun vs _ => spRead K vs)) (Gsp : GFn P wo K mg base 3 "_law_spoilt" 2 [] (fun vs _ => spSpoilt vs)) (Glt : GFn P wo K mg base 2 "_law_is_text" 1 [] (fun vs _ => spLText vs)) : FnOk P wo K mg base (L2.CX P wo) 9 f fd (["_law_script"] : List Str) (spLaw K) := by
  refine okT F sc_law (fun vs H Q E h => ?_) (fun cdv Ar outer s H vs Q E hr tk po h => ?_)
  · obtain ⟨_, _, rfl, _⟩ := h
    rfl
  obtain ⟨l, ns, rfl, hl, k⟩ := h
  refine ⟨_, (pss_cons (ps_set (i := 1) sc_law.nd rfl (by first | exact Or.inl rfl | exact Or.inr rfl) (pe_callG Gb (hr.mono (by decide)) tk (pa_cons (pv 0) pa_nil) pk_nil))
      (pss_cons (ps_for po rfl (pi_range1 (by rfl) T.nb_range (pa_cons pe_int pa_nil)) (pg_name (i := 2) sc_law.nd rfl (by first | exact Or.inl rfl | exact Or.inr rfl)) (pss_cons (ps_set (i := 3) sc_law.nd rfl (by first | exact Or.inl rfl | exact Or.inr rfl) (pe_callG Gns (hr.mono (by decide)) tk (pa_cons (pv 1) (pa_cons pe_int pa_nil)) pk_nil))
      (pss_cons (ps_set (i := 4) sc_law.nd rfl (by first | exact Or.inl rfl | exact Or.inr rfl) (pe_callG Glct (hr.mono (by decide)) tk (pa_cons (pe_callG Glc (hr.mono (by decide)) tk (pa_cons (pv 1) (pa_cons (pv 3) (pa_cons (pe_ix (ka_ix K) (pv 3) pe_int (fun _ _ => rfl)) pa_nil))) pk_nil) pa_nil) pk_nil))
      (pss_cons (ps_if (pt_cmpR (ka_ne K hr.units) (pe_callG Glr (hr.mono (by decide)) tk (pa_cons (pv 4) pa_nil) pk_nil) (pv 4) (nomark _)) (pss_one (ps_ret pe_bl)) pss_nil)
      (pss_cons (ps_for po rfl (pi_range1 (by rfl) T.nb_range (pa_cons (pe_callG Gd (hr.mono (by decide)) tk (pa_cons (pv 1) (pa_cons pe_int pa_nil)) pk_nil) pa_nil)) (pg_name (i := 5) sc_law.nd rfl (by first | exact Or.inl rfl | exact Or.inr rfl)) (pss_one (ps_set (i := 4) sc_law.nd rfl (by first | exact Or.inl rfl | exact Or.inr rfl) (pe_callG Gsp (hr.mono (by decide)) tk (pa_cons (pv 1) (pa_cons (pv 4) pa_nil)) pk_nil))))
      (pss_cons (ps_if (pt_cmpR (ka_ne K hr.units) (pe_callG Glr (hr.mono (by decide)) tk (pa_cons (pv 4) pa_nil) pk_nil) (pe_ifExp (kt_truth K (pe_callG Glt (hr.mono (by decide)) tk (pa_cons (pv 4) pa_nil) pk_nil) (by intro _; rfl)) (pv 4) (pe_lst (pa_cons pe_int pa_nil))) (nomark _)) (pss_one (ps_ret pe_bl)) pss_nil)
      (pss_one (ps_if (pt_cmpR (ka_ne K hr.units) (pe_callG Glr (hr.mono (by decide)) tk (pa_cons (pe_callG Gp (hr.mono (by decide)) tk (pa_cons (pv 1) (pa_cons (pe_lst (pa_cons pe_non (pa_cons pe_int (pa_cons pe_bl (pa_cons (pe_tup pa_nil) (pa_cons (pe_lst pa_nil) (pa_cons pe_dnewK (pa_cons (pe_lst (pa_cons pe_str (pa_cons pe_str pa_nil))) (pa_cons (pe_tup (pa_cons pe_str (pa_cons pe_str pa_nil))) pa_nil))))))))) pa_nil)) pk_nil) pa_nil) pk_nil) (pe_lst (pa_cons pe_int pa_nil)) (nomark _)) (pss_one (ps_ret pe_bl)) pss_nil))))))))
      (pss_one (ps_ret pe_bl)))), ?_⟩
  walk_at "go"
  refine ⟨rfl, rfl, l, ns, rfl, hl, fun a c H1 w1 => ?_⟩
  walk_at "go"
  refine ⟨8, rfl, by decide, by decide, ?_⟩
  refine for_it itf_range (fun i σ' H' => ∃ t2 t3 t4 t5, σ' = [some (.ref l), some (.ref a), t2, t3, t4, t5] ∧ Wd H (RD a c) H') ⟨none, none, none, none, rfl, w1⟩ (fun _ _ _ _ _ => True.intro) ?_ ?_
  · rintro i x σ' H' H'' hi ⟨t2, t3, t4, t5, rfl, w⟩ ⟨rfl, rfl⟩
    walk_at "go"
    refine ⟨rfl, rfl, H, a, c, 2, rfl, by decide, by decide, w, fun pn H2 nm nl nn nd np w2 => ?_⟩
    obtain ⟨n1, n2, rfl⟩ : ∃ n1 n2, nm = [n1, n2] := by
      match nm, nl with
      | [n1, n2], _ => exact ⟨n1, n2, rfl⟩
    walk_at "go"
    refine g_ixL w2 (SqL.of upd_same) (v := .str n1) (atI_nat (j := 0) rfl) ?_
    walk_at "go"
    refine ⟨rfl, rfl, _, a, c, pn, n1, [n1, n2], rfl, w2, upd_same, (show 0 < 2 by decide), (show 2 ≤ 1000 by decide), fun co p H3 e1 e2 np3 w3 => ?_⟩
    have ok : co.ok := ⟨by rw [e1]; exact nn n1 (by simp), fun z => ⟨nn _ (e2 z).1, (e2 z).2⟩⟩
    walk_at "go"
    refine ⟨rfl, rfl, _, _, p, co, rfl, w3, SqT.of upd_same, ok, fun H4 w4 => ?_⟩
    replace w4 := (w4.drop (Same.newG np3)).drop (Same.newG np)
    have hcl : co.text.length ≤ 64 := by
      have h1 := join_weight co.words
      have h2 := Col.text_len ok
      unfold weight at h1
      exact Nat.le_trans h1 (by omega)
    walk_at "go"
    refine ⟨rfl, rfl, H, _, _, rfl, w4, .inl ⟨_, rfl, by omega, fun _ H5 w5 => ?_, fun z => absurd (parse_col ok) (by rw [z]; exact Bool.false_ne_true)⟩⟩
    walk_at "go"
    refine g_neS rfl ?_
    rw [decide_eq_true (show V.str co.text = V.str co.text from rfl)]
    walk_at "go"
    refine ⟨rfl, rfl, H, a, c, 4, rfl, w5, by decide, by decide, fun r H6 r0 r1 w6 => ?_⟩
    walk_at "go"
    refine ⟨r, rfl, by omega, by omega, ?_⟩
    generalize co.text = tx at *
    refine for_it itf_range (fun j σ' H' => ∃ t5, ∃ tx : Str, σ' = [some (.ref l), some (.ref a), some (.int (0 + (i : Nat))), some (.ref pn), some (.str tx), t5] ∧ tx.length ≤ (if j = 0 then 64 else if j = 1 then 212 else if j = 2 then 656 else 1988) ∧ Wd H (RD a c) H') ⟨t5, tx, rfl, hcl, w6⟩ (fun _ _ _ _ _ => True.intro) ?_ ?_
    · rintro j x σ' H' H'' hj ⟨t5, tx, rfl, htx, w⟩ ⟨rfl, rfl⟩
      walk_at "go"
      have hj3 : j < 3 := by omega
      have hb : tx.length ≤ 100000 := by
        split at htx
        · omega
        · split at htx
          · omega
          · split at htx <;> omega
      refine ⟨rfl, rfl, H, a, c, tx, rfl, w, hb, fun t' H7 ht' w7 => ?_⟩
      walk_at "go"
      refine ⟨_, t', rfl, ?_, w7⟩
      have : j = 0 ∨ j = 1 ∨ j = 2 := by omega
      rcases this with rfl | rfl | rfl
      · simp at htx ⊢
        omega
      · simp at htx ⊢
        omega
      · simp at htx ⊢
        omega
    · rintro σ' H' ⟨t5, tx, rfl, htx, w⟩
      have hb : tx.length ≤ 100000 := by
        split at htx
        · omega
        · split at htx
          · omega
          · split at htx <;> omega
      walk_at "go"
      refine ⟨rfl, rfl, H, _, _, rfl, w, .inl ⟨tx, rfl, by omega, fun hp H7 w7 => ?_, fun hp p H7 np7 w7 => ?_⟩⟩
      · walk_at "go"
        refine ⟨rfl, rfl, H, _, tx, rfl, w7, by omega, fun b H8 hb w8 => ?_⟩
        have : b = true := hb.mpr ((parse_iff tx).mpr hp)
        subst this
        walk_at "go"
        refine g_neS rfl ?_
        rw [decide_eq_true (show V.str tx = V.str tx from rfl)]
        walk_at "go"
        refine g_newL w8 (by walk_at "sz") fun q1 I1 m1 x1 => ?_
        walk_at "go"
        refine g_newL x1 (by walk_at "sz") fun q2 I2 m2 x2 => ?_
        walk_at "go"
        refine g_new x2 fun q3 I3 m3 x3 => ?_
        walk_at "go"
        refine g_newL x3 (by walk_at "sz") fun q4 I4 m4 x4 => ?_
        walk_at "go"
        refine g_newL x4 (by walk_at "sz") fun q5 I5 m5 x5 => ?_
        walk_at "go"
        refine g_newL x5 (by walk_at "sz") fun q6 I6 m6 x6 => ?_
        walk_at "go"
        refine ⟨rfl, rfl, _, a, c, x6, .inl ⟨q6, _, rfl, .inl (SqL.of upd_same), (show 0 < 8 by decide), (show 8 < 1000000 by decide), fun y I7 hy x7 => ?_⟩⟩
        walk_at "go"
        refine ⟨rfl, rfl, _, _, y, rfl, x7, .inr ⟨?_, fun p8 I8 m8 x8 => ?_⟩⟩
        · simp only [List.mem_cons, List.not_mem_nil, or_false] at hy
          rcases hy with rfl | rfl | rfl | rfl | rfl | rfl | rfl | rfl
          · exact ⟨_, .base .non, NF.n1⟩
          · exact ⟨_, .base (.int _), NF.n2⟩
          · exact ⟨_, .base (.bl _), NF.n3⟩
          · exact ⟨_, .base (.tup (upd_old (upd_old (upd_old (upd_old (upd_old upd_same m2) m3) m4) m5) m6)), NF.n4⟩
          · exact ⟨_, .base (.lst (upd_old (upd_old (upd_old (upd_old upd_same m3) m4) m5) m6)), NF.n5⟩
          · exact ⟨_, .base (.dK (upd_old (upd_old (upd_old upd_same m4) m5) m6)), NF.n6⟩
          · exact ⟨_, .base (.lst (upd_old (upd_old upd_same m5) m6)), NF.n5⟩
          · exact ⟨_, .base (.tup (upd_old upd_same m6)), NF.n4⟩
        walk_at "go"
        refine g_newL x8 (by walk_at "sz") fun q9 I9 m9 x9 => ?_
        refine g_neF x9 (SqL.of (upd_old upd_same m9)) (SqL.of upd_same) rfl rfl ?_
        rw [show eqVs [V.int 0] [V.int 0] = true from rfl]
        walk_at "go"
        exact ⟨_, _, _, _, rfl, x9.drop (Same.trans (Same.trans (Same.trans (Same.trans (Same.trans (Same.trans (Same.trans (Same.newG m1) (Same.newG m2)) (Same.newG m3)) (Same.newG m4)) (Same.newG m5)) (Same.newG m6)) (Same.newG m8)) (Same.newG m9))⟩
      · walk_at "go"
        refine ⟨rfl, rfl, _, _, tx, rfl, w7, by omega, fun b H8 hb w8 => ?_⟩
        have : b = false := by
          cases b with
          | false => rfl
          | true =>
            have := (parse_iff tx).mp (hb.mp rfl)
            rw [hp] at this
            cases this
        subst this
        walk_at "go"
        refine g_newL w8 (by walk_at "sz") fun q H9 nq w9 => ?_
        refine g_neF w9 (SqL.of (upd_old upd_same nq)) (SqL.of upd_same) rfl rfl ?_
        rw [show eqVs [V.int 0] [V.int 0] = true from rfl]
        replace w8 := (w9.drop (Same.newG nq)).drop (Same.newG np7)
        walk_at "go"
        refine g_newL w8 (by walk_at "sz") fun q1 I1 m1 x1 => ?_
        walk_at "go"
        refine g_newL x1 (by walk_at "sz") fun q2 I2 m2 x2 => ?_
        walk_at "go"
        refine g_new x2 fun q3 I3 m3 x3 => ?_
        walk_at "go"
        refine g_newL x3 (by walk_at "sz") fun q4 I4 m4 x4 => ?_
        walk_at "go"
        refine g_newL x4 (by walk_at "sz") fun q5 I5 m5 x5 => ?_
        walk_at "go"
        refine g_newL x5 (by walk_at "sz") fun q6 I6 m6 x6 => ?_
        walk_at "go"
        refine ⟨rfl, rfl, _, a, c, x6, .inl ⟨q6, _, rfl, .inl (SqL.of upd_same), (show 0 < 8 by decide), (show 8 < 1000000 by decide), fun y I7 hy x7 => ?_⟩⟩
        walk_at "go"
        refine ⟨rfl, rfl, _, _, y, rfl, x7, .inr ⟨?_, fun p8 I8 m8 x8 => ?_⟩⟩
        · simp only [List.mem_cons, List.not_mem_nil, or_false] at hy
          rcases hy with rfl | rfl | rfl | rfl | rfl | rfl | rfl | rfl
          · exact ⟨_, .base .non, NF.n1⟩
          · exact ⟨_, .base (.int _), NF.n2⟩
          · exact ⟨_, .base (.bl _), NF.n3⟩
          · exact ⟨_, .base (.tup (upd_old (upd_old (upd_old (upd_old (upd_old upd_same m2) m3) m4) m5) m6)), NF.n4⟩
          · exact ⟨_, .base (.lst (upd_old (upd_old (upd_old (upd_old upd_same m3) m4) m5) m6)), NF.n5⟩
          · exact ⟨_, .base (.dK (upd_old (upd_old (upd_old upd_same m4) m5) m6)), NF.n6⟩
          · exact ⟨_, .base (.lst (upd_old (upd_old upd_same m5) m6)), NF.n5⟩
          · exact ⟨_, .base (.tup (upd_old upd_same m6)), NF.n4⟩
        walk_at "go"
        refine g_newL x8 (by walk_at "sz") fun q9 I9 m9 x9 => ?_
        refine g_neF x9 (SqL.of (upd_old upd_same m9)) (SqL.of upd_same) rfl rfl ?_
        rw [show eqVs [V.int 0] [V.int 0] = true from rfl]
        walk_at "go"
        exact ⟨_, _, _, _, rfl, x9.drop (Same.trans (Same.trans (Same.trans (Same.trans (Same.trans (Same.trans (Same.trans (Same.newG m1) (Same.newG m2)) (Same.newG m3)) (Same.newG m4)) (Same.newG m5)) (Same.newG m6)) (Same.newG m8)) (Same.newG m9))⟩
  · rintro σ' H' ⟨t2, t3, t4, t5, rfl, w⟩
    walk_at "go"
    exact k _
end
end Sv


set_option Elab.async false
set_option linter.all false
set_option maxRecDepth 100000
set_option maxHeartbeats 4000000
namespace Sv
open PySem PySem.Spec PyProof.Rows L2 Sw
theorem exm2 {K : PySem.W.Frag} {cls c d : Value} {b1 b2 : Bool} (h1 : PySem.W.exmOne K cls c = some b1) (h2 : PySem.W.exmOne K cls d = some b2) : PySem.W.exmAny K cls [c, d] = some (b1 || (b2 || false)) := by
  unfold PySem.W.exmAny
  rw [h1]
  unfold PySem.W.exmAny
  rw [h2]
  rfl
theorem kit_self {K : PySem.W.Frag} {c : Addr} : PySem.W.kitOne K (.ref c) (.ref c) = some true := by
  unfold PySem.W.kitOne
  rw [if_pos (by simp)]
theorem words_not {c : Col} (h : c.k ≠ .ref) : c.words = c.words0 := by
  unfold Col.words
  rw [if_neg h]
theorem bindsup1 {K : PySem.W.Frag} {fd : FuncData} {p1 : Str} (h : ∀ a, bindArgs fd ⟨[a], []⟩ = pure ([p1].zip [a])) : Binds K fd [p1] [] := fun s us X hl => by
  rw [List.append_nil] at hl ⊢
  match us, hl with
  | [a], _ => exact BindsTo.of_eq (h a)
theorem bindsup2 {K : PySem.W.Frag} {fd : FuncData} {p1 p2 : Str} (h : ∀ a b, bindArgs fd ⟨[a, b], []⟩ = pure ([p1, p2].zip [a, b])) : Binds K fd [p1, p2] [] := fun s us X hl => by
  rw [List.append_nil] at hl ⊢
  match us, hl with
  | [a, b], _ => exact BindsTo.of_eq (h a b)
theorem all_mk {P : Program} {wo : World} {K : PySem.W.Frag} {h : Heap} {mg : Str → Option Value} {fa : Addr} (X : K.In h) (G : h.Ns mainGlobals mg) (hfa : mg "law" = some (.ref fa)) (hfile : ((P.main.file : Str) == "/claim/cut.py") = true) (htop : (P.main.scope.names.lookup ("super" : Str)).isSome = false)
    {c12 c14 c16 c18 c20 c22 c24 c26 a32 a43 N89 f108 cc119 ca120 N143 f162 cc173 ca174 N197 f216 cc227 ca228 f263 f277 D278 f295 cc306 ca307 f327 f343 cc354 ca355 p375 g376 f396 p410 g411 f429 f443 f457 f471 f485 f499 f513 f527 f541 f555 f569 : Addr}
    {t28 t30 t34 t35 t36 t37 t38 t45 t46 t47 t60 t71 t82 tf127 tf181 tf235 tf314 tf362 : Tok}
    {od39 od48 dd96 od116 an117 od125 od131 dd150 od170 an171 od179 od185 dd204 od224 an225 od233 od239 od271 an272 od287 an288 od303 an304 od312 od318 od336 an337 od351 an352 od360 od366 od390 an391 od404 an405 od423 an424 od437 an438 od451 an452 od465 an466 od479 an480 od493 an494 od507 an508 od521 an522 od535 an536 od549 an550 od563 an564 od577 an578 : Option Addr}
    {n40 n49 : Nat}
    {sl41 sl50 sl118 sl126 sl132 sl172 sl180 sl186 sl226 sl234 sl240 sl273 sl289 sl305 sl313 sl319 sl338 sl353 sl361 sl367 sl392 sl406 sl425 sl439 sl453 sl467 sl481 sl495 sl509 sl523 sl537 sl551 sl565 sl579 : Array (Option Value)}
    {nm87 q88 nm141 q142 nm195 q196 : Str}
    {bs90 bm91 sub93 bs144 bm145 sub147 bs198 bm199 sub201 rs382 rs413 : List Value}
    {sn92 sn146 sn200 : List Str}
    {ab94 ab148 ab202 : Bool}
    {col95 col149 col203 : Option Bool}
    {m97 m98 m99 m100 m101 m151 m152 m153 m154 m155 m205 m206 m207 m208 m209 : Option Value}
    {oc111 kV112 dc113 pm114 ct115 ol123 ol130 oc165 kV166 dc167 pm168 ct169 ol177 ol184 oc219 kV220 dc221 pm222 ct223 ol231 ol238 oc265 kV266 dc267 pm268 cd269 ct270 oc281 dc283 pm284 cd285 ct286 oc298 kV299 dc300 pm301 ct302 ol310 ol317 oc330 kV331 dc332 pm333 cd334 ct335 oc346 kV347 dc348 pm349 ct350 ol358 ol365 oc384 kV385 dc386 pm387 cd388 ct389 oc398 kV399 dc400 pm401 cd402 ct403 oc417 kV418 dc419 pm420 cd421 ct422 oc431 kV432 dc433 pm434 cd435 ct436 oc445 kV446 dc447 pm448 cd449 ct450 oc459 kV460 dc461 pm462 cd463 ct464 oc473 kV474 dc475 pm476 cd477 ct478 oc487 kV488 dc489 pm490 cd491 ct492 oc501 kV502 dc503 pm504 cd505 ct506 oc515 kV516 dc517 pm518 cd519 ct520 oc529 kV530 dc531 pm532 cd533 ct534 oc543 kV544 dc545 pm546 cd547 ct548 oc557 kV558 dc559 pm560 cd561 ct562 oc571 kV572 dc573 pm574 cd575 ct576 : Value}
    {va124 va178 va232 va311 va359 : Array Value}
    (h1 : PySem.W.nsIn K PySem.cStatics "thirdparty.any" = some none)
    (h2 : PySem.W.nsIn K mainGlobals "super" = some none)
    (h3 : PySem.W.nsIn K mainGlobals "isinstance" = some none)
    (h4 : PySem.W.nsIn K mainGlobals "str" = some none)
    (h5 : PySem.W.nsIn K mainGlobals "len" = some none)
    (h6 : PySem.W.nsIn K mainGlobals "all" = some none)
    (h7 : PySem.W.nsIn K mainGlobals "abs" = some none)
    (h8 : PySem.W.nsIn K mainGlobals "list" = some none)
    (h9 : PySem.W.nsIn K mainGlobals "range" = some none)
    (h10 : PySem.W.nsIn K mainGlobals "int" = some none)
    (h11 : PySem.W.nsIn K mainGlobals "enumerate" = some none)
    (h13 : PySem.W.nsIn K mainGlobals "SaveError" = some (some (.ref c12)))
    (h15 : PySem.W.nsIn K mainGlobals "InvalidName" = some (some (.ref c14)))
    (h17 : PySem.W.nsIn K mainGlobals "InvalidColumn" = some (some (.ref c16)))
    (h19 : PySem.W.nsIn K mainGlobals "InvalidText" = some (some (.ref c18)))
    (h21 : PySem.W.nsIn K mainGlobals "Column" = some (some (.ref c20)))
    (h23 : PySem.W.nsIn K mainGlobals "IntColumn" = some (some (.ref c22)))
    (h25 : PySem.W.nsIn K mainGlobals "TextColumn" = some (some (.ref c24)))
    (h27 : PySem.W.nsIn K mainGlobals "RefColumn" = some (some (.ref c26)))
    (h29 : PySem.W.nsIn K mainGlobals "LETTERS" = some (some (.str "abcdefghijklmnopqrstuvwxyz" t28)))
    (h31 : PySem.W.nsIn K mainGlobals "LONGEST_NAME" = some (some (.int 8 t30)))
    (h33 : PySem.W.nsIn K mainGlobals "RESERVED" = some (some (.ref a32)))
    (h42 : K.lookup a32 = some ⟨.type "tuple", od39, .seq #[.str "key" t34, .str "limit" t35, .str "order" t36, .str "self" t37, .str "table" t38] n40, sl41⟩)
    (h44 : PySem.W.nsIn K mainGlobals "RULES" = some (some (.ref a43)))
    (h51 : K.lookup a43 = some ⟨.type "tuple", od48, .seq #[.str "restrict" t45, .str "clear" t46, .str "cascade" t47] n49, sl50⟩)
    (h52 : PySem.W.plainGet K c22 Str.empty = true)
    (h53 : PySem.W.hasDictIn K c22 = true)
    (h54 : PySem.W.plainOver K c22 = true)
    (h55 : PySem.W.findIn K (.ref c22) "__setattr__" = some (some (.builtin "object.__setattr__")))
    (h56 : PySem.W.makesIn K c22 = true)
    (h57 : PySem.W.keepIn K (.ref c22) = true)
    (h58 : PySem.W.findIn K (.ref c22) "name" = some none)
    (h59 : PySem.W.findIn K (.ref c22) "optional" = some none)
    (h61 : PySem.W.findIn K (.ref c22) "KIND" = some (some (.str "int" t60)))
    (h62 : PySem.W.specialIn K (.str "int" t60) "__get__" = some none)
    (h63 : PySem.W.plainGet K c24 Str.empty = true)
    (h64 : PySem.W.hasDictIn K c24 = true)
    (h65 : PySem.W.plainOver K c24 = true)
    (h66 : PySem.W.findIn K (.ref c24) "__setattr__" = some (some (.builtin "object.__setattr__")))
    (h67 : PySem.W.makesIn K c24 = true)
    (h68 : PySem.W.keepIn K (.ref c24) = true)
    (h69 : PySem.W.findIn K (.ref c24) "name" = some none)
    (h70 : PySem.W.findIn K (.ref c24) "optional" = some none)
    (h72 : PySem.W.findIn K (.ref c24) "KIND" = some (some (.str "text" t71)))
    (h73 : PySem.W.specialIn K (.str "text" t71) "__get__" = some none)
    (h74 : PySem.W.plainGet K c26 Str.empty = true)
    (h75 : PySem.W.hasDictIn K c26 = true)
    (h76 : PySem.W.plainOver K c26 = true)
    (h77 : PySem.W.findIn K (.ref c26) "__setattr__" = some (some (.builtin "object.__setattr__")))
    (h78 : PySem.W.makesIn K c26 = true)
    (h79 : PySem.W.keepIn K (.ref c26) = true)
    (h80 : PySem.W.findIn K (.ref c26) "name" = some none)
    (h81 : PySem.W.findIn K (.ref c26) "optional" = some none)
    (h83 : PySem.W.findIn K (.ref c26) "KIND" = some (some (.str "ref" t82)))
    (h84 : PySem.W.specialIn K (.str "ref" t82) "__get__" = some none)
    (h85 : PySem.W.findIn K (.ref c26) "target" = some none)
    (h86 : PySem.W.findIn K (.ref c26) "rule" = some none)
    (h102 : K.lookup c14 = some (excClassObj nm87 q88 c14 N89 bs90 bm91 true sn92 sub93 ab94 col95 dd96 m97 m98 m99 m100 m101 "ValueError.__new__"))
    (h103 : PySem.HandSPX.refsVE bm91 = true)
    (h104 : PySem.W.findIn K (.ref c14) "__setattr__" = some (some (.builtin "object.__setattr__")))
    (h105 : PySem.W.subIn K (.ref c14) (.type "BaseException") = some true)
    (h106 : PySem.W.typeIn K (.ref c14) = some (.type "type"))
    (h107 : PySem.W.keepIn K (.ref c14) = true)
    (h109 : PySem.W.findIn K (.ref c14) "__init__" = some (some (.ref f108)))
    (h110 : PySem.W.typeIn K (.ref f108) = some (.type "function"))
    (h121 : K.lookup f108 = some ⟨oc111, od116, .func (PySem.W.ksFn "__init__" "InvalidName.__init__" (defArgs s_InvalidName___init__) (defBody s_InvalidName___init__) (defScope s_InvalidName___init__) .none kV112 dc113 pm114 an117 (.ref ca120) ct115 cc119), sl118⟩)
    (h122 : PySem.W.codeIn K (.ref ca120) "InvalidName.__init__" = true)
    (h128 : K.lookup ca120 = some ⟨ol123, od125, .fields va124, sl126⟩)
    (h129 : va124[2]? = some (.str "/claim/cut.py" tf127))
    (h133 : K.lookup cc119 = some ⟨ol130, od131, .cell (some (.ref c14)), sl132⟩)
    (h134 : PySem.W.isClsIn K c14 = true)
    (h135 : PySem.W.keepIn K (.ref f108) = true)
    (h136 : PySem.W.ks_superIn K c14 c14 "__init__" = some (some (.builtin "ValueError.__init__")))
    (h137 : PySem.W.mroIn K c14 (.ref c14) = some true)
    (h138 : PySem.W.subIn K (.ref c14) (.type "ValueError") = some true)
    (h139 : PySem.W.findIn K (.ref c14) "name" = some none)
    (h140 : PySem.W.hasDictIn K c14 = true)
    (h156 : K.lookup c16 = some (excClassObj nm141 q142 c16 N143 bs144 bm145 true sn146 sub147 ab148 col149 dd150 m151 m152 m153 m154 m155 "ValueError.__new__"))
    (h157 : PySem.HandSPX.refsVE bm145 = true)
    (h158 : PySem.W.findIn K (.ref c16) "__setattr__" = some (some (.builtin "object.__setattr__")))
    (h159 : PySem.W.subIn K (.ref c16) (.type "BaseException") = some true)
    (h160 : PySem.W.typeIn K (.ref c16) = some (.type "type"))
    (h161 : PySem.W.keepIn K (.ref c16) = true)
    (h163 : PySem.W.findIn K (.ref c16) "__init__" = some (some (.ref f162)))
    (h164 : PySem.W.typeIn K (.ref f162) = some (.type "function"))
    (h175 : K.lookup f162 = some ⟨oc165, od170, .func (PySem.W.ksFn "__init__" "InvalidColumn.__init__" (defArgs s_InvalidColumn___init__) (defBody s_InvalidColumn___init__) (defScope s_InvalidColumn___init__) .none kV166 dc167 pm168 an171 (.ref ca174) ct169 cc173), sl172⟩)
    (h176 : PySem.W.codeIn K (.ref ca174) "InvalidColumn.__init__" = true)
    (h182 : K.lookup ca174 = some ⟨ol177, od179, .fields va178, sl180⟩)
    (h183 : va178[2]? = some (.str "/claim/cut.py" tf181))
    (h187 : K.lookup cc173 = some ⟨ol184, od185, .cell (some (.ref c16)), sl186⟩)
    (h188 : PySem.W.isClsIn K c16 = true)
    (h189 : PySem.W.keepIn K (.ref f162) = true)
    (h190 : PySem.W.ks_superIn K c16 c16 "__init__" = some (some (.builtin "ValueError.__init__")))
    (h191 : PySem.W.mroIn K c16 (.ref c16) = some true)
    (h192 : PySem.W.subIn K (.ref c16) (.type "ValueError") = some true)
    (h193 : PySem.W.findIn K (.ref c16) "name" = some none)
    (h194 : PySem.W.hasDictIn K c16 = true)
    (h210 : K.lookup c18 = some (excClassObj nm195 q196 c18 N197 bs198 bm199 true sn200 sub201 ab202 col203 dd204 m205 m206 m207 m208 m209 "ValueError.__new__"))
    (h211 : PySem.HandSPX.refsVE bm199 = true)
    (h212 : PySem.W.findIn K (.ref c18) "__setattr__" = some (some (.builtin "object.__setattr__")))
    (h213 : PySem.W.subIn K (.ref c18) (.type "BaseException") = some true)
    (h214 : PySem.W.typeIn K (.ref c18) = some (.type "type"))
    (h215 : PySem.W.keepIn K (.ref c18) = true)
    (h217 : PySem.W.findIn K (.ref c18) "__init__" = some (some (.ref f216)))
    (h218 : PySem.W.typeIn K (.ref f216) = some (.type "function"))
    (h229 : K.lookup f216 = some ⟨oc219, od224, .func (PySem.W.ksFn "__init__" "InvalidText.__init__" (defArgs s_InvalidText___init__) (defBody s_InvalidText___init__) (defScope s_InvalidText___init__) .none kV220 dc221 pm222 an225 (.ref ca228) ct223 cc227), sl226⟩)
    (h230 : PySem.W.codeIn K (.ref ca228) "InvalidText.__init__" = true)
    (h236 : K.lookup ca228 = some ⟨ol231, od233, .fields va232, sl234⟩)
    (h237 : va232[2]? = some (.str "/claim/cut.py" tf235))
    (h241 : K.lookup cc227 = some ⟨ol238, od239, .cell (some (.ref c18)), sl240⟩)
    (h242 : PySem.W.isClsIn K c18 = true)
    (h243 : PySem.W.keepIn K (.ref f216) = true)
    (h244 : PySem.W.ks_superIn K c18 c18 "__init__" = some (some (.builtin "ValueError.__init__")))
    (h245 : PySem.W.mroIn K c18 (.ref c18) = some true)
    (h246 : PySem.W.subIn K (.ref c18) (.type "ValueError") = some true)
    (h247 : PySem.W.findIn K (.ref c18) "line" = some none)
    (h248 : PySem.W.hasDictIn K c18 = true)
    (h249 : PySem.W.subIn K (.ref c12) (.type "BaseException") = some true)
    (h250 : PySem.W.hasDictIn K c12 = true)
    (h251 : PySem.W.typeIn K (.ref c12) = some (.type "type"))
    (h252 : PySem.W.subIn K (.ref c14) (.ref c16) = some false)
    (h253 : PySem.W.subIn K (.ref c14) (.ref c14) = some true)
    (h254 : PySem.W.subIn K (.ref c16) (.ref c16) = some true)
    (h255 : PySem.W.subIn K (.ref c16) (.ref c14) = some false)
    (h256 : PySem.W.findIn K (.ref c18) "__getattribute__" = some (some (.builtin "BaseException.__getattribute__")))
    (h257 : PySem.W.findIn K (.ref c18) "__getattr__" = some none)
    (h258 : PySem.W.findIn K (.ref c18) "__class__" = some (some (.builtin "object.__class__")))
    (h259 : PySem.W.specialIn K (.builtin "object.__class__") "__get__" = some (some (.builtin "getset_descriptor.__get__")))
    (h260 : PySem.W.takesIn K (.builtin "object.__class__") = some true)
    (h261 : PySem.W.mroIn K c18 (.type "object") = some true)
    (h262 : PySem.W.subIn K (.ref c18) (.ref c12) = some true)
    (h264 : PySem.W.nsIn K mainGlobals "is_name" = some (some (.ref f263)))
    (h274 : K.lookup f263 = some ⟨oc265, od271, .func (PySem.W.fnOf "is_name" "is_name" (defArgs s_is_name) (defBody s_is_name) (defScope s_is_name) .none kV266 dc267 pm268 an272 cd269 ct270), sl273⟩)
    (h275 : PySem.W.codeIn K cd269 "is_name" = true)
    (h276 : PySem.W.keepIn K (.ref f263) = true)
    (h279 : PySem.W.findIn K (.ref c22) "__init__" = some (some (.ref f277)))
    (h280 : PySem.W.findIn K (.ref c24) "__init__" = some (some (.ref f277)))
    (h290 : K.lookup f277 = some ⟨oc281, od287, .func (PySem.W.fnOf "__init__" "Column.__init__" (defArgs s_Column___init__) (defBody s_Column___init__) (defScope s_Column___init__) .none (.ref D278) dc283 pm284 an288 cd285 ct286), sl289⟩)
    (h291 : PySem.W.codeIn K cd285 "Column.__init__" = true)
    (h292 : PySem.W.keepIn K (.ref f277) = true)
    (h293 : PySem.W.nsIn K D278 "optional" = some (some (.bool false)))
    (h294 : PySem.W.isFn K (.ref f277) = true)
    (h296 : PySem.W.findIn K (.ref c26) "__init__" = some (some (.ref f295)))
    (h297 : PySem.W.isFn K (.ref f295) = true)
    (h308 : K.lookup f295 = some ⟨oc298, od303, .func (PySem.W.ksFn "__init__" "RefColumn.__init__" (defArgs s_RefColumn___init__) (defBody s_RefColumn___init__) (defScope s_RefColumn___init__) .none kV299 dc300 pm301 an304 (.ref ca307) ct302 cc306), sl305⟩)
    (h309 : PySem.W.codeIn K (.ref ca307) "RefColumn.__init__" = true)
    (h315 : K.lookup ca307 = some ⟨ol310, od312, .fields va311, sl313⟩)
    (h316 : va311[2]? = some (.str "/claim/cut.py" tf314))
    (h320 : K.lookup cc306 = some ⟨ol317, od318, .cell (some (.ref c26)), sl319⟩)
    (h321 : PySem.W.isClsIn K c26 = true)
    (h322 : PySem.W.keepIn K (.ref f295) = true)
    (h323 : PySem.W.ks_superIn K c26 c26 "__init__" = some (some (.ref f277)))
    (h324 : PySem.W.typeIn K (.ref f277) = some (.type "function"))
    (h325 : PySem.W.fnIn K f277 = true)
    (h326 : PySem.W.mroIn K c26 (.ref c26) = some true)
    (h328 : PySem.W.findIn K (.ref c22) "words" = some (some (.ref f327)))
    (h329 : PySem.W.findIn K (.ref c24) "words" = some (some (.ref f327)))
    (h339 : K.lookup f327 = some ⟨oc330, od336, .func (PySem.W.fnOf "words" "Column.words" (defArgs s_Column_words) (defBody s_Column_words) (defScope s_Column_words) .none kV331 dc332 pm333 an337 cd334 ct335), sl338⟩)
    (h340 : PySem.W.codeIn K cd334 "Column.words" = true)
    (h341 : PySem.W.keepIn K (.ref f327) = true)
    (h342 : PySem.W.isFn K (.ref f327) = true)
    (h344 : PySem.W.findIn K (.ref c26) "words" = some (some (.ref f343)))
    (h345 : PySem.W.isFn K (.ref f343) = true)
    (h356 : K.lookup f343 = some ⟨oc346, od351, .func (PySem.W.ksFn "words" "RefColumn.words" (defArgs s_RefColumn_words) (defBody s_RefColumn_words) (defScope s_RefColumn_words) .none kV347 dc348 pm349 an352 (.ref ca355) ct350 cc354), sl353⟩)
    (h357 : PySem.W.codeIn K (.ref ca355) "RefColumn.words" = true)
    (h363 : K.lookup ca355 = some ⟨ol358, od360, .fields va359, sl361⟩)
    (h364 : va359[2]? = some (.str "/claim/cut.py" tf362))
    (h368 : K.lookup cc354 = some ⟨ol365, od366, .cell (some (.ref c26)), sl367⟩)
    (h369 : PySem.W.isClsIn K c26 = true)
    (h370 : PySem.W.keepIn K (.ref f343) = true)
    (h371 : PySem.W.ks_superIn K c26 c26 "words" = some (some (.ref f327)))
    (h372 : PySem.W.typeIn K (.ref f327) = some (.type "function"))
    (h373 : PySem.W.fnIn K f327 = true)
    (h374 : PySem.W.mroIn K c26 (.ref c26) = some true)
    (h377 : PySem.W.findIn K (.ref c22) "text" = some (some (.ref p375)))
    (h378 : PySem.W.findIn K (.ref c24) "text" = some (some (.ref p375)))
    (h379 : PySem.W.findIn K (.ref c26) "text" = some (some (.ref p375)))
    (h380 : PySem.W.specialIn K (.ref p375) "__get__" = some (some (.builtin "property.__get__")))
    (h381 : PySem.W.takesIn K (.ref p375) = some true)
    (h383 : PySem.W.recIn K p375 "property" = some (.ref g376 :: rs382))
    (h393 : K.lookup g376 = some ⟨oc384, od390, .func (PySem.W.fnOf "text" "Column.text" (defArgs s_Column_text) (defBody s_Column_text) (defScope s_Column_text) .none kV385 dc386 pm387 an391 cd388 ct389), sl392⟩)
    (h394 : PySem.W.codeIn K cd388 "Column.text" = true)
    (h395 : PySem.W.keepIn K (.ref g376) = true)
    (h397 : PySem.W.nsIn K mainGlobals "parsed_column" = some (some (.ref f396)))
    (h407 : K.lookup f396 = some ⟨oc398, od404, .func (PySem.W.fnOf "parsed_column" "parsed_column" (defArgs s_parsed_column) (defBody s_parsed_column) (defScope s_parsed_column) .none kV399 dc400 pm401 an405 cd402 ct403), sl406⟩)
    (h408 : PySem.W.codeIn K cd402 "parsed_column" = true)
    (h409 : PySem.W.keepIn K (.ref f396) = true)
    (h412 : PySem.W.findCls K (.ref c20) (.type "type") "parse" = some (.get (.builtin "staticmethod.__get__") (.ref p410) .none (.ref c20)))
    (h414 : PySem.W.recIn K p410 "staticmethod" = some (.ref g411 :: rs413))
    (h415 : PySem.W.readsIn K c20 (.type "type") = true)
    (h416 : PySem.W.specialIn K (.ref c20) "__getattribute__" = some (some (.builtin "type.__getattribute__")))
    (h426 : K.lookup g411 = some ⟨oc417, od423, .func (PySem.W.fnOf "parse" "Column.parse" (defArgs s_Column_parse) (defBody s_Column_parse) (defScope s_Column_parse) .none kV418 dc419 pm420 an424 cd421 ct422), sl425⟩)
    (h427 : PySem.W.codeIn K cd421 "Column.parse" = true)
    (h428 : PySem.W.keepIn K (.ref g411) = true)
    (h430 : PySem.W.nsIn K mainGlobals "_law_begun" = some (some (.ref f429)))
    (h440 : K.lookup f429 = some ⟨oc431, od437, .func (PySem.W.fnOf "_law_begun" "_law_begun" (defArgs s__law_begun) (defBody s__law_begun) (defScope s__law_begun) .none kV432 dc433 pm434 an438 cd435 ct436), sl439⟩)
    (h441 : PySem.W.codeIn K cd435 "_law_begun" = true)
    (h442 : PySem.W.keepIn K (.ref f429) = true)
    (h444 : PySem.W.nsIn K mainGlobals "_law_draw" = some (some (.ref f443)))
    (h454 : K.lookup f443 = some ⟨oc445, od451, .func (PySem.W.fnOf "_law_draw" "_law_draw" (defArgs s__law_draw) (defBody s__law_draw) (defScope s__law_draw) .none kV446 dc447 pm448 an452 cd449 ct450), sl453⟩)
    (h455 : PySem.W.codeIn K cd449 "_law_draw" = true)
    (h456 : PySem.W.keepIn K (.ref f443) = true)
    (h458 : PySem.W.nsIn K mainGlobals "_law_pick" = some (some (.ref f457)))
    (h468 : K.lookup f457 = some ⟨oc459, od465, .func (PySem.W.fnOf "_law_pick" "_law_pick" (defArgs s__law_pick) (defBody s__law_pick) (defScope s__law_pick) .none kV460 dc461 pm462 an466 cd463 ct464), sl467⟩)
    (h469 : PySem.W.codeIn K cd463 "_law_pick" = true)
    (h470 : PySem.W.keepIn K (.ref f457) = true)
    (h472 : PySem.W.nsIn K mainGlobals "_law_names" = some (some (.ref f471)))
    (h482 : K.lookup f471 = some ⟨oc473, od479, .func (PySem.W.fnOf "_law_names" "_law_names" (defArgs s__law_names) (defBody s__law_names) (defScope s__law_names) .none kV474 dc475 pm476 an480 cd477 ct478), sl481⟩)
    (h483 : PySem.W.codeIn K cd477 "_law_names" = true)
    (h484 : PySem.W.keepIn K (.ref f471) = true)
    (h486 : PySem.W.nsIn K mainGlobals "_law_column" = some (some (.ref f485)))
    (h496 : K.lookup f485 = some ⟨oc487, od493, .func (PySem.W.fnOf "_law_column" "_law_column" (defArgs s__law_column) (defBody s__law_column) (defScope s__law_column) .none kV488 dc489 pm490 an494 cd491 ct492), sl495⟩)
    (h497 : PySem.W.codeIn K cd491 "_law_column" = true)
    (h498 : PySem.W.keepIn K (.ref f485) = true)
    (h500 : PySem.W.nsIn K mainGlobals "_law_column_text" = some (some (.ref f499)))
    (h510 : K.lookup f499 = some ⟨oc501, od507, .func (PySem.W.fnOf "_law_column_text" "_law_column_text" (defArgs s__law_column_text) (defBody s__law_column_text) (defScope s__law_column_text) .none kV502 dc503 pm504 an508 cd505 ct506), sl509⟩)
    (h511 : PySem.W.codeIn K cd505 "_law_column_text" = true)
    (h512 : PySem.W.keepIn K (.ref f499) = true)
    (h514 : PySem.W.nsIn K mainGlobals "_law_is_name" = some (some (.ref f513)))
    (h524 : K.lookup f513 = some ⟨oc515, od521, .func (PySem.W.fnOf "_law_is_name" "_law_is_name" (defArgs s__law_is_name) (defBody s__law_is_name) (defScope s__law_is_name) .none kV516 dc517 pm518 an522 cd519 ct520), sl523⟩)
    (h525 : PySem.W.codeIn K cd519 "_law_is_name" = true)
    (h526 : PySem.W.keepIn K (.ref f513) = true)
    (h528 : PySem.W.nsIn K mainGlobals "_law_is_text" = some (some (.ref f527)))
    (h538 : K.lookup f527 = some ⟨oc529, od535, .func (PySem.W.fnOf "_law_is_text" "_law_is_text" (defArgs s__law_is_text) (defBody s__law_is_text) (defScope s__law_is_text) .none kV530 dc531 pm532 an536 cd533 ct534), sl537⟩)
    (h539 : PySem.W.codeIn K cd533 "_law_is_text" = true)
    (h540 : PySem.W.keepIn K (.ref f527) = true)
    (h542 : PySem.W.nsIn K mainGlobals "_law_spoilt" = some (some (.ref f541)))
    (h552 : K.lookup f541 = some ⟨oc543, od549, .func (PySem.W.fnOf "_law_spoilt" "_law_spoilt" (defArgs s__law_spoilt) (defBody s__law_spoilt) (defScope s__law_spoilt) .none kV544 dc545 pm546 an550 cd547 ct548), sl551⟩)
    (h553 : PySem.W.codeIn K cd547 "_law_spoilt" = true)
    (h554 : PySem.W.keepIn K (.ref f541) = true)
    (h556 : PySem.W.nsIn K mainGlobals "_law_read" = some (some (.ref f555)))
    (h566 : K.lookup f555 = some ⟨oc557, od563, .func (PySem.W.fnOf "_law_read" "_law_read" (defArgs s__law_read) (defBody s__law_read) (defScope s__law_read) .none kV558 dc559 pm560 an564 cd561 ct562), sl565⟩)
    (h567 : PySem.W.codeIn K cd561 "_law_read" = true)
    (h568 : PySem.W.keepIn K (.ref f555) = true)
    (h570 : PySem.W.nsIn K mainGlobals "law" = some (some (.ref f569)))
    (h580 : K.lookup f569 = some ⟨oc571, od577, .func (PySem.W.fnOf "law" "law" (defArgs s_law) (defBody s_law) (defScope s_law) .none kV572 dc573 pm574 an578 cd575 ct576), sl579⟩)
    (h581 : PySem.W.codeIn K cd575 "law" = true)
    (h582 : PySem.W.keepIn K (.ref f569) = true) :
    ∃ fd : FuncData, (∀ (s : Shared) (v : Value), BindsTo s fd ⟨[v], []⟩ [("_law_script", v)]) ∧ ∀ base : Heap, K.In base → base.Ns mainGlobals mg → FnOk P wo K mg base (L2.CX P wo) 9 fa fd ["_law_script"] (spLaw K) := by
  have e := hfa.symm.trans (PySem.W.mg_of X G h570)
  cases e
  refine ⟨(PySem.W.fnOf "law" "law" (defArgs s_law) (defBody s_law) (defScope s_law) .none kV572 dc573 pm574 an578 cd575 ct576), fun s v => .of_eq rfl, fun base _ _ => ?_⟩
  have hany := h1
  let A : Ad := ⟨c12, c14, c16, c18, c20, c22, c24, c26, a32, a43⟩
  have T : Txt K mg A := ⟨PySem.W.mg_none_of X G h2, PySem.W.mg_none_of X G h3, PySem.W.mg_none_of X G h4, PySem.W.mg_none_of X G h5, PySem.W.mg_none_of X G h6, PySem.W.mg_none_of X G h7, PySem.W.mg_none_of X G h8, PySem.W.mg_none_of X G h9, PySem.W.mg_none_of X G h10, PySem.W.mg_none_of X G h11, ⟨_, PySem.W.mg_of X G h13, rfl⟩, ⟨_, PySem.W.mg_of X G h15, rfl⟩, ⟨_, PySem.W.mg_of X G h17, rfl⟩, ⟨_, PySem.W.mg_of X G h19, rfl⟩, ⟨_, PySem.W.mg_of X G h21, rfl⟩, ⟨_, PySem.W.mg_of X G h23, rfl⟩, ⟨_, PySem.W.mg_of X G h25, rfl⟩, ⟨_, PySem.W.mg_of X G h27, rfl⟩, ⟨_, PySem.W.mg_of X G h29, ⟨_, rfl⟩⟩, ⟨_, PySem.W.mg_of X G h31, ⟨_, rfl⟩⟩, ⟨_, PySem.W.mg_of X G h33, rfl⟩, (fun H => Or.inr ⟨_, _, _, h42, rfl, rfl, by rw [sizeLine_eq]; show 5 ≤ 16777216; decide, .cons ⟨_, rfl⟩ (.cons ⟨_, rfl⟩ (.cons ⟨_, rfl⟩ (.cons ⟨_, rfl⟩ (.cons ⟨_, rfl⟩ (.nil)))))⟩), ⟨_, PySem.W.mg_of X G h44, rfl⟩, (fun H => Or.inr ⟨_, _, _, h51, rfl, rfl, by rw [sizeLine_eq]; show 3 ≤ 16777216; decide, .cons ⟨_, rfl⟩ (.cons ⟨_, rfl⟩ (.cons ⟨_, rfl⟩ (.nil)))⟩)⟩
  have U : SupTop P mg := ⟨T.nb_super, htop⟩
  have CF : ColF K A := ⟨(fun k => match k with | .int => ⟨h52, h53, h54, h55⟩ | .text => ⟨h63, h64, h65, h66⟩ | .ref => ⟨h74, h75, h76, h77⟩), (fun k => match k with | .int => h58 | .text => h69 | .ref => h80), (fun k => match k with | .int => h59 | .text => h70 | .ref => h81), h85, h86, (fun k => match k with | .int => ⟨_, h61, ⟨_, rfl⟩, h62, by decide +kernel⟩ | .text => ⟨_, h72, ⟨_, rfl⟩, h73, by decide +kernel⟩ | .ref => ⟨_, h83, ⟨_, rfl⟩, h84, by decide +kernel⟩)⟩
  have O_InvalidName : OexC K c14 := ⟨⟨_, _, _, _, _, _, _, _, _, _, _, _, _, _, _, h102, h103⟩, h104, h105, h106, h107⟩
  have S_InvalidName___init__ : FunS P K "__init__" "InvalidName.__init__" s_InvalidName___init__ f108 cc119 c14 ca120 _ := ⟨⟨_, _, _, _, _, _, _, _, _, rfl, h121⟩, h122, ⟨_, _, _, _, _, _, h128, h129, hfile⟩, ⟨_, _, _, h133⟩, Option.isSome_iff_exists.mp h134, h135⟩
  have M_InvalidName : SupE K c14 c14 := ⟨O_InvalidName, hany, h136, h137, h138⟩
  have E_InvalidName := @ok_exc1 P wo K mg base _ _ "name" _ _ _ _ _ _ _ _ _ _ _ _ _ _ _ _ _ S_InvalidName___init__ U M_InvalidName h139 ⟨rfl, rfl, rfl, by decide +kernel, rfl, by decide +kernel, by decide +kernel, by decide +kernel⟩ rfl rfl ⟨_, rfl, rfl, rfl⟩ rfl (fun _ => ⟨_, rfl⟩)
  have X_InvalidName : Exc1 P wo K mg base "InvalidName" c14 "name" := ⟨O_InvalidName, PySem.W.mg_of X G h15, f108, h109, h110, (cal0 E_InvalidName (bindsup2 fun _ _ => rfl) rfl).imp fun _ _ _ _ _ h => h⟩
  have O_InvalidColumn : OexC K c16 := ⟨⟨_, _, _, _, _, _, _, _, _, _, _, _, _, _, _, h156, h157⟩, h158, h159, h160, h161⟩
  have S_InvalidColumn___init__ : FunS P K "__init__" "InvalidColumn.__init__" s_InvalidColumn___init__ f162 cc173 c16 ca174 _ := ⟨⟨_, _, _, _, _, _, _, _, _, rfl, h175⟩, h176, ⟨_, _, _, _, _, _, h182, h183, hfile⟩, ⟨_, _, _, h187⟩, Option.isSome_iff_exists.mp h188, h189⟩
  have M_InvalidColumn : SupE K c16 c16 := ⟨O_InvalidColumn, hany, h190, h191, h192⟩
  have E_InvalidColumn := @ok_exc1 P wo K mg base _ _ "name" _ _ _ _ _ _ _ _ _ _ _ _ _ _ _ _ _ S_InvalidColumn___init__ U M_InvalidColumn h193 ⟨rfl, rfl, rfl, by decide +kernel, rfl, by decide +kernel, by decide +kernel, by decide +kernel⟩ rfl rfl ⟨_, rfl, rfl, rfl⟩ rfl (fun _ => ⟨_, rfl⟩)
  have X_InvalidColumn : Exc1 P wo K mg base "InvalidColumn" c16 "name" := ⟨O_InvalidColumn, PySem.W.mg_of X G h17, f162, h163, h164, (cal0 E_InvalidColumn (bindsup2 fun _ _ => rfl) rfl).imp fun _ _ _ _ _ h => h⟩
  have O_InvalidText : OexC K c18 := ⟨⟨_, _, _, _, _, _, _, _, _, _, _, _, _, _, _, h210, h211⟩, h212, h213, h214, h215⟩
  have S_InvalidText___init__ : FunS P K "__init__" "InvalidText.__init__" s_InvalidText___init__ f216 cc227 c18 ca228 _ := ⟨⟨_, _, _, _, _, _, _, _, _, rfl, h229⟩, h230, ⟨_, _, _, _, _, _, h236, h237, hfile⟩, ⟨_, _, _, h241⟩, Option.isSome_iff_exists.mp h242, h243⟩
  have M_InvalidText : SupE K c18 c18 := ⟨O_InvalidText, hany, h244, h245, h246⟩
  have E_InvalidText := @ok_exc1 P wo K mg base _ _ "line" _ _ _ _ _ _ _ _ _ _ _ _ _ _ _ _ _ S_InvalidText___init__ U M_InvalidText h247 ⟨rfl, rfl, rfl, by decide +kernel, rfl, by decide +kernel, by decide +kernel, by decide +kernel⟩ rfl rfl ⟨_, rfl, rfl, rfl⟩ rfl (fun _ => ⟨_, rfl⟩)
  have X_InvalidText : Exc1 P wo K mg base "InvalidText" c18 "line" := ⟨O_InvalidText, PySem.W.mg_of X G h19, f216, h217, h218, (cal0 E_InvalidText (bindsup2 fun _ _ => rfl) rfl).imp fun _ _ _ _ _ h => h⟩
  have EF : ExF K A := ⟨exm2 (PySem.W.exm_ref h159 h194 h160 h252) (PySem.W.exm_ref h105 h140 h106 h253), exm2 (PySem.W.exm_ref h159 h194 h160 h254) (PySem.W.exm_ref h105 h140 h106 h255)⟩
  have RF : RdF K A := ⟨PySem.W.exm_ref h249 h250 h251 h262, ⟨h256, h257, h213, h248, h258, h259, h260, h261⟩, kit_self, ⟨h256, h257, h213, h248⟩, h247⟩
  have NF : NsF K := ⟨kit_ty (by decide +kernel), kit_ty (by decide +kernel), kit_ty (by decide +kernel), kit_ty (by decide +kernel), kit_ty (by decide +kernel), kit_ty (by decide +kernel)⟩
  have F_is_name := fun_mk (st := s_is_name) h274 h275 h276
  have O_is_name := ok_is_name (P := P) (wo := wo) (base := base) F_is_name T
  have Gn : GFn P wo K mg base _ "is_name" _ _ _ := ⟨f263, PySem.W.mg_of X G h264, h276, cal0 O_is_name (F_is_name.binds (ps := ["value"]) fun _ _ _ _ _ _ us hl => match us, hl with | [_], _ => rfl) rfl⟩
  have F_ci : FunD K "__init__" "Column.__init__" (defArgs s_Column___init__) (defBody s_Column___init__) (defScope s_Column___init__) [] [("optional", .bl false)] f277 _ := ⟨⟨_, _, _, _, _, _, _, _, _, _, rfl, h290, h291, .inl ⟨rfl, rfl⟩, .inr ⟨_, rfl, fun q hq => by rw [List.mem_singleton] at hq; subst hq; exact ⟨_, h293, rfl⟩⟩⟩, h292⟩
  have O_ci := ok_col_init (P := P) (wo := wo) (base := base) F_ci T Gn X_InvalidName
  obtain ⟨mv, hb⟩ := F_ci.kbinds0 (ps := ["self", "name", "optional"]) 2 ["optional"] [] (fun us _ ws => us ++ ws) (by simp) (by simp) (fun r _ rz => r.append rz) (fun _ _ _ _ _ _ us mv ws l1 l2 l3 => match us, ws, mv, l1, l2, l3 with | [_, _], [_], [], _, _, _ => rfl)
  have C_init : Cal P wo K mg base 3 f277 2 ["optional"] (fun vs zs => spColInit K A (vs ++ zs)) := calK O_ci hb
  have S_RefColumn___init__ : FunS P K "__init__" "RefColumn.__init__" s_RefColumn___init__ f295 cc306 c26 ca307 _ := ⟨⟨_, _, _, _, _, _, _, _, _, rfl, h308⟩, h309, ⟨_, _, _, _, _, _, h315, h316, hfile⟩, ⟨_, _, _, h320⟩, Option.isSome_iff_exists.mp h321, h322⟩
  have O_ri := ok_ref_init S_RefColumn___init__ U T CF Gn X_InvalidName X_InvalidColumn (⟨hany, h323, h324, h325, h326, by decide +kernel⟩ : SupM K c26 c26 "__init__" f277) C_init
  have C_ri : Cal P wo K mg base 4 f295 3 ["optional", "rule"] (fun vs zs => spRefInit K A (vs ++ zs)) := calK O_ri ⟨fun s us ws X l1 l2 => BindsTo.of_looks fun M => PySem.W.Looks.of_pure (match us, ws, l1, l2 with | [_, _, _], [_, _], _, _ => rfl), fun r rz => r.append rz⟩
  have MR : GMk P wo K mg base 4 "RefColumn" A.RefColumn 2 ["optional", "rule"] (fun vs zs => spRefInit K A (vs ++ zs)) := ⟨PySem.W.mg_of X G h27, f295, ⟨h78, h296, h297, h79⟩, C_ri⟩
  have MI : GMk P wo K mg base 4 "IntColumn" A.IntColumn 1 ["optional"] (fun vs zs => spColInit K A (vs ++ zs)) := ⟨PySem.W.mg_of X G h23, f277, ⟨h56, h279, h294, h57⟩, C_init.mono (by decide)⟩
  have MT : GMk P wo K mg base 4 "TextColumn" A.TextColumn 1 ["optional"] (fun vs zs => spColInit K A (vs ++ zs)) := ⟨PySem.W.mg_of X G h25, f277, ⟨h67, h280, h294, h68⟩, C_init.mono (by decide)⟩
  have F_w := fun_mk (st := s_Column_words) h339 h340 h341
  have O_w := ok_words0 (P := P) (wo := wo) (base := base) F_w T CF
  have C_words : Cal P wo K mg base 1 f327 1 [] (fun vs _ => spWords0 A vs) := cal0 O_w (F_w.binds (ps := ["self"]) fun _ _ _ _ _ _ us hl => match us, hl with | [_], _ => rfl) rfl
  have S_RefColumn_words : FunS P K "words" "RefColumn.words" s_RefColumn_words f343 cc354 c26 ca355 _ := ⟨⟨_, _, _, _, _, _, _, _, _, rfl, h356⟩, h357, ⟨_, _, _, _, _, _, h363, h364, hfile⟩, ⟨_, _, _, h368⟩, Option.isSome_iff_exists.mp h369, h370⟩
  have O_rw := ok_ref_words S_RefColumn_words U T CF (⟨hany, h371, h372, h373, h374, by decide +kernel⟩ : SupM K c26 c26 "words" f327) C_words
  have C_rw := cal0 O_rw (bindsup1 fun _ => rfl) rfl
  have MW : ∀ k, GMt P wo K mg base 2 (kcls A k) "words" 0 [] (fun vs _ H Q E => ∃ G R x c, vs = [.ref x] ∧ Wd G R H ∧ ColAt A G x c ∧ c.k = k ∧ ∀ p H', G p = none → Wd (upd G p (.lst (c.words.map V.str))) R H' → Q (.ref p) H') := fun k => by
    cases k with
    | ref => exact ⟨CF.cls .ref, f343, ⟨h344, h345, h370⟩, C_rw⟩
    | int => exact ⟨CF.cls .int, f327, ⟨h328, h342, h341⟩, (C_words.mono (by decide)).imp fun _ _ _ _ _ h => by
        obtain ⟨G, R, x, c, e, w, hc, ck, q⟩ := h
        exact ⟨G, R, x, c, e, w, hc, by rw [words_not (by rw [ck]; exact fun z => nomatch z)] at q; exact q⟩⟩
    | text => exact ⟨CF.cls .text, f327, ⟨h329, h342, h341⟩, (C_words.mono (by decide)).imp fun _ _ _ _ _ h => by
        obtain ⟨G, R, x, c, e, w, hc, ck, q⟩ := h
        exact ⟨G, R, x, c, e, w, hc, by rw [words_not (by rw [ck]; exact fun z => nomatch z)] at q; exact q⟩⟩
  have F_t := fun_mk (st := s_Column_text) h393 h394 h395
  have O_t := ok_text F_t T MW
  have GT : ∀ k, GPr P wo K mg base 3 (kcls A k) "text" (fun vs _ => spText A vs) := fun k => ⟨CF.cls k, p375, g376, ⟨(match k with | .int => h377 | .text => h378 | .ref => h379), h380, h381, ⟨_, h383⟩⟩, cal0 O_t (F_t.binds (ps := ["self"]) fun _ _ _ _ _ _ us hl => match us, hl with | [_], _ => rfl) rfl⟩
  have F_parsed_column := fun_mk (st := s_parsed_column) h407 h408 h409
  have O_parsed_column := ok_parsed F_parsed_column T CF EF MR MI MT
  have Gpc : GFn P wo K mg base _ "parsed_column" _ _ _ := ⟨f396, PySem.W.mg_of X G h397, h409, cal0 O_parsed_column (F_parsed_column.binds (ps := ["words"]) fun _ _ _ _ _ _ us hl => match us, hl with | [_], _ => rfl) rfl⟩
  have F_p := fun_mk (st := s_Column_parse) h426 h427 h428
  have O_p := ok_parse F_p T CF Gpc GT X_InvalidText
  have Gpar : GSt P wo K mg base 7 "Column" "parse" 1 [] (fun vs _ => spParse K A vs) := ⟨c20, _, p410, g411, PySem.W.mg_of X G h21, ⟨h415, h416⟩, ⟨h412, ⟨_, h414⟩, h428⟩, cal0 O_p (F_p.binds (ps := ["text"]) fun _ _ _ _ _ _ us hl => match us, hl with | [_], _ => rfl) rfl⟩
  have F__law_begun := fun_mk (st := s__law_begun) h440 h441 h442
  have O__law_begun := ok_begun (P := P) (wo := wo) (base := base) F__law_begun T
  have Gb : GFn P wo K mg base _ "_law_begun" _ _ _ := ⟨f429, PySem.W.mg_of X G h430, h442, cal0 O__law_begun (F__law_begun.binds (ps := ["_law_script"]) fun _ _ _ _ _ _ us hl => match us, hl with | [_], _ => rfl) rfl⟩
  have F__law_draw := fun_mk (st := s__law_draw) h454 h455 h456
  have O__law_draw := ok_draw (P := P) (wo := wo) (base := base) F__law_draw T
  have Gd : GFn P wo K mg base _ "_law_draw" _ _ _ := ⟨f443, PySem.W.mg_of X G h444, h456, cal0 O__law_draw (F__law_draw.binds (ps := ["_law_state", "_law_bound"]) fun _ _ _ _ _ _ us hl => match us, hl with | [_, _], _ => rfl) rfl⟩
  have F__law_pick := fun_mk (st := s__law_pick) h468 h469 h470
  have O__law_pick := ok_pick F__law_pick T Gd
  have Gp : GFn P wo K mg base _ "_law_pick" _ _ _ := ⟨f457, PySem.W.mg_of X G h458, h470, cal0 O__law_pick (F__law_pick.binds (ps := ["_law_state", "_law_some"]) fun _ _ _ _ _ _ us hl => match us, hl with | [_, _], _ => rfl) rfl⟩
  have F__law_names := fun_mk (st := s__law_names) h482 h483 h484
  have O__law_names := ok_names F__law_names T Gd Gp
  have Gns : GFn P wo K mg base _ "_law_names" _ _ _ := ⟨f471, PySem.W.mg_of X G h472, h484, cal0 O__law_names (F__law_names.binds (ps := ["_law_state", "_law_count"]) fun _ _ _ _ _ _ us hl => match us, hl with | [_, _], _ => rfl) rfl⟩
  have F__law_column := fun_mk (st := s__law_column) h496 h497 h498
  have O__law_column := ok_column F__law_column T Gd Gp
  have Glc : GFn P wo K mg base _ "_law_column" _ _ _ := ⟨f485, PySem.W.mg_of X G h486, h498, cal0 O__law_column (F__law_column.binds (ps := ["_law_state", "_law_tables", "_law_name"]) fun _ _ _ _ _ _ us hl => match us, hl with | [_, _, _], _ => rfl) rfl⟩
  have F__law_column_text := fun_mk (st := s__law_column_text) h510 h511 h512
  have O__law_column_text := ok_column_text (P := P) (wo := wo) (base := base) F__law_column_text T
  have Glct : GFn P wo K mg base _ "_law_column_text" _ _ _ := ⟨f499, PySem.W.mg_of X G h500, h512, cal0 O__law_column_text (F__law_column_text.binds (ps := ["_law_column_here"]) fun _ _ _ _ _ _ us hl => match us, hl with | [_], _ => rfl) rfl⟩
  have F__law_is_name := fun_mk (st := s__law_is_name) h524 h525 h526
  have O__law_is_name := ok_lname (P := P) (wo := wo) (base := base) F__law_is_name T
  have Gln : GFn P wo K mg base _ "_law_is_name" _ _ _ := ⟨f513, PySem.W.mg_of X G h514, h526, cal0 O__law_is_name (F__law_is_name.binds (ps := ["_law_word"]) fun _ _ _ _ _ _ us hl => match us, hl with | [_], _ => rfl) rfl⟩
  have F__law_is_text := fun_mk (st := s__law_is_text) h538 h539 h540
  have O__law_is_text := ok_ltext F__law_is_text T Gln
  have Glt : GFn P wo K mg base _ "_law_is_text" _ _ _ := ⟨f527, PySem.W.mg_of X G h528, h540, cal0 O__law_is_text (F__law_is_text.binds (ps := ["_law_text"]) fun _ _ _ _ _ _ us hl => match us, hl with | [_], _ => rfl) rfl⟩
  have F__law_spoilt := fun_mk (st := s__law_spoilt) h552 h553 h554
  have O__law_spoilt := ok_spoilt F__law_spoilt T Gd Gp
  have Gsp : GFn P wo K mg base _ "_law_spoilt" _ _ _ := ⟨f541, PySem.W.mg_of X G h542, h554, cal0 O__law_spoilt (F__law_spoilt.binds (ps := ["_law_state", "_law_text"]) fun _ _ _ _ _ _ us hl => match us, hl with | [_, _], _ => rfl) rfl⟩
  have F__law_read := fun_mk (st := s__law_read) h566 h567 h568
  have O__law_read := ok_read F__law_read T RF Gpar GT
  have Glr : GFn P wo K mg base _ "_law_read" _ _ _ := ⟨f555, PySem.W.mg_of X G h556, h568, cal0 O__law_read (F__law_read.binds (ps := ["_law_value"]) fun _ _ _ _ _ _ us hl => match us, hl with | [_], _ => rfl) rfl⟩
  have F_law := fun_mk (st := s_law) h580 h581 h582
  exact ok_law F_law T NF Gb Gd Gp Gns Glc Glct Glr Gsp Glt

theorem walk {l : PySem.W.OpenLaw} {q : Program} {loose : List Str} {XP : (Str → Option Value) → Heap → Prop} {YP : World → Heap → Prop} {d : DefRec} {K : Params → PySem.W.Frag} (hn : l.most = some 63) (hdf : d.params.defaults = [])
    (hY : ∀ (w : World) (h : Heap), YP w h → (K w.params).In h)
    (F : ∀ (w : World) (mg : Str → Option Value) (fa : Addr) (h : Heap), (K w.params).In h → h.Ns mainGlobals mg → mg d.name = some (.ref fa) →
      ∃ fd : FuncData, (∀ (s : Shared) (u : Value), BindsTo s fd ⟨[u], []⟩ [("_law_script", u)]) ∧ ∀ base : Heap, (K w.params).In base → base.Ns mainGlobals mg → FnOk l.prog w (K w.params) mg base (L2.CX l.prog w) 9 fa fd ["_law_script"] (spLaw (K w.params))) :
    PySem.W.WalkO q loose XP YP l.row.toRowW d [] (fun f vs => PySem.call f vs) :=
  L2.walk_of (n := 63) (k := 9) (x := "_law_script") (CX := fun w => L2.CX l.prog w) (sp := fun w => spLaw (K w.params)) hn (by rw [sizeLine_eq]; decide) hdf ⟨rfl, by decide, by decide⟩ hY F (fun _ _ a ns hl _ hS => ⟨a, ns, rfl, hS, fun _ => rfl⟩) fun _ _ _ _ _ ⟨_, _, _, _, _, _, _, _, _, _, _, _, z⟩ => z
end Sv

open PySem PySem.W PyProof.Rows in
set_option maxRecDepth 100000 in
set_option maxHeartbeats 0 in
theorem PySem.Challenge.cw_savewise_k02_column_texts_spoilt_holds : PySem.Challenge.rw_savewise_k02_column_texts_spoilt.Holds := by
  w_on; o_law; k_head; (case hw => w_witness2)
  k_fill
  refine Sv.walk (l := PySem.Challenge.rw_savewise_k02_column_texts_spoilt) rfl rfl (fun w h Y => PySem.W.kIn_of Y) ?F
  case F =>
    intro w mg fa h KX G hmg
    refine' Sv.all_mk KX G hmg (by decide +kernel) (by decide +kernel) ?h1 ?h2 ?h3 ?h4 ?h5 ?h6 ?h7 ?h8 ?h9 ?h10 ?h11 ?h13 ?h15 ?h17 ?h19 ?h21 ?h23 ?h25 ?h27 ?h29 ?h31 ?h33 ?h42 ?h44 ?h51 ?h52 ?h53 ?h54 ?h55 ?h56 ?h57 ?h58 ?h59 ?h61 ?h62 ?h63 ?h64 ?h65 ?h66 ?h67 ?h68 ?h69 ?h70 ?h72 ?h73 ?h74 ?h75 ?h76 ?h77 ?h78 ?h79 ?h80 ?h81 ?h83 ?h84 ?h85 ?h86 ?h102 ?h103 ?h104 ?h105 ?h106 ?h107 ?h109 ?h110 ?h121 ?h122 ?h128 ?h129 ?h133 ?h134 ?h135 ?h136 ?h137 ?h138 ?h139 ?h140 ?h156 ?h157 ?h158 ?h159 ?h160 ?h161 ?h163 ?h164 ?h175 ?h176 ?h182 ?h183 ?h187 ?h188 ?h189 ?h190 ?h191 ?h192 ?h193 ?h194 ?h210 ?h211 ?h212 ?h213 ?h214 ?h215 ?h217 ?h218 ?h229 ?h230 ?h236 ?h237 ?h241 ?h242 ?h243 ?h244 ?h245 ?h246 ?h247 ?h248 ?h249 ?h250 ?h251 ?h252 ?h253 ?h254 ?h255 ?h256 ?h257 ?h258 ?h259 ?h260 ?h261 ?h262 ?h264 ?h274 ?h275 ?h276 ?h279 ?h280 ?h290 ?h291 ?h292 ?h293 ?h294 ?h296 ?h297 ?h308 ?h309 ?h315 ?h316 ?h320 ?h321 ?h322 ?h323 ?h324 ?h325 ?h326 ?h328 ?h329 ?h339 ?h340 ?h341 ?h342 ?h344 ?h345 ?h356 ?h357 ?h363 ?h364 ?h368 ?h369 ?h370 ?h371 ?h372 ?h373 ?h374 ?h377 ?h378 ?h379 ?h380 ?h381 ?h383 ?h393 ?h394 ?h395 ?h397 ?h407 ?h408 ?h409 ?h412 ?h414 ?h415 ?h416 ?h426 ?h427 ?h428 ?h430 ?h440 ?h441 ?h442 ?h444 ?h454 ?h455 ?h456 ?h458 ?h468 ?h469 ?h470 ?h472 ?h482 ?h483 ?h484 ?h486 ?h496 ?h497 ?h498 ?h500 ?h510 ?h511 ?h512 ?h514 ?h524 ?h525 ?h526 ?h528 ?h538 ?h539 ?h540 ?h542 ?h552 ?h553 ?h554 ?h556 ?h566 ?h567 ?h568 ?h570 ?h580 ?h581 ?h582
    (case h1 => k_is)
    (case h2 => k_is)
    (case h3 => k_is)
    (case h4 => k_is)
    (case h5 => k_is)
    (case h6 => k_is)
    (case h7 => k_is)
    (case h8 => k_is)
    (case h9 => k_is)
    (case h10 => k_is)
    (case h11 => k_is)
    (case h13 => k_is)
    (case h15 => k_is)
    (case h17 => k_is)
    (case h19 => k_is)
    (case h21 => k_is)
    (case h23 => k_is)
    (case h25 => k_is)
    (case h27 => k_is)
    (case h29 => k_is)
    (case h31 => k_is)
    (case h33 => k_is)
    (case h42 => k_is)
    (case h44 => k_is)
    (case h51 => k_is)
    (case h52 => k_is)
    (case h53 => k_is)
    (case h54 => k_is)
    (case h55 => k_is)
    (case h56 => k_is)
    (case h57 => k_is)
    (case h58 => k_is)
    (case h59 => k_is)
    (case h61 => k_is)
    (case h62 => k_is)
    (case h63 => k_is)
    (case h64 => k_is)
    (case h65 => k_is)
    (case h66 => k_is)
    (case h67 => k_is)
    (case h68 => k_is)
    (case h69 => k_is)
    (case h70 => k_is)
    (case h72 => k_is)
    (case h73 => k_is)
    (case h74 => k_is)
    (case h75 => k_is)
    (case h76 => k_is)
    (case h77 => k_is)
    (case h78 => k_is)
    (case h79 => k_is)
    (case h80 => k_is)
    (case h81 => k_is)
    (case h83 => k_is)
    (case h84 => k_is)
    (case h85 => k_is)
    (case h86 => k_is)
    (case h102 => k_is)
    (case h103 => decide +kernel)
    (case h104 => k_is)
    (case h105 => k_is)
    (case h106 => k_is)
    (case h107 => k_is)
    (case h109 => k_is)
    (case h110 => k_is)
    (case h121 => k_is)
    (case h122 => k_is)
    (case h128 => k_is)
    (case h129 => rfl)
    (case h133 => k_is)
    (case h134 => k_is)
    (case h135 => k_is)
    (case h136 => ks_is)
    (case h137 => k_is)
    (case h138 => k_is)
    (case h139 => k_is)
    (case h140 => k_is)
    (case h156 => k_is)
    (case h157 => decide +kernel)
    (case h158 => k_is)
    (case h159 => k_is)
    (case h160 => k_is)
    (case h161 => k_is)
    (case h163 => k_is)
    (case h164 => k_is)
    (case h175 => k_is)
    (case h176 => k_is)
    (case h182 => k_is)
    (case h183 => rfl)
    (case h187 => k_is)
    (case h188 => k_is)
    (case h189 => k_is)
    (case h190 => ks_is)
    (case h191 => k_is)
    (case h192 => k_is)
    (case h193 => k_is)
    (case h194 => k_is)
    (case h210 => k_is)
    (case h211 => decide +kernel)
    (case h212 => k_is)
    (case h213 => k_is)
    (case h214 => k_is)
    (case h215 => k_is)
    (case h217 => k_is)
    (case h218 => k_is)
    (case h229 => k_is)
    (case h230 => k_is)
    (case h236 => k_is)
    (case h237 => rfl)
    (case h241 => k_is)
    (case h242 => k_is)
    (case h243 => k_is)
    (case h244 => ks_is)
    (case h245 => k_is)
    (case h246 => k_is)
    (case h247 => k_is)
    (case h248 => k_is)
    (case h249 => k_is)
    (case h250 => k_is)
    (case h251 => k_is)
    (case h252 => k_is)
    (case h253 => k_is)
    (case h254 => k_is)
    (case h255 => k_is)
    (case h256 => k_is)
    (case h257 => k_is)
    (case h258 => k_is)
    (case h259 => k_is)
    (case h260 => k_is)
    (case h261 => k_is)
    (case h262 => k_is)
    (case h264 => k_is)
    (case h274 => k_is)
    (case h275 => k_is)
    (case h276 => k_is)
    (case h279 => k_is)
    (case h280 => k_is)
    (case h290 => k_is)
    (case h291 => k_is)
    (case h292 => k_is)
    (case h293 => k_is)
    (case h294 => k_is)
    (case h296 => k_is)
    (case h297 => k_is)
    (case h308 => k_is)
    (case h309 => k_is)
    (case h315 => k_is)
    (case h316 => rfl)
    (case h320 => k_is)
    (case h321 => k_is)
    (case h322 => k_is)
    (case h323 => ks_is)
    (case h324 => k_is)
    (case h325 => k_is)
    (case h326 => k_is)
    (case h328 => k_is)
    (case h329 => k_is)
    (case h339 => k_is)
    (case h340 => k_is)
    (case h341 => k_is)
    (case h342 => k_is)
    (case h344 => k_is)
    (case h345 => k_is)
    (case h356 => k_is)
    (case h357 => k_is)
    (case h363 => k_is)
    (case h364 => rfl)
    (case h368 => k_is)
    (case h369 => k_is)
    (case h370 => k_is)
    (case h371 => ks_is)
    (case h372 => k_is)
    (case h373 => k_is)
    (case h374 => k_is)
    (case h377 => k_is)
    (case h378 => k_is)
    (case h379 => k_is)
    (case h380 => k_is)
    (case h381 => k_is)
    (case h383 => k_is)
    (case h393 => k_is)
    (case h394 => k_is)
    (case h395 => k_is)
    (case h397 => k_is)
    (case h407 => k_is)
    (case h408 => k_is)
    (case h409 => k_is)
    (case h412 => k_is)
    (case h414 => k_is)
    (case h415 => k_is)
    (case h416 => k_is)
    (case h426 => k_is)
    (case h427 => k_is)
    (case h428 => k_is)
    (case h430 => k_is)
    (case h440 => k_is)
    (case h441 => k_is)
    (case h442 => k_is)
    (case h444 => k_is)
    (case h454 => k_is)
    (case h455 => k_is)
    (case h456 => k_is)
    (case h458 => k_is)
    (case h468 => k_is)
    (case h469 => k_is)
    (case h470 => k_is)
    (case h472 => k_is)
    (case h482 => k_is)
    (case h483 => k_is)
    (case h484 => k_is)
    (case h486 => k_is)
    (case h496 => k_is)
    (case h497 => k_is)
    (case h498 => k_is)
    (case h500 => k_is)
    (case h510 => k_is)
    (case h511 => k_is)
    (case h512 => k_is)
    (case h514 => k_is)
    (case h524 => k_is)
    (case h525 => k_is)
    (case h526 => k_is)
    (case h528 => k_is)
    (case h538 => k_is)
    (case h539 => k_is)
    (case h540 => k_is)
    (case h542 => k_is)
    (case h552 => k_is)
    (case h553 => k_is)
    (case h554 => k_is)
    (case h556 => k_is)
    (case h566 => k_is)
    (case h567 => k_is)
    (case h568 => k_is)
    (case h570 => k_is)
    (case h580 => k_is)
    (case h581 => k_is)
    (case h582 => k_is)
