import PyProof.Rows.All
import Wide.All
import OpenK.AllK
import Wide.FinOn
import KE.KExcSuper
import HandS.ForMost
import HandS.Exc
import HandS.ExcOwn
import HandS.ExcInit
import HandS.WordsExc
import HandS.ClsMeth
import HandS.Defaults
import HandS.Property
import HandS.MakeKwOnly
import HandS.TryOnly
import HandS.TryMany
import HandS.ExcIs
import HandS.IsInst
import HandS.Flow
import HandS.Style
import HandS.Steps
import HandS.StrMore
import HandS.TupAny
import HandS.Evl
import KE.KUnpackStar
import KE.KTryMore
import HandS.Star
import HandS.ExcField
import HandS.Ends
import KE.KDictList
import HandS.Iter
import HandS.Dict
import HandS.More
import HandS.Strs
import HandS.ExcValue
import HandS.FStr
import HandS.Comp
import KE.GoesRaise
import PySem.Challenge.RW_savewise_k06_schema_texts_spoilt
import KE.RegKSuper
set_option Elab.async false
set_option linter.all false
set_option maxRecDepth 100000
set_option maxHeartbeats 4000000
/-! SwSup: defs with super() (a closure over the class), by wpAt; super().m(..); the __init__ of an own exception that says super().__init__(text). -/
namespace Sw
open PySem PySem.Spec PyProof.Rows L2

structure SScope (N P : List Str) (sc : Scope) : Prop where
  kind : sc.kind = .function
  co : sc.isCoroutine = false
  gen : sc.isGenerator = false
  nd : N.Nodup
  pre : N.take P.length = P
  par : ∀ x ∈ P, sc.names.lookup x = some .local
  nocell : ∀ y ∈ sc.names, y.2 ≠ .cell
  free : ∀ y ∈ sc.names, y.2 = .free → y.1 = "__class__"

def cxS (CX : CXT) (P : Program) (w : World) (K : PySem.W.Frag) (mg : Str → Option Value) (base : Heap) (N : List Str) (qual : Str) (scope : Scope) (f : Addr) (cd : Value) (cc : Addr) (A : Around) (outer : List Env) (s : Shared) (H : Hp) (E : XK) : Cx where
  prog := P
  w := w
  K := K
  mg := mg
  base := base
  A := A.deeper (PySem.W.ksEnv qual scope s.heap.objs.size f cd cc)
  N := N
  s_0 := s
  H_0 := H
  env := PySem.W.ksEnv qual scope s.heap.objs.size f cd cc
  outer := outer
  stack := PySem.W.ksEnv qual scope s.heap.objs.size f cd cc :: outer
  ex := []
  calm := true
  fn := fun _ => false
  pn := []
  xe := fun e s' => wpAny (model P w) (A.deeper (PySem.W.ksEnv qual scope s.heap.objs.size f cd cc)) (leaving (PySem.W.ksEnv qual scope s.heap.objs.size f cd cc) e) (fun _ s'' => CX outer H s E e s'') (fun e' s'' => CX outer H s E e' s'') s'

theorem zip_fst_sub : ∀ (ps : List Str) (us : List Value), ((ps.zip us).map (·.1)).Sublist ps
  | [], _ => by simp
  | _ :: _, [] => by simp
  | p :: ps, u :: us => by
    rw [List.zip_cons_cons, List.map_cons]
    exact (zip_fst_sub ps us).cons_cons p
theorem zip_rev_look : ∀ {ps : List Str} {us : List Value} {i : Nat} {x : Str} {u : Value}, ps.Nodup → ps[i]? = some x → us[i]? = some u → (ps.zip us).reverse.lookup x = some u := by
  intro ps us i x u nd hp hu
  have hmem : (x, u) ∈ (ps.zip us).reverse := by
    rw [List.mem_reverse]
    refine List.mem_iff_getElem?.mpr ⟨i, ?_⟩
    rw [List.getElem?_zip_eq_some]
    exact ⟨hp, hu⟩
  have key : ∀ (l : List (Str × Value)), (l.map (·.1)).Nodup → (x, u) ∈ l → l.lookup x = some u := by
    intro l
    induction l with
    | nil => intro _ h; cases h
    | cons p l ih =>
      intro hn hm
      obtain ⟨y, v⟩ := p
      rw [List.map_cons, List.nodup_cons] at hn
      rcases List.mem_cons.mp hm with e | hm
      · injection e with e1 e2
        subst e1 e2
        simp [List.lookup]
      · have hne : x ≠ y := fun e => hn.1 (by rw [← e]; exact List.mem_map_of_mem (f := (·.1)) hm)
        have hb : (x == y) = false := by simpa using hne
        rw [List.lookup, hb]
        exact ih hn.2 hm
  refine key _ ?_ hmem
  rw [List.map_reverse]
  refine List.pairwise_reverse.mpr (List.Pairwise.imp (fun h => Ne.symm h) ?_)
  exact nd.sublist (zip_fst_sub ps us)

section
variable {CX : CXT} {P : Program} {w : World} {K : PySem.W.Frag} {mg : Str → Option Value} {base : Heap} {N ps : List Str} {qual : Str} {scope : Scope} {f cc D : Addr} {cd : Value} {A : Around} {outer : List Env} {s : Shared} {H : Hp} {E : XK} {us : List Value} {vs : List V}
theorem inv_startS {h₁ : Heap} {tk : Nat} {cl : Value} {cld : Option Addr} {csl : Array (Option Value)} (S : SScope N ps scope) (hd : A.handled = none) (e0 : Env0 P w K mg base A outer s H) (hl : vs.length = ps.length) (r : Vals vs us)
    (hcc : K.lookup cc = some ⟨cl, cld, .cell (some (.ref D)), csl⟩) (hns : h₁.Ns s.heap.objs.size fun y => (ps.zip us).reverse.lookup y) (hk : ∀ b o, s.heap.get? b = some o → h₁.get? b = some o) :
    Inv (cxS CX P w K mg base N qual scope f cd cc A outer s H E) [] (L2.start N vs) H { s with heap := h₁, toks := tk } := by
  have hpl : ps.length ≤ N.length := by have := congrArg List.length S.pre; rw [List.length_take] at this; omega
  have noA : ∀ b : Addr, b ∉ (cxS CX P w K mg base N qual scope f cd cc A outer s H E).ex := fun b z => absurd (show b ∈ ([] : List Addr) from z) (by simp)
  have hbc : base.get? cc = some ⟨cl, cld, .cell (some (.ref D)), csl⟩ := e0.mod.kin _ _ hcc
  have look1 : ∀ {x : Str} {c : Addr}, (cxS CX P w K mg base N qual scope f cd cc A outer s H E).env.cells.lookup x = some c → x = "__class__" ∧ c = cc := fun {x c} h => by
    have h' : List.lookup x [(("__class__" : Str), cc)] = some c := h
    by_cases e : x = "__class__"
    · subst e
      simp [List.lookup] at h'
      exact ⟨rfl, h'.symm⟩
    · have eb : (x == ("__class__" : Str)) = false := by simpa using e
      simp [List.lookup, eb] at h'
  refine ⟨⟨e0.mod, S.kind, rfl, rfl, Nat.le_refl _, fun y z c h1 h2 => (look1 h1).1.trans (look1 h2).1.symm, fun y hy => ?_, fun y c h => (Bool.noConfusion h), fun _ => hd, Around.frames_deeper e0.frames, .inr ⟨rfl, rfl⟩, fun b z => absurd z (noA b), e0.bs, e0.bsz, fun b _ _ => noA b, fun b z => absurd z (noA b), e0.funs, e0.frf⟩,
    rfl, e0.bare, Un.kept hk, ⟨_, hns, fun i y v h1 h2 h3 => ?_⟩, fun y c h => ?_, e0.hok.fresh (Nat.le_refl _), fun y c h => ?_, fun p hp => absurd (show p ∈ ([] : List (Addr × Obj)) from hp) (by simp), e0.hok.kept hk, ?_⟩
  · have hy : scope.names.lookup y = some .cell ∨ scope.names.lookup y = some .free := hy
    rcases hy with hy | hy
    · exact absurd rfl (S.nocell _ (PySem.mem_of_lookup hy))
    · have e := S.free _ (PySem.mem_of_lookup hy) rfl
      have e' : y = "__class__" := e
      exact ⟨cc, by subst e'; show List.lookup _ [_] = _; simp [List.lookup]⟩
  · have hi : i < vs.length := by
      unfold L2.start at h2
      by_cases hi : i < vs.length
      · exact hi
      · rw [List.getElem?_append_right (by simpa using hi)] at h2
        rw [List.getElem?_replicate] at h2
        split at h2 <;> cases h2
    have ha : vs[i]? = some v := by
      unfold L2.start at h2
      rw [List.getElem?_append_left (by simpa using hi), List.getElem?_map] at h2
      cases e : vs[i]? with
      | none => rw [e] at h2; cases h2
      | some a => rw [e] at h2; cases h2; rfl
    obtain ⟨u, hu, rv⟩ := r.get ha
    have hp : ps[i]? = some y := by
      rw [← S.pre, List.getElem?_take_of_lt (by omega)]; exact h1
    have ndP : ps.Nodup := by rw [← S.pre]; exact S.nd.sublist (List.take_sublist _ _)
    exact ⟨u, rv, .inl ⟨S.par y (List.mem_of_getElem? hp), zip_rev_look ndP hp hu⟩⟩
  · obtain ⟨_, rfl⟩ := look1 h
    exact ⟨_, _, hk _ _ (e0.bs _ _ hbc).1, rfl⟩
  · obtain ⟨_, rfl⟩ := look1 h
    exact (e0.bs _ _ hbc).2
  · unfold L2.start
    show _ = N.length
    rw [List.length_append, List.length_map, List.length_replicate]
    omega
end

/-! ### the judgements at the body's own activation -/
structure PSt (X : Cx) (body : List Stmt) (st : Stmt) (t : TS) : Prop where
  run : ∀ (pins : List (Addr × Obj)) (s : Shared) (σ : L2.St) (H : Hp) (D : Ends), Inv X pins σ H s → t D σ H → _root_.PySem.wpAt (model X.prog X.w) X.A (.func body X.env) (exec st X.env) (SP X pins D) X.xe s
structure PSst (X : Cx) (body : List Stmt) (st : List Stmt) (t : TS) : Prop where
  run : ∀ (pins : List (Addr × Obj)) (s : Shared) (σ : L2.St) (H : Hp) (D : Ends), Inv X pins σ H s → t D σ H → _root_.PySem.wpAt (model X.prog X.w) X.A (.func body X.env) (execs st X.env) (SP X pins D) X.xe s
structure PEt (X : Cx) (body : List Stmt) (e : Expr) (t : TE) : Prop where
  run : ∀ (pins : List (Addr × Obj)) (s : Shared) (σ : L2.St) (H : Hp) (Q : VK), Inv X pins σ H s → t σ H Q → _root_.PySem.wpAt (model X.prog X.w) X.A (.func body X.env) (eval e X.env) (EP X pins σ Q) X.xe s
section
variable {X : Cx} {body : List Stmt} {st : Stmt} {rest : List Stmt} {t u : TS} {e : Expr} {te : TE} {pos : Pos}
theorem PSt.of (h : PS X st t) : PSt X body st t := ⟨fun pins s σ H D I hw => wpAt_of_wpAny (h.run pins s σ H D I hw)⟩
theorem PSst.of (h : PSs X rest t) : PSst X body rest t := ⟨fun pins s σ H D I hw => wpAt_of_wpAny (h.run pins s σ H D I hw)⟩
theorem PEt.of (h : PE X e te) : PEt X body e te := ⟨fun pins s σ H Q I hw => wpAt_of_wpAny (h.run pins s σ H Q I hw)⟩
theorem PSst.cons (h1 : PSt X body st t) (h2 : PSst X body rest u) : PSst X body (st :: rest) (tSeq t u) := by
  refine ⟨fun pins s σ H D I h => ?_⟩
  refine ks_wpAt_execs_cons (ks_wpAt_mono (h1.run pins s σ H { D with nx := u D } I h) (fun f s1 q => ?_) fun _ _ z => z)
  cases f with
  | next =>
    obtain ⟨σ', H', I', q⟩ := q
    exact h2.run pins s1 σ' H' D I' q
  | ret v => exact q
  | brk => exact q
  | cont => exact q
theorem PSst.one (h1 : PSt X body st t) : PSst X body [st] t := by
  refine ⟨fun pins s σ H D I h => ?_⟩
  refine ks_wpAt_execs_cons (ks_wpAt_mono (h1.run pins s σ H D I h) (fun f s1 q => ?_) fun _ _ z => z)
  cases f with
  | next => exact wpAt_of_wpAny (wpAny_execs_nil q)
  | ret v => exact q
  | brk => exact q
  | cont => exact q
theorem pst_expr (he : PEt X body e te) (hs : swapsWith e none pos.line X.env = pure false := by rfl) : PSt X body (.Expr e pos) (tDrop te) := by
  refine ⟨fun pins s σ H D I h => ?_⟩
  exact ks_wpAt_Expr_any (ks_wpAt_mono (he.run pins s σ H _ I h) (fun v s1 ⟨x, H1, I1, r1, q1⟩ => ⟨σ, H1, I1, q1⟩) fun _ _ z => z) I.quiet hs
theorem pst_ret (he : PEt X body e te) : PSt X body (.Return (some e) pos) (tRet te) := by
  refine ⟨fun pins s σ H D I h => ?_⟩
  exact ks_wpAt_Return_some (ks_wpAt_mono (he.run pins s σ H _ I h) (fun v s1 ⟨x, H1, I1, r1, q1⟩ => ⟨x, σ, H1, I1, r1, q1⟩) fun _ _ z => z)
end

/-! ### THE RULE for a def with super() -/
section
variable {CX : CXT} {P : Program} {w : World} {K : PySem.W.Frag} {mg : Str → Option Value} {base : Heap} {k : Nat} {f cc D : Addr} {name qual : Str} {params : Arguments} {body : List Stmt} {scope : Scope} {dV kV doc pm cdv ct oc cl : Value} {an od cld : Option Addr}
    {osl csl : Array (Option Value)} {N ps : List Str} {sp : Sp}
theorem fn_sup (lk : K.lookup f = some ⟨oc, od, .func (PySem.W.ksFn name qual params body scope dV kV doc pm an cdv ct cc), osl⟩) (hcd : PySem.W.codeIn K cdv qual = true) (hcc : K.lookup cc = some ⟨cl, cld, .cell (some (.ref D)), csl⟩) (S : SScope N ps scope)
    (len : ∀ vs H Q E, sp vs H Q E → vs.length = ps.length)
    (hbody : ∀ (A : Around) (outer : List Env) (s : Shared) (H : Hp) (vs : List V) (Q : VK) (E : XK), Room k (A.deeper (PySem.W.ksEnv qual scope s.heap.objs.size f cdv cc)) → sp vs H Q E →
      ∃ t, PSst (cxS CX P w K mg base N qual scope f cdv cc A outer s H E) body body t ∧ t { nx := fun _ H' => Q .non H', rt := Q } (L2.start N vs) H) :
    FnOk P w K mg base CX (k + 1) f (PySem.W.ksFn name qual params body scope dV kV doc pm an cdv ct cc) ps sp := by
  refine ⟨len, fun A outer s H args us vs Q E hr e0 hb r hsp => ?_⟩
  have hl := len _ _ _ _ hsp
  have KX : K.In s.heap := e0.mod.kin.keeps fun b o e => (e0.bs b o e).1
  have lim : s.heap.NoLimit := e0.mod.nolimit.keeps fun b o e => (e0.bs b o e).1
  refine ks_codeAny_call_defAt (fd := PySem.W.ksFn name qual params body scope dV kV doc pm an cdv ct cc) (body := body) (binds := ps.zip us) hr.depth (KX _ _ lk) rfl lim (PySem.W.codeRec_of KX hcd) rfl hb S.nocell
    (fun x hx => S.par _ (List.of_mem_zip hx).1) (fun h₁ hns hk => ?_) S.co S.gen S.kind
  obtain ⟨t, ht, hq⟩ := hbody A outer s H vs Q E (hr.deeper _) hsp
  have I : Inv (cxS CX P w K mg base N qual scope f cdv cc A outer s H E) [] (L2.start N vs) H { s with heap := h₁, toks := s.toks + (ps.zip us).length } := inv_startS S hr.hd e0 hl r hcc hns hk
  refine ks_wpAt_mono (ht.run [] _ (L2.start N vs) H _ I hq) (fun fl s' hs => ?_) fun e s' hs => hs
  have fin : ∀ {σ' : L2.St} {H' : Hp} {v : V} {u : Value}, Inv (cxS CX P w K mg base N qual scope f cdv cc A outer s H E) [] σ' H' s' → RelV v u → Q v H' → CE outer P w H s Q u s' :=
    fun {σ' H' v u} J rv q => ⟨v, H', J.os, J.bare, J.base, J.hok, rv, q⟩
  cases fl with
  | ret u =>
    obtain ⟨v, σ', H', J, rv, q⟩ := hs
    exact fin J rv q
  | next =>
    obtain ⟨σ', H', J, q⟩ := hs
    exact fin (v := V.non) (u := Value.none) J rfl q
  | brk =>
    obtain ⟨_, _, _, q⟩ := hs
    exact False.elim q
  | cont =>
    obtain ⟨_, _, _, q⟩ := hs
    exact False.elim q
end
end Sw

set_option Elab.async false
set_option linter.all false
set_option maxRecDepth 100000
set_option maxHeartbeats 4000000
namespace Sw
open PySem PySem.Spec PyProof.Rows L2

/-! ### super() -/
/-- what the written part and the text must say around a super() in the def at f, a method of the class D, called with an instance of C -/
structure SupT (X : Cx) (f cda cc D : Addr) : Prop where
  fu : X.env.func = some f
  co : X.env.code = .ref cda
  fd : ∃ oc od fd osl ar, X.K.lookup f = some ⟨oc, od, .func fd, osl⟩ ∧ (fd.params.posonlyargs ++ fd.params.args).head? = some ar ∧ X.N[0]? = some ar.arg ∧ X.env.scope.names.lookup ar.arg = some .local
  cd : ∃ ccl cdd vs ccs file tf, X.K.lookup cda = some ⟨ccl, cdd, .fields vs, ccs⟩ ∧ vs[2]? = some (.str file tf) ∧ ((X.prog.main.file : Str) == file) = true
  ce : ∃ cl cld csl, X.K.lookup cc = some ⟨cl, cld, .cell (some (.ref D)), csl⟩
  cz : X.env.cells.lookup ("__class__" : Str) = some cc
  dc : ∃ cdD, PySem.W.clsIn X.K D = some cdD
  su : X.mg "super" = none
  ks : X.env.scope.names.lookup ("super" : Str) = some .globalImplicit
  kc : X.env.scope.names.lookup ("__class__" : Str) = some .free
  tp : (X.prog.main.scope.names.lookup ("super" : Str)).isSome = false

section
variable {X : Cx} {pins : List (Addr × Obj)} {σ : L2.St} {H : Hp} {s : Shared} {a C D f cda cc : Addr} {ox : Obj} {odx : Option Obj} {body : List Stmt} {E : Value → Shared → Prop}
theorem super_base {p0 p1 : Pos} {attr : Str} {whole : Sem Value} {Q : Value → Shared → Prop} (T : SupT X f cda cc D) (I : Inv X pins σ H s) (h0 : σ[0]? = some (some (.ref a))) (J : PySem.W.InstAt s.heap a ox C odx)
    (hsub : PySem.W.mroIn X.K C (.ref D) = some true) (hat : (attr == ("__class__" : Str)) = false)
    (h : ∀ s', Inv X ((s.heap.objs.size, PySem.W.ks_superObj D a C) :: pins) σ H s' → (∀ b o, s.heap.get? b = some o → s'.heap.get? b = some o) → Q (.ref s.heap.objs.size) s') :
    _root_.PySem.wpAt (model X.prog X.w) X.A (.func body X.env) (attributeBase (.Call (.Name "super" p0) [] [] p1) attr X.env whole) Q E s := by
  obtain ⟨oc, od, fd, osl, ar, hf, hp, hN0, hka⟩ := T.fd
  obtain ⟨ccl, cdd, vs, ccs, file, tf, hcode, hvs, hfile⟩ := T.cd
  obtain ⟨cl, cld, csl, hcell⟩ := T.ce
  obtain ⟨cdD, hD⟩ := T.dc
  have KX : X.K.In s.heap := I.kIn
  have I0 := I
  obtain ⟨m, hn, hl⟩ := I.loc
  obtain ⟨u, ru, lk⟩ := hl 0 _ _ hN0 h0 (.inl hka)
  obtain rfl : u = Value.ref a := ru
  have hm : m ar.arg = some (.ref a) := by
    rcases lk with ⟨_, e⟩ | ⟨k, _⟩
    · exact e
    · have k' : X.env.scope.names.lookup ar.arg = some .cell ∨ X.env.scope.names.lookup ar.arg = some .free := k
      rw [hka] at k'
      rcases k' with k' | k' <;> cases k'
  obtain ⟨hh, g, d, t, os⟩ := s
  obtain ⟨oD, hD1, hD2⟩ : ∃ oD, hh.get? D = some oD ∧ oD.data = .cls cdD := by
    unfold PySem.W.clsIn at hD
    split at hD
    · rename_i c d cd' sl ho
      cases hD
      exact ⟨_, KX _ _ ho, rfl⟩
    · cases hD
  obtain ⟨mb, hb1, hb2⟩ := I.mod.blt
  refine ks_wpAt_super_base (env := X.env) (cc := cda) T.ks T.kc hat T.fu (KX _ _ hf) rfl hp T.co (KX _ _ hcode) rfl hvs hfile T.tp ?_
  refine PySem.W.ks_loadName_global I.ok.kind T.ks (Calls.loadGlobal_builtin (by rw [I.ok.glob]; exact I.mod.glob.keeps I.bk) T.su (by rw [I.ok.blt]; exact hb1.keeps I.bk) ((hb2 "super" (by decide +kernel)).trans (by first | boot_by_name | rfl | kernel_rfl)) ⟨rfl, ?_⟩)
  refine wpAny_loadName_free I.ok.kind T.kc T.cz ⟨_, KX _ _ hcell, rfl⟩ ?_
  refine wpAny_loadName_local I.ok.kind hka hn hm ?_
  refine ks_wpAny_isType_cls hD1 hD2 ⟨rfl, ?_⟩
  refine ks_wpAny_call_super hD1 hD2 J.at_ J.cls (fun c e => ?_) (PySem.W.looks_mroIn KX hsub) (fun h' e k => ?_)
  · have := J.no
    unfold PySem.W.notCls at this
    rw [e] at this
    exact Bool.noConfusion this
  · exact h _ (ClX.pin_new I0 k (Nat.le_refl _) e (fun v z => nomatch z)) k

/-- the method found above D in the order of C -/
structure SupM (K : PySem.W.Frag) (C D : Addr) (m : Str) (g : Addr) : Prop where
  any : PySem.W.nsIn K PySem.cStatics "thirdparty.any" = some none
  at_ : PySem.W.ks_superIn K C D m = some (some (.ref g))
  ty : PySem.W.typeIn K (.ref g) = some (.type "function")
  fi : PySem.W.fnIn K g = true
  sub : PySem.W.mroIn K C (.ref D) = some true
  nc : (m == ("__class__" : Str)) = false

theorem super_meth {m : Str} {g so : Addr} {pl : Sem Bool} {A : Around} {Q : Value × List Value → Shared → Prop} (M : SupM X.K C D m g) (I : Inv X ((so, PySem.W.ks_superObj D a C) :: pins) σ H s) (J : PySem.W.InstAt s.heap a ox C odx)
    (h : ∀ s', Inv X ((s.heap.objs.size, PySem.W.methodObj (.ref g) (.ref a)) :: pins) σ H s' → Q (.ref s.heap.objs.size, []) s') : wpAny (model X.prog X.w) A (getMethod (.ref so) m pl) Q E s := by
  have KX : X.K.In s.heap := I.kIn
  have hso := ClX.pin_at I
  have hm := M.at_
  have I0 := I
  obtain ⟨hh, gg, d, t, os⟩ := s
  cases hc : PySem.W.clsIn X.K C with
  | none => unfold PySem.W.ks_superIn at hm; rw [hc] at hm; cases hm
  | some cd =>
    unfold PySem.W.ks_superIn at hm
    rw [hc] at hm
    obtain ⟨of, hof, hofc⟩ : ∃ of, hh.get? g = some of ∧ of.cls = .type "function" := by
      have ht' : (X.K.lookup g).map (·.cls) = some (.type "function") := M.ty
      cases z : X.K.lookup g with
      | none => rw [z] at ht'; cases ht'
      | some of => rw [z] at ht'; exact ⟨of, KX _ _ z, Option.some.inj ht'⟩
    refine ks_wpAny_getMethod_super hso (PySem.W.looks_opaque KX M.any) (l₀ := cd.mro) ?_ rfl KX hm hof hofc (PySem.W.ks_ne KX J hc) M.nc ?_
    · exact fun A Q E s k q => wpAny_bind ((PySem.W.looks_clsIn KX hc) A _ E s k (wpAny_pure q))
    · exact h _ (ClX.pin_new (ClX.unpin I0) (fun b o e => Heap.get?_push_of_some _ e) (Nat.le_refl _) (Heap.get?_push_size _ rfl) (fun v z => nomatch z))


end

/-! ### callees by their conventions: n positional values, keywords ks -/
abbrev SpC := List V → List V → Hp → VK → XK → Prop
def Cal (P : Program) (w : World) (K : PySem.W.Frag) (mg : Str → Option Value) (base : Heap) (k : Nat) (f : Addr) (n : Nat) (ks : List Str) (sp : SpC) : Prop :=
  ∀ (A : Around) (outer : List Env) (s : Shared) (H : Hp) (us ws : List Value) (vs zs : List V) (Q : VK) (E : XK), Room k A → Env0 P w K mg base A outer s H → Vals vs us → Vals zs ws → vs.length = n → zs.length = ks.length → sp vs zs H Q E →
    codeAny (model P w) A (.call (.ref f) ⟨us, ks.zip ws⟩) (CR (L2.CX P w) outer P w H s Q E) s
section
variable {P : Program} {w : World} {K : PySem.W.Frag} {mg : Str → Option Value} {base : Heap} {j k : Nat} {f : Addr} {fd : FuncData} {ps ks : List Str} {n : Nat} {sp : Sp} {spc spc' : SpC}
theorem ok_lift {sp : Sp} (F : FnOk P w K mg base CX0 k f fd ps sp) : FnOk P w K mg base (L2.CX P w) k f fd ps sp :=
  ⟨F.len, fun A outer s H args us vs Q E hr e0 hb r h => codeAny_mono (F.run A outer s H args us vs Q E hr e0 hb r h) fun r s' hq => by
    cases r with
    | error e => exact False.elim hq
    | ok fl => cases fl <;> exact hq⟩
theorem calK {g : List Value → List Value → List Value} {gV : List V → List V → List V} (F : FnOk P w K mg base (L2.CX P w) k f fd ps sp) (hb : KBn K fd ps n ks g gV) : Cal P w K mg base k f n ks (fun vs zs => sp (gV vs zs)) :=
  fun A outer s H us ws vs zs Q E hr e0 r rz l1 l2 h =>
    F.run A outer s H ⟨us, ks.zip ws⟩ (g us ws) (gV vs zs) Q E hr e0 (hb.to s us ws (e0.mod.kin.keeps fun b o e => (e0.bs b o e).1) (r.length.symm.trans l1) (rz.length.symm.trans l2)) (hb.rel r rz) h
/-- positional values, the defaults behind them -/
theorem calP {ds : List Value} {dvs : List V} (F : FnOk P w K mg base (L2.CX P w) k f fd ps sp) (hb : Binds K fd ps ds) (hd : Vals dvs ds) (hn : n + ds.length = ps.length) : Cal P w K mg base k f n [] (fun vs _ => sp (vs ++ dvs)) :=
  fun A outer s H us ws vs zs Q E hr e0 r rz l1 l2 h => by
    have e : (⟨us, ([] : List Str).zip ws⟩ : Args) = ⟨us, []⟩ := by rw [List.zip_nil_left]
    rw [e]
    exact F.run A outer s H ⟨us, []⟩ (us ++ ds) (vs ++ dvs) Q E hr e0 (hb s us (e0.mod.kin.keeps fun b o e => (e0.bs b o e).1) (by rw [List.length_append, ← r.length, l1, hn])) (r.append hd) h
theorem cal0 (F : FnOk P w K mg base (L2.CX P w) k f fd ps sp) (hb : Binds K fd ps []) (hn : n = ps.length) : Cal P w K mg base k f n [] (fun vs _ => sp vs) :=
  fun A outer s H us ws vs zs Q E hr e0 r rz l1 l2 h => by
    have e : (⟨us, ([] : List Str).zip ws⟩ : Args) = ⟨us, []⟩ := by rw [List.zip_nil_left]
    rw [e]
    have hl : (us ++ []).length = ps.length := by rw [List.append_nil, ← r.length, l1, hn]
    have hb' := hb s us (e0.mod.kin.keeps fun b o e => (e0.bs b o e).1) hl
    rw [List.append_nil] at hb'
    exact F.run A outer s H ⟨us, []⟩ us vs Q E hr e0 hb' r h
theorem Cal.mono (F : Cal P w K mg base j f n ks spc) (h : j ≤ k) : Cal P w K mg base k f n ks spc := fun A outer s H us ws vs zs Q E hr => F A outer s H us ws vs zs Q E (hr.mono h)
theorem Cal.imp (F : Cal P w K mg base k f n ks spc) (h : ∀ vs zs H Q E, spc' vs zs H Q E → spc vs zs H Q E) : Cal P w K mg base k f n ks spc' := fun A outer s H us ws vs zs Q E hr e0 r rz l1 l2 q => F A outer s H us ws vs zs Q E hr e0 r rz l1 l2 (h _ _ _ _ _ q)
/-- a global def by its name -/
structure GFn (P : Program) (w : World) (K : PySem.W.Frag) (mg : Str → Option Value) (base : Heap) (k : Nat) (x : Str) (n : Nat) (ks : List Str) (sp : SpC) : Prop where
  ex : ∃ f, mg x = some (.ref f) ∧ PySem.W.keepIn K (.ref f) = true ∧ Cal P w K mg base k f n ks sp
/-- a class by its name: C(..) with its __init__ -/
structure GMk (P : Program) (w : World) (K : PySem.W.Frag) (mg : Str → Option Value) (base : Heap) (k : Nat) (x : Str) (C : Addr) (n : Nat) (ks : List Str) (sp : SpC) : Prop where
  at_ : mg x = some (.ref C)
  ex : ∃ f, Mk K C f ∧ Cal P w K mg base k f (n + 1) ks sp
/-- a method of the class at C -/
structure GMt (P : Program) (w : World) (K : PySem.W.Frag) (mg : Str → Option Value) (base : Heap) (k : Nat) (C : Addr) (m : Str) (n : Nat) (ks : List Str) (sp : SpC) : Prop where
  cl : Cls K C
  ex : ∃ f, Meth K C m f ∧ Cal P w K mg base k f (n + 1) ks sp
/-- a property of the class at C -/
structure GPr (P : Program) (w : World) (K : PySem.W.Frag) (mg : Str → Option Value) (base : Heap) (k : Nat) (C : Addr) (m : Str) (sp : SpC) : Prop where
  cl : Cls K C
  ex : ∃ p g, PropOf K C m p g ∧ Cal P w K mg base k g 1 [] sp
end

section
variable {X : Cx} {k n : Nat} {f C : Addr} {ks : List Str} {sp : SpC} {W : WX} {x : Str}
theorem run_cal {pins : List (Addr × Obj)} {σ : L2.St} {H : Hp} {s : Shared} {Q : VK} {us ws : List Value} {vs zs : List V} (F : Cal X.prog X.w X.K X.mg X.base k f n ks sp) (hr : Room k X.A) (tw : Takes X W) (I : Inv X pins σ H s) (r : Vals vs us) (rz : Vals zs ws)
    (l1 : vs.length = n) (l2 : zs.length = ks.length) (h : sp vs zs H Q (WE W σ)) :
    codeAny (model X.prog X.w) X.A (.call (.ref f) ⟨us, ks.zip ws⟩) (fun r s' => match r with | .ok (.ret v) => EP X pins σ Q v s' | .ok _ => False | .error e => X.xe e s') s := by
  refine codeAny_mono (F X.A X.stack s H us ws vs zs Q (WE W σ) hr I.env0 r rz l1 l2 h) fun r s' hq => ?_
  cases r with
  | error e => exact passAt tw σ pins H s e s' I hq
  | ok fl =>
    cases fl with
    | ret u => exact I.after hq
    | next => exact False.elim hq
    | brk => exact False.elim hq
    | cont => exact False.elim hq
end

/-- f(e, .., k = v, ..) -/
def tCalG (n m : Nat) (sp : SpC) (W : WX) (t tk : TA) : TE := fun σ H Q => t σ H fun vs H1 => tk σ H1 fun zs H2 => vs.length = n ∧ zs.length = m ∧ sp vs zs H2 Q (WE W σ)
/-- C(e, .., k = v, ..) -/
def tMkG (C : Addr) (n m : Nat) (sp : SpC) (W : WX) (t tk : TA) : TE := fun σ H Q => t σ H fun vs H1 => tk σ H1 fun zs H2 => vs.length = n ∧ zs.length = m ∧ ∀ x dx, H2 x = none → H2 dx = none → dx ≠ x →
  sp (.ref x :: vs) zs (upd (upd H2 dx (.own x)) x (.ins C dx [])) (fun v H3 => v = .non ∧ Q (.ref x) H3) (WE W σ)
section
variable {X : Cx} {k n : Nat} {f C : Addr} {ks : List Str} {sp : SpC} {W : WX} {x m : Str} {p pos apos : Pos} {e o : Expr} {es : List Expr} {kws : List Keyword} {t tk : TA} {ta : TE}
theorem pe_callG (G : GFn X.prog X.w X.K X.mg X.base k x n ks sp) (hr : Room k X.A) (tw : Takes X W) (ha : PA X (e :: es) t) (hkw : PK X kws tk) (hg : Gl X x := by rfl)
    (hall : (backToKw pos (keywordEach kws X.env)).all (·.1.isSome) = true := by rfl) (hks : (backToKw pos (keywordEach kws X.env)).filterMap (·.1) = ks := by rfl) (hdb : (x == ("__debug__" : Str)) = false := by decide)
    (he : starEach (e :: es) X.env = (false, eval e X.env) :: starEach es X.env := by rfl)
    (hpl : ((backTo pos (starEach (e :: es) X.env)).any (·.1) || (backToKw pos (keywordEach kws X.env)).any (·.1.isNone)) = false := by rfl) :
    PE X (.Call (.Name x p) (e :: es) kws pos) (tCalG n ks.length sp W t tk) := by
  refine ⟨fun pins s σ H Q I h => ?_⟩
  obtain ⟨f, hm, hk, F⟩ := G.ex
  refine wpAny_Call_Name_kw (ld_glob I hg hm ?_ hdb)
  refine PySem.W.callWith_KW (h₀ := X.base) I.ok.mod.kin hk hall (thn (ha.run pos pins s σ H _ I h) fun us s1 ⟨vs, H1, I1, r, q⟩ => ?_) hpl he
  refine thn (hkw.run pos pins s1 σ H1 _ I1 q) fun ws s2 ⟨zs, H2, I2, rz, l1, l2, q2⟩ => ⟨I2.kIn, ?_⟩
  rw [hks]
  exact wpAny_call (run_cal F hr tw I2 r rz l1 l2 q2)
theorem pe_callG0 (G : GFn X.prog X.w X.K X.mg X.base k x n ks sp) (hr : Room k X.A) (tw : Takes X W) (hkw : PK X kws tk) (hg : Gl X x := by rfl)
    (hall : (backToKw pos (keywordEach kws X.env)).all (·.1.isSome) = true := by rfl) (hks : (backToKw pos (keywordEach kws X.env)).filterMap (·.1) = ks := by rfl) (hdb : (x == ("__debug__" : Str)) = false := by decide)
    (hpl : ((backTo pos (starEach [] X.env)).any (·.1) || (backToKw pos (keywordEach kws X.env)).any (·.1.isNone)) = false := by rfl) :
    PE X (.Call (.Name x p) [] kws pos) (tCalG n ks.length sp W tNil tk) := by
  refine ⟨fun pins s σ H Q I h => ?_⟩
  obtain ⟨f, hm, hk, F⟩ := G.ex
  refine wpAny_Call_Name_kw (ld_glob I hg hm ?_ hdb)
  refine PySem.W.callWith_KW0 (h₀ := X.base) I.ok.mod.kin hk hall ?_ hpl
  refine thn (hkw.run pos pins s σ H _ I h) fun ws s2 ⟨zs, H2, I2, rz, l1, l2, q2⟩ => ⟨I2.kIn, ?_⟩
  rw [hks]
  exact wpAny_call (run_cal (us := []) (vs := []) F hr tw I2 .nil rz l1 l2 q2)
theorem run_mk {pins : List (Addr × Obj)} {σ : L2.St} {H : Hp} {s : Shared} {Q : VK} {us ws : List Value} {vs zs : List V} (M : Mk X.K C f) (F : Cal X.prog X.w X.K X.mg X.base k f (n + 1) ks sp) (hr : Room (k + 1) X.A) (tw : Takes X W)
    (I : Inv X pins σ H s) (r : Vals vs us) (rz : Vals zs ws) (l1 : vs.length = n) (l2 : zs.length = ks.length)
    (h : ∀ x dx, H x = none → H dx = none → dx ≠ x → sp (.ref x :: vs) zs (upd (upd H dx (.own x)) x (.ins C dx [])) (fun v H2 => v = .non ∧ Q (.ref x) H2) (WE W σ)) :
    wpAny (model X.prog X.w) X.A (call (.ref C) us (ks.zip ws)) (EP X pins σ Q) X.xe s := by
  have hq := h (s.heap.objs.size + 1) s.heap.objs.size (I.hok.fresh (Nat.le_succ _)) (I.hok.fresh (Nat.le_refl _)) (Nat.ne_of_lt (Nat.lt_succ_self _))
  have I2 := Inv.made (C := C) I
  have r1 : Vals (V.ref (s.heap.objs.size + 1) :: vs) (Value.ref (s.heap.objs.size + 1) :: us) := .cons rfl r
  have n1 : (V.ref (s.heap.objs.size + 1) :: vs).length = n + 1 := by
    rw [List.length_cons, l1]
  refine wpAny_call (make_map (f := f) I.kIn M.makes M.init (beq_iff_eq.mp M.fn) (codeAny_mono (F _ X.stack _ _ (Value.ref (s.heap.objs.size + 1) :: us) ws _ _ _ (WE W σ) (hr.make C us (ks.zip ws))
    (I2.env0.make C us (ks.zip ws)) r1 rz n1 l2 hq) fun r s' hq' => ?_))
  cases r with
  | error e => exact passAt tw σ pins _ _ e s' I2 hq'
  | ok fl =>
    cases fl with
    | ret u =>
      obtain ⟨v, H', I3, rv, ev, q3⟩ := I2.after hq'
      subst ev
      exact ⟨rv, ⟨V.ref (s.heap.objs.size + 1), H', I3, rfl, q3⟩⟩
    | next => exact False.elim hq'
    | brk => exact False.elim hq'
    | cont => exact False.elim hq'
theorem pe_makeG (G : GMk X.prog X.w X.K X.mg X.base k x C n ks sp) (hr : Room (k + 1) X.A) (tw : Takes X W) (ha : PA X (e :: es) t) (hkw : PK X kws tk) (hg : Gl X x := by rfl)
    (hall : (backToKw pos (keywordEach kws X.env)).all (·.1.isSome) = true := by rfl) (hks : (backToKw pos (keywordEach kws X.env)).filterMap (·.1) = ks := by rfl) (hdb : (x == ("__debug__" : Str)) = false := by decide)
    (he : starEach (e :: es) X.env = (false, eval e X.env) :: starEach es X.env := by rfl) (hpl : ((backTo pos (starEach (e :: es) X.env)).any (·.1) || (backToKw pos (keywordEach kws X.env)).any (·.1.isNone)) = false := by rfl) :
    PE X (.Call (.Name x p) (e :: es) kws pos) (tMkG C n ks.length sp W t tk) := by
  refine ⟨fun pins s σ H Q I h => ?_⟩
  obtain ⟨f, M, F⟩ := G.ex
  refine wpAny_Call_Name_kw (ld_glob I hg G.at_ ?_ hdb)
  refine PySem.W.callWith_KW (h₀ := X.base) I.ok.mod.kin M.kp hall (thn (ha.run pos pins s σ H _ I h) fun us s1 ⟨vs, H1, I1, r, q⟩ => ?_) hpl he
  refine thn (hkw.run pos pins s1 σ H1 _ I1 q) fun ws s2 ⟨zs, H2, I2, rz, l1, l2, q2⟩ => ⟨I2.kIn, ?_⟩
  rw [hks]
  exact run_mk M F hr tw I2 r rz l1 l2 q2
theorem pe_makeG0 (G : GMk X.prog X.w X.K X.mg X.base k x C n ks sp) (hr : Room (k + 1) X.A) (tw : Takes X W) (hkw : PK X kws tk) (hg : Gl X x := by rfl)
    (hall : (backToKw pos (keywordEach kws X.env)).all (·.1.isSome) = true := by rfl) (hks : (backToKw pos (keywordEach kws X.env)).filterMap (·.1) = ks := by rfl) (hdb : (x == ("__debug__" : Str)) = false := by decide)
    (hpl : ((backTo pos (starEach [] X.env)).any (·.1) || (backToKw pos (keywordEach kws X.env)).any (·.1.isNone)) = false := by rfl) :
    PE X (.Call (.Name x p) [] kws pos) (tMkG C n ks.length sp W tNil tk) := by
  refine ⟨fun pins s σ H Q I h => ?_⟩
  obtain ⟨f, M, F⟩ := G.ex
  refine wpAny_Call_Name_kw (ld_glob I hg G.at_ ?_ hdb)
  refine PySem.W.callWith_KW0 (h₀ := X.base) I.ok.mod.kin M.kp hall ?_ hpl
  refine thn (hkw.run pos pins s σ H _ I h) fun ws s2 ⟨zs, H2, I2, rz, l1, l2, q2⟩ => ⟨I2.kIn, ?_⟩
  rw [hks]
  exact run_mk (us := []) (vs := []) M F hr tw I2 .nil rz l1 l2 q2
/-- o.m(e, .., k = v, ..), whatever class o is of -/
def tMtG (P : Program) (w : World) (K : PySem.W.Frag) (mg : Str → Option Value) (base : Heap) (k : Nat) (m : Str) (n : Nat) (ks : List Str) (W : WX) (ta : TE) (t tk : TA) : TE := fun σ H Q => ta σ H fun x H1 => ∃ a C dx fs sp, x = .ref a ∧ H1 a = some (.ins C dx fs) ∧ fs.lookup m = none ∧
  GMt P w K mg base k C m n ks sp ∧ t σ H1 fun vs H2 => tk σ H2 fun zs H3 => vs.length = n ∧ zs.length = ks.length ∧ sp (.ref a :: vs) zs H3 Q (WE W σ)
theorem pe_methG {pl : Sem Bool} (he : PE X o ta) (hr : Room k X.A) (tw : Takes X W) (ha : PA X (e :: es) t) (hkw : PK X kws tk)
    (hall : (backToKw pos (keywordEach kws X.env)).all (·.1.isSome) = true := by rfl) (hks : (backToKw pos (keywordEach kws X.env)).filterMap (·.1) = ks := by rfl)
    (hst : starEach (e :: es) X.env = (false, eval e X.env) :: starEach es X.env := by rfl) (hpl : ((backTo pos (starEach (e :: es) X.env)).any (·.1) || (backToKw pos (keywordEach kws X.env)).any (·.1.isNone)) = false := by rfl)
    (ht : eval (.Call (.Attribute o m apos) (e :: es) kws pos) X.env = (do
      let ov ← eval o X.env
      standAt apos.atName
      let (f, first) ← holding [ov] (getMethod ov m pl)
      callWith pos f first (backTo pos (starEach (e :: es) X.env)) (backToKw pos (keywordEach kws X.env))) := by rfl) :
    PE X (.Call (.Attribute o m apos) (e :: es) kws pos) (tMtG X.prog X.w X.K X.mg X.base k m n ks W ta t tk) := by
  refine ⟨fun pins s σ H Q I h => ?_⟩
  refine PySem.W.methodCall_KW (pl := pl) (thn (he.run pins s σ H _ I h) fun u s1 ⟨x, H1, I1, rx, a, C, dx, fs, sp, ex, ea, l, G, q⟩ => ?_) ht
  subst ex
  obtain rfl : u = Value.ref a := rx
  obtain ⟨f, M, F⟩ := G.ex
  refine getmeth_ok I1 ea G.cl M l ?_
  refine PySem.W.callWith_KW (h₀ := X.base) I.ok.mod.kin M.kp hall (thn (ha.run pos pins s1 σ H1 _ I1 q) fun us s2 ⟨vs, H2, I2, r, q⟩ => ?_) hpl hst
  refine thn (hkw.run pos pins s2 σ H2 _ I2 q) fun ws s3 ⟨zs, H3, I3, rz, l1, l2, q3⟩ => ⟨I3.kIn, ?_⟩
  rw [hks]
  exact wpAny_call (run_cal (us := .ref a :: us) (vs := .ref a :: vs) F hr tw I3 (.cons rfl r) rz (by rw [List.length_cons, l1]) l2 q3)
theorem pe_methG0 {pl : Sem Bool} (he : PE X o ta) (hr : Room k X.A) (tw : Takes X W) (hkw : PK X kws tk)
    (hall : (backToKw pos (keywordEach kws X.env)).all (·.1.isSome) = true := by rfl) (hks : (backToKw pos (keywordEach kws X.env)).filterMap (·.1) = ks := by rfl)
    (hpl : ((backTo pos (starEach [] X.env)).any (·.1) || (backToKw pos (keywordEach kws X.env)).any (·.1.isNone)) = false := by rfl)
    (ht : eval (.Call (.Attribute o m apos) [] kws pos) X.env = (do
      let ov ← eval o X.env
      standAt apos.atName
      let (f, first) ← holding [ov] (getMethod ov m pl)
      callWith pos f first (backTo pos (starEach [] X.env)) (backToKw pos (keywordEach kws X.env))) := by rfl) :
    PE X (.Call (.Attribute o m apos) [] kws pos) (tMtG X.prog X.w X.K X.mg X.base k m n ks W ta tNil tk) := by
  refine ⟨fun pins s σ H Q I h => ?_⟩
  refine PySem.W.methodCall_KW (pl := pl) (thn (he.run pins s σ H _ I h) fun u s1 ⟨x, H1, I1, rx, a, C, dx, fs, sp, ex, ea, l, G, q⟩ => ?_) ht
  subst ex
  obtain rfl : u = Value.ref a := rx
  obtain ⟨f, M, F⟩ := G.ex
  refine getmeth_ok I1 ea G.cl M l ?_
  refine PySem.W.callWith_KW0 (h₀ := X.base) I.ok.mod.kin M.kp hall ?_ hpl
  refine thn (hkw.run pos pins s1 σ H1 _ I1 q) fun ws s3 ⟨zs, H3, I3, rz, l1, l2, q3⟩ => ⟨I3.kIn, ?_⟩
  rw [hks]
  exact wpAny_call (run_cal (us := [.ref a]) (vs := [.ref a]) F hr tw I3 (.cons rfl .nil) rz (by rw [← l1]; rfl) l2 q3)
/-- o.f, a property, whatever class o is of -/
def tPrG (P : Program) (w : World) (K : PySem.W.Frag) (mg : Str → Option Value) (base : Heap) (k : Nat) (m : Str) (ta : TE) : TE := fun σ H Q => ta σ H fun x H1 => ∃ a C dx fs sp, x = .ref a ∧ H1 a = some (.ins C dx fs) ∧
  GPr P w K mg base k C m sp ∧ sp [.ref a] [] H1 Q E0
theorem pe_propG (he : PE X o ta) (hr : Room (k + 1) X.A)
    (hab : attributeBase o m X.env (eval o X.env) = eval o X.env := by rfl) : PE X (.Attribute o m pos) (tPrG X.prog X.w X.K X.mg X.base k m ta) := by
  refine ⟨fun pins s σ H Q I h => ?_⟩
  refine attr_of hab (thn (he.run pins s σ H _ I h) fun u s1 ⟨x, H1, I1, rx, a, C, dx, fs, sp, ex, ea, G, q⟩ => ?_)
  subst ex
  obtain rfl : u = Value.ref a := rx
  obtain ⟨p, g, hp, F⟩ := G.ex
  obtain ⟨mA, O, _, _, _, _⟩ := ins_get I1.hok ea
  obtain ⟨od, J, _⟩ := O.look
  obtain ⟨rest, hrec⟩ := hp.rec_
  have I2 := I1.tok (s1.toks + 1)
  have hc : (PySem.W.clsIn X.K C).isSome = true := by
    obtain ⟨cd, hc, _⟩ := PySem.W.any_some G.cl.hd
    rw [hc]
    rfl
  refine PySem.W.get_bind I1.kIn J (PySem.W.plainGet_of (G.cl.get m)).1 (PySem.W.findObj_data hc hp.at_ hp.get hp.tak) (PySem.W.plainGet_of (G.cl.get m)).2 (wpAny_call (PySem.W.prop_get (s := { s1 with toks := s1.toks + 1 }) I1.kIn hrec ?_))
  refine codeAny_mono (F X.A.in1 X.stack { s1 with toks := s1.toks + 1 } H1 [.ref a] [] [.ref a] [] Q E0 hr.in1 I2.env0.in1 (.cons rfl .nil) .nil rfl rfl q) fun r s' hq => ?_
  cases r with
  | error er => exact False.elim (passL (X := X.nox) pins σ H1 { s1 with toks := s1.toks + 1 } er s' (I2.wish _) hq)
  | ok fl =>
    cases fl with
    | ret u =>
      obtain ⟨v, H', I3, rv, q3⟩ := I2.after hq
      show wpAny _ _ (handedOut u) _ _ _
      rw [PySem.W.handedOut_of (handed_of rv)]
      exact wpAny_pure ⟨v, H', I3, rv, q3⟩
    | next => exact False.elim hq
    | brk => exact False.elim hq
    | cont => exact False.elim hq
end
end Sw

set_option Elab.async false
set_option linter.all false
set_option maxRecDepth 100000
set_option maxHeartbeats 4000000
namespace Sw
open PySem PySem.Spec PyProof.Rows L2

theorem run_sup {X : Cx} {pins : List (Addr × Obj)} {σ : L2.St} {H : Hp} {s : Shared} {a : Addr} {k n : Nat} {g q : Addr} {ks : List Str} {sp : SpC} {W : WX} {Q : VK} {us ws : List Value} {vs zs : List V} (F : Cal X.prog X.w X.K X.mg X.base k g (n + 1) ks sp) (hr : Room k X.A) (tw : Takes X W)
    (I : Inv X ((q, PySem.W.methodObj (.ref g) (.ref a)) :: pins) σ H s) (r : Vals vs us) (rz : Vals zs ws) (l1 : vs.length = n) (l2 : zs.length = ks.length) (h : sp (.ref a :: vs) zs H Q (WE W σ)) : wpAny (model X.prog X.w) X.A (call (.ref q) us (ks.zip ws)) (EP X pins σ Q) X.xe s := by
  have hrun := run_cal (us := .ref a :: us) (vs := .ref a :: vs) F hr tw I (.cons rfl r) rz (by rw [List.length_cons, l1]) l2 h
  have z : wpAny (model X.prog X.w) X.A (call (.ref q) us (ks.zip ws)) (EP X ((q, PySem.W.methodObj (.ref g) (.ref a)) :: pins) σ Q) X.xe s :=
    wpAny_call (PySem.W.method_call (ClX.pin_at I) hrun)
  exact thn z fun _ _ y => ClX.unpinE y

/-- a method call on super(), with keywords too -/
theorem wpAt_superCall {M : Model} {A : Around} {c : Code} {env : Env} {o : Expr} {name : Str} {apos pos : Pos} {args : List Expr} {kws : List Keyword} {pl : Sem Bool} {E : Value → Shared → Prop} {s : Shared} {Q : Value → Shared → Prop}
    (h : _root_.PySem.wpAt M A c (attributeBase o name env (eval o env)) (fun ov s₁ => wpAny M A (getMethod ov name pl) (fun fx s₂ => wpAny M A (callWith pos fx.1 fx.2 (backTo pos (starEach args env)) (backToKw pos (keywordEach kws env))) Q E s₂) E s₁) E s)
    (he : eval (.Call (.Attribute o name apos) args kws pos) env = (do
      let ov ← attributeBase o name env (eval o env)
      standAt apos.atName
      let (f, first) ← holding [ov] (getMethod ov name pl)
      callWith pos f first (backTo pos (starEach args env)) (backToKw pos (keywordEach kws env)))) :
    _root_.PySem.wpAt M A c (eval (.Call (.Attribute o name apos) args kws pos) env) Q E s := by
  rw [he]
  refine PySem.wpAt_bind (ks_wpAt_mono h (fun ov s₁ h₁ => wpAt_of_wpAny (wpAny_bind (wpAny_standAt (wpAny_bind (wpAny_holding (wpAny_mono h₁ (fun fx s₂ h₂ => ?_) fun _ _ x => x)))))) fun _ _ x => x)
  exact h₂

/-- super().m(e, .., k = v, ..) in a method of D called with an instance of C: the def found above D -/
def tSup (C : Addr) (n : Nat) (ks : List Str) (sp : SpC) (W : WX) (t tk : TA) : TE := fun σ H Q => ∃ a dx fs, σ[0]? = some (some (.ref a)) ∧ H a = some (.ins C dx fs) ∧
  t σ H fun vs H1 => tk σ H1 fun zs H2 => vs.length = n ∧ zs.length = ks.length ∧ sp (.ref a :: vs) zs H2 Q (WE W σ)
section
variable {X : Cx} {k n : Nat} {f g C D cda cc : Addr} {ks : List Str} {sp : SpC} {W : WX} {m : Str} {p0 p1 pos apos : Pos} {e : Expr} {es : List Expr} {kws : List Keyword} {t tk : TA} {body : List Stmt} {pl : Sem Bool}
theorem pet_sup (T : SupT X f cda cc D) (M : SupM X.K C D m g) (F : Cal X.prog X.w X.K X.mg X.base k g (n + 1) ks sp) (hr : Room k X.A) (tw : Takes X W) (ha : PA X (e :: es) t) (hkw : PK X kws tk)
    (hall : (backToKw pos (keywordEach kws X.env)).all (·.1.isSome) = true := by rfl) (hks : (backToKw pos (keywordEach kws X.env)).filterMap (·.1) = ks := by rfl)
    (hst : starEach (e :: es) X.env = (false, eval e X.env) :: starEach es X.env := by rfl) (hpl : ((backTo pos (starEach (e :: es) X.env)).any (·.1) || (backToKw pos (keywordEach kws X.env)).any (·.1.isNone)) = false := by rfl)
    (ht : eval (.Call (.Attribute (.Call (.Name "super" p0) [] [] p1) m apos) (e :: es) kws pos) X.env = (do
      let ov ← attributeBase (.Call (.Name "super" p0) [] [] p1) m X.env (eval (.Call (.Name "super" p0) [] [] p1) X.env)
      standAt apos.atName
      let (f, first) ← holding [ov] (getMethod ov m pl)
      callWith pos f first (backTo pos (starEach (e :: es) X.env)) (backToKw pos (keywordEach kws X.env))) := by rfl) :
    PEt X body (.Call (.Attribute (.Call (.Name "super" p0) [] [] p1) m apos) (e :: es) kws pos) (tSup C n ks sp W t tk) := by
  refine ⟨fun pins s σ H Q I h => ?_⟩
  obtain ⟨a, dx, fs, h0, ea, q⟩ := h
  obtain ⟨mA, O, _, _, _, _⟩ := ins_get I.hok ea
  obtain ⟨od, J, _⟩ := O.look
  refine wpAt_superCall (pl := pl) (super_base T I h0 J M.sub M.nc fun s1 I1 k1 => ?_) ht
  obtain ⟨mA1, O1, _, _, _, _⟩ := ins_get I1.hok ea
  obtain ⟨od1, J1, _⟩ := O1.look
  refine super_meth M I1 J1 fun s2 I2 => ?_
  have hq := ClX.pin_at I2
  have hb : X.base.get? s1.heap.objs.size = none := ClX.base_none I1 (Nat.le_refl _)
  refine PySem.W.callWith_of hpl (P := PySem.W.MethP X.K s1.heap.objs.size g (.ref a)) (PySem.W.keeps_M M.fi) (PyProof.Rows.evalArgs_kw2 hall (thn (ha.run pos _ s2 σ H _ I2 q) fun us s3 ⟨vs, H1, I3, r, q⟩ => ?_) hst)
  refine thn (hkw.run pos _ s3 σ H1 _ I3 q) fun ws s4 ⟨zs, H2, I4, rz, l1, l2, q4⟩ => ⟨⟨ClX.pin_at I4, I4.kIn⟩, ?_⟩
  rw [hks]
  exact run_sup F hr tw I4 r rz l1 l2 q4
theorem pet_sup0 (T : SupT X f cda cc D) (M : SupM X.K C D m g) (F : Cal X.prog X.w X.K X.mg X.base k g (n + 1) ks sp) (hr : Room k X.A) (tw : Takes X W) (hkw : PK X kws tk)
    (hall : (backToKw pos (keywordEach kws X.env)).all (·.1.isSome) = true := by rfl) (hks : (backToKw pos (keywordEach kws X.env)).filterMap (·.1) = ks := by rfl)
    (hpl : ((backTo pos (starEach [] X.env)).any (·.1) || (backToKw pos (keywordEach kws X.env)).any (·.1.isNone)) = false := by rfl)
    (ht : eval (.Call (.Attribute (.Call (.Name "super" p0) [] [] p1) m apos) [] kws pos) X.env = (do
      let ov ← attributeBase (.Call (.Name "super" p0) [] [] p1) m X.env (eval (.Call (.Name "super" p0) [] [] p1) X.env)
      standAt apos.atName
      let (f, first) ← holding [ov] (getMethod ov m pl)
      callWith pos f first (backTo pos (starEach [] X.env)) (backToKw pos (keywordEach kws X.env))) := by rfl) :
    PEt X body (.Call (.Attribute (.Call (.Name "super" p0) [] [] p1) m apos) [] kws pos) (tSup C n ks sp W tNil tk) := by
  refine ⟨fun pins s σ H Q I h => ?_⟩
  obtain ⟨a, dx, fs, h0, ea, q⟩ := h
  obtain ⟨mA, O, _, _, _, _⟩ := ins_get I.hok ea
  obtain ⟨od, J, _⟩ := O.look
  refine wpAt_superCall (pl := pl) (super_base T I h0 J M.sub M.nc fun s1 I1 k1 => ?_) ht
  obtain ⟨mA1, O1, _, _, _, _⟩ := ins_get I1.hok ea
  obtain ⟨od1, J1, _⟩ := O1.look
  refine super_meth M I1 J1 fun s2 I2 => ?_
  refine PySem.W.callWith_of hpl (P := PySem.W.MethP X.K s1.heap.objs.size g (.ref a)) (PySem.W.keeps_M M.fi) (PyProof.Rows.evalArgs_kw2_nil hall ?_)
  refine thn (hkw.run pos _ s2 σ H _ I2 q) fun ws s4 ⟨zs, H2, I4, rz, l1, l2, q4⟩ => ⟨⟨ClX.pin_at I4, I4.kIn⟩, ?_⟩
  rw [hks]
  exact run_sup (us := []) (vs := []) F hr tw I4 .nil rz l1 l2 q4
end

/-! ### an own exception's __init__: super().__init__(text), then the fields -/
/-- what the written part says of the class C (over ValueError by own classes), above D its __init__ is ValueError's -/
structure SupE (K : PySem.W.Frag) (C D : Addr) : Prop where
  ox : OexC K C
  any : PySem.W.nsIn K PySem.cStatics "thirdparty.any" = some none
  at_ : PySem.W.ks_superIn K C D "__init__" = some (some (.builtin "ValueError.__init__"))
  sub : PySem.W.mroIn K C (.ref D) = some true
  ve : PySem.W.subIn K (.ref C) (.type "ValueError") = some true
/-- super().__init__(e, ..): nothing of it is told -/
def tSupE (C : Addr) (t : TA) : TE := fun σ H Q => ∃ a, σ[0]? = some (some (.ref a)) ∧ H a = some (exo a C none) ∧ t σ H fun vs H1 => vs.length ≤ 1000 ∧ H1 a = some (exo a C none) ∧ Q .non H1
section
variable {X : Cx} {f C D cda cc : Addr} {p0 p1 pos apos : Pos} {e : Expr} {es : List Expr} {t : TA} {body : List Stmt} {pl : Sem Bool}
theorem call_mw {pins : List (Addr × Obj)} {σ : L2.St} {H : Hp} {s : Shared} {a u : Addr} {rest : List Value} {Q : Value → Shared → Prop} {A : Around} {E : Value → Shared → Prop} (T : OexC X.K C) (I : Inv X ((u, PySem.W.kxs_mw "ValueError.__init__" a) :: pins) σ H s) (e : H a = some (exo a C none)) (hl : rest.length ≤ sizeLine)
    (h : ∀ s', Inv X pins σ H s' → Q .none s') : wpAny (model X.prog X.w) A (call (.ref u) rest) Q E s := by
  obtain ⟨nm, q, N, bs, bm, sn, sub, ab, col, dd, k0, k1, k2, k3, k5, hC, hbm⟩ := T.cls
  have hu := ClX.pin_at I
  have KX := I.kIn
  obtain ⟨t1, ho⟩ := exo_at I.hok e
  have I0 := ClX.unpin I
  obtain ⟨hp, g, d, tk, os⟩ := s
  refine wpAny_call (codeAny_of_tree ?_)
  show wpAny _ A.in1 (callAny (.ref u) ⟨rest, []⟩) _ _ _
  simp only [callAny]
  refine wpAny_bind (wpAny_load hu ?_)
  simp only [PySem.W.kxs_mw, show (Value.type "method-wrapper" == Value.type "method" || Value.type "method-wrapper" == Value.type "builtin_function_or_method" || Value.type "method-wrapper" == Value.type "method-wrapper") = true by decide, if_true]
  refine PySem.W.KFB.if_so (by decide) ?_
  refine wpAny_bind (PySem.W.check_bound_init F.excBase_ValueError.toExcCallFacts (KX _ _ hC) ho rfl ?_)
  refine wpAny_bind (wpAny_pure (wpAny_pure ?_))
  refine ⟨PySem.plainId_quiet F.excBase_ValueError.init.plain _, codeAny_builtin F.excBase_ValueError.initEntry ?_⟩
  refine PySem.W.exc_init_tree (cls := .ref C) (t0 := t1) (dv := none) (c2 := .none) (c3 := .none) (b4 := .bool false) ho hl fun h' k hx _ => ?_
  have J := I0.write (t' := tk) (x := a) (e := a) (o := exo a C none) (by rw [e]; exact True.intro) (.inl rfl) k ⟨_, hx⟩ (exo_ok hx)
  have eu : upd H a (exo a C none) = H := by
    funext b
    by_cases hb : b = a
    · rw [hb, upd_same, e]
    · rw [upd_ne hb]
  rw [eu] at J
  exact h _ J
theorem pet_supE (T : SupT X f cda cc D) (M : SupE X.K C D) (ha : PA X (e :: es) t)
    (hst : starEach (e :: es) X.env = (false, eval e X.env) :: starEach es X.env := by rfl) (hpl : (backTo pos (starEach es X.env)).any (·.1) = false := by rfl)
    (ht : eval (.Call (.Attribute (.Call (.Name "super" p0) [] [] p1) "__init__" apos) (e :: es) [] pos) X.env = (do
      let ov ← attributeBase (.Call (.Name "super" p0) [] [] p1) "__init__" X.env (eval (.Call (.Name "super" p0) [] [] p1) X.env)
      standAt apos.atName
      let (f, first) ← holding [ov] (getMethod ov "__init__" pl)
      callWith pos f first (backTo pos (starEach (e :: es) X.env)) (backToKw pos (keywordEach [] X.env))) := by rfl) :
    PEt X body (.Call (.Attribute (.Call (.Name "super" p0) [] [] p1) "__init__" apos) (e :: es) [] pos) (tSupE C t) := by
  refine ⟨fun pins s σ H Q I h => ?_⟩
  obtain ⟨a, h0, ea, q⟩ := h
  have mk : ∀ {s : Shared} {pins : List (Addr × Obj)} {H : Hp}, Inv X pins σ H s → H a = some (exo a C none) → ∃ ox, PySem.W.InstAt s.heap a ox C none := fun I ea => by
    obtain ⟨t1, ho⟩ := exo_at I.hok ea
    exact ⟨_, ho, rfl, rfl, trivial⟩
  obtain ⟨ox, J⟩ := mk I ea
  refine wpAt_superCall (pl := pl) (super_base T I h0 J M.sub (by decide +kernel) fun s1 I1 k1 => ?_) ht
  obtain ⟨ox1, J1⟩ := mk I1 ea
  have KX : X.K.In s1.heap := I1.kIn
  have hso := ClX.pin_at I1
  have hm := M.at_
  have hI : PySem.W.Looks (model X.prog X.w) s1.heap (isInstance (.ref a) (.type "ValueError")) true := J1.type.andThen (PySem.W.looks_subIn KX M.ve)
  obtain ⟨hh, gg, d, tt, os⟩ := s1
  cases hc : PySem.W.clsIn X.K C with
  | none => unfold PySem.W.ks_superIn at hm; rw [hc] at hm; cases hm
  | some cd =>
    unfold PySem.W.ks_superIn at hm
    rw [hc] at hm
    refine PySem.W.kxs_getMethod PySem.W.kxs_ValueError hso (PySem.W.looks_opaque KX M.any) (l₀ := cd.mro) ?_ rfl KX hm hI (PySem.W.ks_ne KX J1 hc) (by decide +kernel) ?_
    · exact fun A Q E s k q => wpAny_bind ((PySem.W.looks_clsIn KX hc) A _ E s k (wpAny_pure q))
    · have I2 : Inv X ((hh.objs.size, PySem.W.kxs_mw "ValueError.__init__" a) :: pins) σ H ⟨hh.push (PySem.W.kxs_mw "ValueError.__init__" a), gg, d, tt + 1, os⟩ :=
        ClX.pin_new (s := ⟨hh, gg, d, tt, os⟩) (t' := tt + 1) (ClX.unpin I1) (fun b o e => Heap.get?_push_of_some _ e) (Nat.le_refl _) (Heap.get?_push_size hh rfl) (fun v z => nomatch z)
      show wpAny _ _ (callWith pos (.ref hh.objs.size) [] (backTo pos (starEach (e :: es) X.env)) []) _ _ _
      rw [hst]
      refine PySem.W.kxs_callWith (i := "ValueError.__init__") (u := hh.objs.size) (x := a) (first := []) (by show (false || (backTo pos (starEach es X.env)).any (·.1)) = false; rw [hpl]; rfl) ?_
      have hrun := thn (ha.run pos _ _ σ H _ I2 q) (Q' := fun us s3 => PySem.W.KxsAt "ValueError.__init__" hh.objs.size a s3.heap ∧ wpAny (model X.prog X.w) X.A (call (.ref hh.objs.size) us) (EP X pins σ Q) X.xe s3) fun us s3 ⟨vs, H1, I3, r, hl, e3, q3⟩ =>
        ⟨ClX.pin_at I3, call_mw M.ox I3 e3 (by rw [← r.length, sizeLine_eq]; omega) fun s4 I4 => ⟨.non, H1, I4, rfl, q3⟩⟩
      rw [hst] at hrun
      exact PySem.Calls.evalArgs_plain hrun
end
end Sw

set_option Elab.async false
set_option linter.all false
set_option maxRecDepth 100000
set_option maxHeartbeats 4000000
namespace Sw
open PySem PySem.Spec PyProof.Rows L2

/-! ### a def with super() as it stands behind the top -/
structure FunS (P : Program) (K : PySem.W.Frag) (x qual : Str) (st : Stmt) (f cc D cda : Addr) (fd : FuncData) : Prop where
  ex : ∃ (oc : Value) (od : Option Addr) (dV kV doc pm : Value) (an : Option Addr) (ct : Value) (osl : Array (Option Value)), fd = PySem.W.ksFn x qual (defArgs st) (defBody st) (defScope st) dV kV doc pm an (.ref cda) ct cc ∧ K.lookup f = some ⟨oc, od, .func fd, osl⟩
  cd : PySem.W.codeIn K (.ref cda) qual = true
  co : ∃ ccl cdd vs ccs file tf, K.lookup cda = some ⟨ccl, cdd, .fields vs, ccs⟩ ∧ vs[2]? = some (.str file tf) ∧ ((P.main.file : Str) == file) = true
  ce : ∃ cl cld csl, K.lookup cc = some ⟨cl, cld, .cell (some (.ref D)), csl⟩
  dc : ∃ cdD, PySem.W.clsIn K D = some cdD
  kp : PySem.W.keepIn K (.ref f) = true
/-- what the text and the top say of super -/
structure SupTop (P : Program) (mg : Str → Option Value) : Prop where
  su : mg "super" = none
  tp : (P.main.scope.names.lookup ("super" : Str)).isSome = false

section
variable {P : Program} {w : World} {K : PySem.W.Frag} {mg : Str → Option Value} {base : Heap}
theorem FunS.ok {x qual : Str} {st : Stmt} {f cc D cda : Addr} {fd : FuncData} {N ps : List Str} {k : Nat} {sp : Sp} (F : FunS P K x qual st f cc D cda fd) (S : SScope N ps (defScope st)) (U : SupTop P mg)
    (ks : (defScope st).names.lookup ("super" : Str) = some .globalImplicit) (kc : (defScope st).names.lookup ("__class__" : Str) = some .free)
    (hp : ∃ ar, ((defArgs st).posonlyargs ++ (defArgs st).args).head? = some ar ∧ N[0]? = some ar.arg ∧ (defScope st).names.lookup ar.arg = some .local)
    (len : ∀ vs H Q E, sp vs H Q E → vs.length = ps.length)
    (hbody : ∀ (A : Around) (outer : List Env) (s : Shared) (H : Hp) (vs : List V) (Q : VK) (E : XK), Room k (A.deeper (PySem.W.ksEnv qual (defScope st) s.heap.objs.size f (.ref cda) cc)) →
      SupT (cxS (L2.CX P w) P w K mg base N qual (defScope st) f (.ref cda) cc A outer s H E) f cda cc D → Takes (cxS (L2.CX P w) P w K mg base N qual (defScope st) f (.ref cda) cc A outer s H E) (fun cls d _ H => E cls d H) → sp vs H Q E →
      ∃ t, PSst (cxS (L2.CX P w) P w K mg base N qual (defScope st) f (.ref cda) cc A outer s H E) (defBody st) (defBody st) t ∧ t { nx := fun _ H' => Q .non H', rt := Q } (L2.start N vs) H) : FnOk P w K mg base (L2.CX P w) (k + 1) f fd ps sp := by
  obtain ⟨oc, od, dV, kV, doc, pm, an, ct, osl, rfl, lk⟩ := F.ex
  obtain ⟨cl, cld, csl, hcc⟩ := F.ce
  obtain ⟨ar, h1, h2, h3⟩ := hp
  exact fn_sup lk F.cd hcc S len fun A outer s H vs Q E hr hsp => hbody A outer s H vs Q E hr
    ⟨rfl, rfl, ⟨oc, od, _, osl, ar, lk, h1, h2, h3⟩, F.co, F.ce, by show List.lookup ("__class__" : Str) [(("__class__" : Str), cc)] = _; simp [List.lookup], F.dc, U.su, ks, kc, U.tp⟩ (takes_of rfl rfl rfl rfl) hsp
/-- a plain def: its takes and its frame's handing on at hand -/
theorem okT {x qual : Str} {st : Stmt} {f : Addr} {fd : FuncData} {N ps : List Str} {k : Nat} {sp : Sp} (F : Fun K x qual st f fd) (S : FnScope N ps (defScope st)) (len : ∀ vs H Q E, sp vs H Q E → vs.length = ps.length)
    (hbody : ∀ (cdv : Value) (A : Around) (outer : List Env) (s : Shared) (H : Hp) (vs : List V) (Q : VK) (E : XK), Room k (A.deeper (envOfC qual (defScope st) s.heap.objs.size f cdv)) →
      Takes (cxOf (L2.CX P w) P w K mg base N qual (defScope st) f cdv A outer s H E) (fun cls d _ H => E cls d H) →
      PassesOwn (model P w) (A.deeper (envOfC qual (defScope st) s.heap.objs.size f cdv)) (envOfC qual (defScope st) s.heap.objs.size f cdv) (cxOf (L2.CX P w) P w K mg base N qual (defScope st) f cdv A outer s H E).xe → sp vs H Q E →
      ∃ t, PSs (cxOf (L2.CX P w) P w K mg base N qual (defScope st) f cdv A outer s H E) (defBody st) t ∧ t { nx := fun _ H' => Q .non H', rt := Q } (L2.start N vs) H) : FnOk P w K mg base (L2.CX P w) (k + 1) f fd ps sp :=
  F.okX S len fun cdv A outer s H vs Q E hr h => hbody cdv A outer s H vs Q E hr (takes_of rfl rfl rfl rfl) (passes_of (X := cxOf (L2.CX P w) P w K mg base N qual (defScope st) f cdv A outer s H E) rfl) h

/-! ### the __init__ of an exception with one field -/
def spExc1 (C : Addr) (fld : Str) : Sp := fun vs H Q _ => ∃ a v, vs = [.ref a, v] ∧ H a = some (exo a C none) ∧ ∀ d, H d = none → d ≠ a → Q .non (upd (upd H d (exd d [(fld, v)])) a (exo a C (some d)))
theorem ok_exc1 {qual msg fld : Str} {st : Stmt} {f cc C cda : Addr} {fd : FuncData} {p0 p1 p2 p3 p4 p5 q1 q2 q3 q4 : Pos} {j : Nat} (F : FunS P K "__init__" qual st f cc C cda fd) (U : SupTop P mg) (M : SupE K C C) (hno : PySem.W.findIn K (.ref C) fld = some none)
    (S : SScope ["self", fld] ["self", fld] (defScope st))
    (ks : (defScope st).names.lookup ("super" : Str) = some .globalImplicit) (kc : (defScope st).names.lookup ("__class__" : Str) = some .free)
    (hp : ∃ ar, ((defArgs st).posonlyargs ++ (defArgs st).args).head? = some ar ∧ (["self", fld] : List Str)[0]? = some ar.arg ∧ (defScope st).names.lookup ar.arg = some .local)
    (hb : defBody st = [.Expr (.Call (.Attribute (.Call (.Name "super" p0) [] [] p1) "__init__" p2) [.Constant (.str msg) j p3] [] p4) p5, .Assign [.Attribute (.Name "self" q1) fld q2] (.Name fld q3) q4])
    (ht : ∀ env : Env, ∃ pl, eval (.Call (.Attribute (.Call (.Name "super" p0) [] [] p1) "__init__" p2) [.Constant (.str msg) j p3] [] p4) env = (do
      let ov ← attributeBase (.Call (.Name "super" p0) [] [] p1) "__init__" env (eval (.Call (.Name "super" p0) [] [] p1) env)
      standAt p2.atName
      let (f, first) ← holding [ov] (getMethod ov "__init__" pl)
      callWith p4 f first (backTo p4 (starEach [.Constant (.str msg) j p3] env)) (backToKw p4 (keywordEach [] env))))
    (hd : (fld == ("__debug__" : Str)) = false := by decide) (hcd : (fld == ("__classdict__" : Str)) = false := by decide) :
    FnOk P w K mg base (L2.CX P w) 1 f fd ["self", fld] (spExc1 C fld) := by
  refine F.ok S U ks kc hp (fun vs H Q E h => ?_) (fun A outer s H vs Q E hr T tk h => ?_)
  · obtain ⟨a, v, rfl, _⟩ := h
    rfl
  · obtain ⟨a, v, rfl, ha, q⟩ := h
    rw [hb]
    obtain ⟨pl, hte⟩ := ht (PySem.W.ksEnv qual (defScope st) s.heap.objs.size f (.ref cda) cc)
    refine ⟨_, PSst.cons (pst_expr (pet_supE (pl := pl) T M (pa_cons pe_str pa_nil) rfl rfl hte) rfl)
      (PSst.of (pss_one (ps_ost (pe_var (i := 0) rfl (.inl (S.par "self" (List.Mem.head _)))) (pe_var (i := 1) rfl (.inl (S.par fld (List.Mem.tail _ (List.Mem.head _)))) hd hcd) rfl))), ?_⟩
    refine ⟨a, rfl, ha, by show 1 ≤ 1000; decide, ha, v, rfl, .ref a, rfl, a, C, rfl, M.ox, hno, .inl ⟨ha, fun dx n ne => q dx n ne⟩⟩
end

/-! ### X(e), to be raised -/
structure Exc1 (P : Program) (w : World) (K : PySem.W.Frag) (mg : Str → Option Value) (base : Heap) (x : Str) (C : Addr) (fld : Str) : Prop where
  ox : OexC K C
  at_ : mg x = some (.ref C)
  ex : ∃ f, PySem.W.findIn K (.ref C) "__init__" = some (some (.ref f)) ∧ PySem.W.typeIn K (.ref f) = some (.type "function") ∧ Cal P w K mg base 1 f 2 [] (fun vs _ => spExc1 C fld vs)
/-- X(e): its class C, its dict new, the field in it -/
def tExc1 (C : Addr) (fld : Str) (ta : TA) : L2.St → Hp → XK → Prop := fun σ H Q => ta σ H fun vs H1 => ∃ v, vs = [v] ∧ ∀ d, H1 d = none → Q (.ref C) (some d) (upd H1 d (.xd [(fld, v)]))
section
variable {X : Cx} {x fld : Str} {C : Addr} {e : Expr} {p pos : Pos} {ta : TA}
theorem pmk_exc1 (T : Exc1 X.prog X.w X.K X.mg X.base x C fld) (hr : Room 2 X.A) (ha : PA X [e] ta) (hg : Gl X x := by rfl)
    (hdb : (x == ("__debug__" : Str)) = false := by decide) (he : starEach (e :: []) X.env = (false, eval e X.env) :: starEach [] X.env := by rfl) (hpl : (backTo pos (starEach [] X.env)).any (·.1) = false := by rfl) :
    PMk X (.Call (.Name x p) [e] [] pos) (tExc1 C fld ta) := by
  intro pins s σ H Q I h
  obtain ⟨nm, q, N, bs, bm, sn, sub, ab, col, dd, k0, k1, k2, k3, k5, hC, hbm⟩ := T.ox.cls
  obtain ⟨fI, iC, tI, F1⟩ := T.ex
  refine wpAny_Call_Name_kw (ld_glob I hg T.at_ ?_ hdb)
  refine PySem.W.callWith_K (h₀ := X.base) I.ok.mod.kin T.ox.kC (thn (ha.run pos pins s σ H _ I h) fun us s1 ⟨vs, H1, I1, r1, v, ev, q1⟩ => ⟨I1.kIn, ?_⟩) he hpl
  subst ev
  show wpAny _ _ (call (.ref C) us) _ _ _
  obtain ⟨hp, g, dr, tk, os⟩ := s1
  have hsz : hp.objs.size ≤ hp.objs.size + 1 := Nat.le_succ _
  have hn : H1 (hp.objs.size + 1) = none := I1.hok.fresh hsz
  have kk : ∀ b o, hp.get? b = some o → ((hp.push (PySem.W.kdv_tup us)).push (PySem.HandSPX.excO C hp.objs.size)).get? b = some o := fun b o e => Heap.get?_push_of_some _ (Heap.get?_push_of_some _ e)
  have hget : ((hp.push (PySem.W.kdv_tup us)).push (PySem.HandSPX.excO C hp.objs.size)).get? (hp.objs.size + 1) = some (PySem.HandSPX.excO C hp.objs.size) := by heap_get
  have I2 : Inv X pins σ (upd H1 (hp.objs.size + 1) (exo (hp.objs.size + 1) C none)) ⟨(hp.push (PySem.W.kdv_tup us)).push (PySem.HandSPX.excO C hp.objs.size), g, dr, tk, os⟩ :=
    I1.laid (t' := tk) (a := hp.objs.size + 1) (o := exo (hp.objs.size + 1) C none) (h' := (hp.push (PySem.W.kdv_tup us)).push (PySem.HandSPX.excO C hp.objs.size)) kk hsz (exo_ok hget)
  have r2 : Vals [V.ref (hp.objs.size + 1), v] (Value.ref (hp.objs.size + 1) :: us) := .cons rfl r1
  have hus : us.length ≤ sizeLine := by
    rw [← Paired.length r1, sizeLine_eq]
    show 1 ≤ 16777216
    decide
  have hq : spExc1 C fld [V.ref (hp.objs.size + 1), v] (upd H1 (hp.objs.size + 1) (exo (hp.objs.size + 1) C none))
      (fun u H2 => u = .non ∧ ∃ (d : Addr) (fs : List (Str × V)), H2 (hp.objs.size + 1) = some (exo (hp.objs.size + 1) C (some d)) ∧ H2 d = some (exd d fs) ∧ H1 d = none ∧ Q (.ref C) (some d) (upd (del H2 (hp.objs.size + 1)) d (.xd fs))) (fun _ _ _ => False) := by
    refine ⟨_, v, rfl, upd_same, fun d hd hne => ⟨rfl, d, _, upd_same, (upd_ne hne).trans upd_same, ?_, ?_⟩⟩
    · rw [upd_ne hne] at hd
      exact hd
    · have hd1 : H1 d = none := by
        rw [upd_ne hne] at hd
        exact hd
      have e : upd (del (upd (upd (upd H1 (hp.objs.size + 1) (exo (hp.objs.size + 1) C none)) d (exd d [(fld, v)])) (hp.objs.size + 1) (exo (hp.objs.size + 1) C (some d))) (hp.objs.size + 1)) d (.xd [(fld, v)]) = upd H1 d (.xd [(fld, v)]) := by
        funext b
        by_cases hb : b = d
        · rw [hb, upd_same, upd_same]
        · rw [upd_ne hb, upd_ne hb]
          by_cases ha : b = hp.objs.size + 1
          · rw [ha, del_same, hn]
          · rw [del_ne ha, upd_ne ha, upd_ne hb, upd_ne ha]
      rw [e]
      exact q1 d hd1
  refine wpAny_call (PySem.HandSPX.call_own F.excBase_ValueError (fun Y => PySem.HandSPX.refsVE_contains Y bm hbm) (I1.kIn _ _ hC) (PySem.W.looks_findIn I1.kIn iC) (fun self => PySem.W.bind_fn I1.kIn self tI) hus
    (codeAny_mono (F1 _ X.stack _ _ (Value.ref (hp.objs.size + 1) :: us) [] _ [] _ (fun _ _ _ => False) ((hr.mono (by decide : 2 ≤ 2)).make C us []) (I2.env0.make C us []) r2 .nil rfl rfl hq) fun r s' hq' => ?_))
  cases r with
  | error er => exact passL (X := X) pins σ _ _ er s' I2 hq'
  | ok fl =>
    cases fl with
    | ret u =>
      obtain ⟨v, H2, os2, bare2, un2, hok2, rv, ev, d, fs, ea, ed, hd1, q2⟩ := hq'
      subst ev
      obtain ⟨h2, g2, d2, t2, os'⟩ := s'
      exact ⟨rv, mk_end (raises_own T.ox.exC T.ox.tyC) I1 hsz kk un2 hok2 os2 bare2 ea ed hd1 q2⟩
    | next => exact False.elim hq'
    | brk => exact False.elim hq'
    | cont => exact False.elim hq'
end
end Sw

set_option Elab.async false
set_option linter.all false
set_option maxRecDepth 100000
set_option maxHeartbeats 4000000
namespace Sw
open PySem PySem.Spec PyProof.Rows L2

/-! ### worlds: what is known of the heap (G), and a resource that changes (R) -/
structure Res where
  L : List Addr
  S : Hp → Prop
  st : ∀ H H', S H → (∀ b ∈ L, H' b = H b) → S H'
  dm : ∀ H, S H → ∀ b ∈ L, H b ≠ none
structure Wd (G : Hp) (R : Res) (H : Hp) : Prop where
  sub : Same G H
  out : ∀ b ∈ R.L, G b = none
  res : R.S H
def R0 : Res := ⟨[], fun _ => True, fun _ _ _ _ => True.intro, fun _ _ b h => by cases h⟩
section
variable {G G' H H' : Hp} {R : Res} {p : Addr} {o o' : HO}
theorem Wd.get (w : Wd G R H) (h : G p = some o) : H p = some o := w.sub _ _ h
theorem Wd.free (w : Wd G R H) (h : H p = none) : G p = none := Same.free w.sub h
theorem Wd.notin (w : Wd G R H) (h : G p = some o) : p ∉ R.L := fun hp => by
  have := w.out p hp
  rw [h] at this
  cases this
theorem Wd.notin' (w : Wd G R H) (h : H p = none) : p ∉ R.L := fun hp => w.res |> fun r => R.dm H r p hp h
theorem Wd.same (w : Wd G R H) (e : Same H H') : Wd G R H' := ⟨Same.trans w.sub e, w.out, R.st _ _ w.res fun b hb => by
  cases q : H b with
  | none => exact absurd q (R.dm H w.res b hb)
  | some u => exact e b u q⟩
theorem Wd.new (w : Wd G R H) (h : H p = none) : Wd (upd G p o) R (upd H p o) := by
  refine ⟨fun b u e => ?_, fun b hb => ?_, R.st _ _ w.res fun b hb => ?_⟩
  · by_cases hb : b = p
    · subst hb; rw [upd_same] at e ⊢; exact e
    · rw [upd_ne hb] at e ⊢; exact w.sub _ _ e
  · rw [upd_ne (fun e => w.notin' h (by rw [← e]; exact hb))]
    exact w.out b hb
  · rw [upd_ne (fun e => w.notin' h (by rw [← e]; exact hb))]
theorem Wd.set (w : Wd G R H) (h : G p = some o) : Wd (upd G p o') R (upd H p o') := by
  refine ⟨fun b u e => ?_, fun b hb => ?_, R.st _ _ w.res fun b hb => ?_⟩
  · by_cases hb : b = p
    · subst hb; rw [upd_same] at e ⊢; exact e
    · rw [upd_ne hb] at e ⊢; exact w.sub _ _ e
  · rw [upd_ne (fun e => w.notin h (by rw [← e]; exact hb))]
    exact w.out b hb
  · rw [upd_ne (fun e => w.notin h (by rw [← e]; exact hb))]
/-- a new object that stands already -/
theorem Wd.add (w : Wd G R H) (e : Same H H') (h : H p = none) (h' : H' p = some o) : Wd (upd G p o) R H' := by
  have w' := w.same e
  refine ⟨fun b u e => ?_, fun b hb => ?_, w'.res⟩
  · by_cases hb : b = p
    · subst hb; rw [upd_same] at e; cases e; exact h'
    · rw [upd_ne hb] at e; exact w'.sub _ _ e
  · rw [upd_ne (fun e => w.notin' h (by rw [← e]; exact hb))]
    exact w.out b hb
theorem Wd.drop (w : Wd G R H) (e : Same G' G) : Wd G' R H := ⟨Same.trans e w.sub, fun b hb => Same.free e (w.out b hb), w.res⟩
theorem Same.newG (h : G p = none) : Same G (upd G p o) := fun b u e => by
  rw [upd_ne (ne_of_none e h)]
  exact e
theorem Wd.r0 (H : Hp) : Wd H R0 H := ⟨Same.refl H, fun b h => absurd h (by simp [R0]), True.intro⟩
theorem upd_old {a b : Addr} (h : G b = some o) (hn : G a = none) : upd G a o' b = some o := by
  rw [upd_ne (ne_of_none h hn)]
  exact h
theorem upd_oth {a b : Addr} (h : G b = some o) (hn : b ≠ a) : upd G a o' b = some o := by
  rw [upd_ne hn]
  exact h
theorem upd_nonne {a b : Addr} (h : upd G a o b = none) : G b = none ∧ b ≠ a := by
  have : b ≠ a := fun e => by
    subst e
    rw [upd_same] at h
    cases h
  rw [upd_ne this] at h
  exact ⟨h, this⟩
end

/-! ### one step of a reading -/
/-- a new object -/
def NewO (o : HO) (H : Hp) (Q : VK) : Prop := ∀ p, H p = none → Q (.ref p) (upd H p o)
section
variable {σ : L2.St} {H : Hp} {Q : VK} {K : PySem.W.Frag} {i : Nat} {v x y : V} {ta tb te tv to ti tk : TE} {t u c : TT} {D : Ends} {s1 s2 : TS} {g : TG} {tr tq : TA} {QA : List V → Hp → Prop} {QT : Bool → Hp → Prop}
theorem g_var (h : σ[i]? = some (some v)) (k : Q v H) : tVar i σ H Q := ⟨v, h, k⟩
theorem g_c (k : Q v H) : tC v σ H Q := k
theorem g_op {r : R2} (k : ta σ H fun x H1 => tb σ H1 fun y H2 => r x y H2 Q) : tOp r ta tb σ H Q := k
theorem g_un {r : V → Hp → VK → Prop} (k : ta σ H fun x H1 => r x H1 Q) : tUn r ta σ H Q := k
theorem g_I0 {f : Int → Int → V} {a b : Int} (k : Q (f a b) H) : rI0 f (.int a) (.int b) H Q := ⟨a, b, rfl, rfl, k⟩
theorem g_I {C : Int → Int → Prop} {f : Int → Int → V} {a b : Int} (hc : C a b) (k : Q (f a b) H) : rI C f (.int a) (.int b) H Q := ⟨a, b, rfl, rfl, hc, k⟩
theorem g_test {q : TE} (k : q σ H fun x H' => ∃ b, x = .bl b ∧ QT b H') : tTest q σ H QT := k
theorem g_B {q : TE} (k : q σ H fun x H' => ∃ b, x = .bl b ∧ QT b H') : tB q σ H QT := k
theorem g_bl {b : Bool} {P : Bool → Prop} (k : P b) : ∃ c, V.bl b = .bl c ∧ P c := ⟨b, rfl, k⟩
theorem g_and (k : t σ H fun b H1 => if b = true then u σ H1 QT else QT false H1) : tAnd t u σ H QT := k
theorem g_or (k : t σ H fun b H1 => if b = true then QT true H1 else u σ H1 QT) : tOr t u σ H QT := k
theorem g_not (k : t σ H fun b H1 => QT (!b) H1) : tNot t σ H QT := k
theorem g_if (k : c σ H fun b H1 => if b = true then ta σ H1 Q else tb σ H1 Q) : tIf c ta tb σ H Q := k
theorem g_nil (k : QA [] H) : tNil σ H QA := k
theorem g_cons (k : ta σ H fun x H1 => tr σ H1 fun xs H2 => QA (x :: xs) H2) : tCons ta tr σ H QA := k
theorem g_tup (k : tr σ H fun xs H1 => xs.length ≤ sizeLine ∧ NewO (.tup xs) H1 Q) : tTup tr σ H Q := k
theorem g_lst (k : tr σ H fun xs H1 => xs.length ≤ sizeLine ∧ NewO (.lst xs) H1 Q) : tLst tr σ H Q := k
theorem g_seq (k : s1 { D with nx := s2 D } σ H) : tSeq s1 s2 D σ H := k
theorem g_next (k : D.nx σ H) : tNext D σ H := k
theorem g_asg (k : te σ H fun x H1 => g x σ H1 D.nx) : tAsg te g D σ H := k
theorem g_name {P : L2.St → Hp → Prop} (k : P (σ.set i (some v)) H) : gName i v σ H P := k
theorem g_sub {ts : TSet} {P : L2.St → Hp → Prop} (k : to σ H fun o H1 => ti σ H1 fun i H2 => ts o i v H2 fun H3 => P σ H3) : gSub to ti ts v σ H P := k
theorem g_drop (k : te σ H fun _ H1 => D.nx σ H1) : tDrop te D σ H := k
theorem g_ret (k : te σ H D.rt) : tRet te D σ H := k
theorem g_retN (k : D.rt .non H) : tRetN D σ H := k
theorem g_ifS (k : c σ H fun b H1 => if b = true then s1 D σ H1 else s2 D σ H1) : tIfS c s1 s2 D σ H := k
theorem g_callB {r : List V → Hp → VK → Prop} (k : tr σ H fun vs H1 => r vs H1 Q) : tCB r tr σ H Q := k
theorem g_calG {n m : Nat} {sp : SpC} {W : WX} (k : tr σ H fun vs H1 => tq σ H1 fun zs H2 => vs.length = n ∧ zs.length = m ∧ sp vs zs H2 Q (WE W σ)) : tCalG n m sp W tr tq σ H Q := k
theorem g_mkG {n m : Nat} {C : Addr} {sp : SpC} {W : WX} (k : tr σ H fun vs H1 => tq σ H1 fun zs H2 => vs.length = n ∧ zs.length = m ∧ ∀ x dx, H2 x = none → H2 dx = none → dx ≠ x → sp (.ref x :: vs) zs (upd (upd H2 dx (.own x)) x (.ins C dx [])) (fun v H3 => v = .non ∧ Q (.ref x) H3) (WE W σ)) : tMkG C n m sp W tr tq σ H Q := k
theorem iteD {P A B : Prop} [Decidable P] (h1 : P → A) (h2 : ¬ P → B) : if decide P = true then A else B := by
  by_cases h : P
  · rw [decide_eq_true h]; exact iteT (h1 h)
  · rw [decide_eq_false h]; exact iteF (h2 h)
theorem iteN {P A B : Prop} [Decidable P] (h1 : ¬ P → A) (h2 : P → B) : if (!decide P) = true then A else B := by
  by_cases h : P
  · rw [decide_eq_true h]; exact iteF (h2 h)
  · rw [decide_eq_false h]; exact iteT (h1 h)
theorem iteB {b : Bool} {A B : Prop} (h1 : b = true → A) (h2 : b = false → B) : if b = true then A else B := by
  cases b
  · exact iteF (h2 rfl)
  · exact iteT (h1 rfl)
theorem iteNT {A B : Prop} (h : B) : if (!true) = true then A else B := iteF h
theorem iteNF {A B : Prop} (h : A) : if (!false) = true then A else B := iteT h
theorem iteBN {b : Bool} {A B : Prop} (h1 : b = false → A) (h2 : b = true → B) : if (!b) = true then A else B := by
  cases b
  · exact iteT (h1 rfl)
  · exact iteF (h2 rfl)
end
end Sw

set_option Elab.async false
set_option linter.all false
set_option maxRecDepth 100000
set_option maxHeartbeats 4000000
namespace Sw
open PySem PySem.Spec PyProof.Rows L2

/-! ### operators whatever the kinds -/
abbrev rAddI : R2 := rI0 fun i j => .int (i + j)
abbrev rAddS : R2 := fun x y H Q => ∃ i j, x = .str i ∧ y = .str j ∧ i.length + j.length ≤ sizeLine ∧ Q (.str (i ++ j)) H
def aAdd (K : PySem.W.Frag) : R2 := fun x y H Q => rAddI x y H Q ∨ (rAddS x y H Q ∨ (rCat x y H Q ∨ rCatA K x y H Q))
def aMul (K : PySem.W.Frag) : R2 := fun x y H Q => rI CMul (fun i j => .int (i * j)) x y H Q ∨ rRep x y H Q
/-- lists of flat values, item by item -/
def eqVs : List V → List V → Bool
  | [], [] => true
  | x :: xs, y :: ys => eqV x y && eqVs xs ys
  | [], _ :: _ => false
  | _ :: _, [] => false
theorem eqVs_len : ∀ {xs ys : List V}, xs.length ≠ ys.length → eqVs xs ys = false
  | [], [], h => absurd rfl h
  | [], _ :: _, _ => rfl
  | _ :: _, [], _ => rfl
  | x :: xs, y :: ys, h => by
    show (eqV x y && eqVs xs ys) = false
    rw [eqVs_len (xs := xs) (ys := ys) fun e => h (by rw [List.length_cons, List.length_cons, e]), Bool.and_false]
theorem eqVs_all : ∀ {xs ys : List V}, xs.length = ys.length → (List.range xs.length).all (fun j => eqV (xs.getD j .non) (ys.getD j .non)) = eqVs xs ys
  | [], [], _ => rfl
  | [], _ :: _, h => by cases h
  | _ :: _, [], h => by cases h
  | x :: xs, y :: ys, h => by
    rw [List.length_cons, List.range_succ_eq_map, List.all_cons, List.all_map]
    show (eqV x y && (List.range xs.length).all (fun j => eqV (xs.getD j .non) (ys.getD j .non))) = (eqV x y && eqVs xs ys)
    rw [eqVs_all (Nat.succ.inj h)]
def rEqF (K : PySem.W.Frag) : R2 := fun x y H Q => ∃ a b xs ys, x = .ref a ∧ y = .ref b ∧ SqL K H a xs ∧ SqL K H b ys ∧ xs.all flatV = true ∧ ys.all flatV = true ∧ Q (.bl (eqVs xs ys)) H
def rNeF (K : PySem.W.Frag) : R2 := fun x y H Q => ∃ a b xs ys, x = .ref a ∧ y = .ref b ∧ SqL K H a xs ∧ SqL K H b ys ∧ xs.all flatV = true ∧ ys.all flatV = true ∧ Q (.bl (!eqVs xs ys)) H
theorem flat_at {xs : List V} {us : List Value} (r : Vals xs us) (hf : xs.all flatV = true) {j : Nat} (h : j < us.toArray.size) : RelV (xs.getD j .non) us.toArray[j] ∧ flatV (xs.getD j .non) = true := by
  have hl := r.length
  have hj : j < us.length := by simpa using h
  have hx : xs[j]? = some xs[j] := List.getElem?_eq_getElem (by omega)
  have e : xs.getD j .non = xs[j] := by
    rw [List.getD_eq_getElem?_getD, hx]
    rfl
  rw [e]
  refine ⟨?_, List.all_eq_true.mp hf _ (List.getElem_mem _)⟩
  have := r.get hx
  obtain ⟨u, hu, ru⟩ := this
  rw [List.getElem?_eq_getElem hj] at hu
  cases hu
  simpa using ru
theorem op_eqF {X : Cx} (hu : X.A.units + 64 < cLine) : OpR X (compareOp .Eq) (rEqF X.K) := by
  intro pins s σ H x y v u Q I rx ry h
  obtain ⟨a, b, xs, ys, rfl, rfl, ha, hb, fa, fb, q⟩ := h
  cases rx
  cases ry
  obtain ⟨i1, r1, p1, z1⟩ := I.list ha
  obtain ⟨i2, r2, p2, z2⟩ := I.list hb
  have l1 := r1.length
  have l2 := r2.length
  by_cases hl : xs.length = ys.length
  · have := SeqAt.RcAt.lists (A := X.A) (e := fun j => eqV (xs.getD j .non) (ys.getD j .non)) p1.isList p2.isList (by simp; omega) (by omega) (fun j h1 h2 => by
      obtain ⟨a1, a2⟩ := flat_at r1 fa h1
      obtain ⟨b1, b2⟩ := flat_at r2 fb h2
      exact eqAt_V a1 b1 a2 b2) X.prog X.w
    refine this _ _ ?_
    rw [show i1.toArray.size = xs.length by simp; omega, eqVs_all hl]
    exact ⟨.bl _, H, I, rfl, q⟩
  · refine SeqAt.RcAt.lists_lengths (A := X.A) p1.isList p2.isList (by simp; omega) (by omega) X.prog X.w _ _ ?_
    rw [eqVs_len hl] at q
    exact ⟨.bl _, H, I, rfl, q⟩
theorem op_neF {X : Cx} (hu : X.A.units + 64 < cLine) : OpR X (compareOp .NotEq) (rNeF X.K) := by
  intro pins s σ H x y v u Q I rx ry h
  obtain ⟨a, b, xs, ys, rfl, rfl, ha, hb, fa, fb, q⟩ := h
  cases rx
  cases ry
  obtain ⟨i1, r1, p1, z1⟩ := I.list ha
  obtain ⟨i2, r2, p2, z2⟩ := I.list hb
  have l1 := r1.length
  have l2 := r2.length
  by_cases hl : xs.length = ys.length
  · have := SeqAt.RcNeAt.lists (A := X.A) (e := fun j => eqV (xs.getD j .non) (ys.getD j .non)) p1.isList p2.isList (by simp; omega) (by omega) (fun j h1 h2 => by
      obtain ⟨a1, a2⟩ := flat_at r1 fa h1
      obtain ⟨b1, b2⟩ := flat_at r2 fb h2
      exact eqAt_V a1 b1 a2 b2) X.prog X.w
    refine this _ _ ?_
    rw [show i1.toArray.size = xs.length by simp; omega, eqVs_all hl]
    exact ⟨.bl _, H, I, rfl, q⟩
  · refine SeqAt.RcNeAt.lists_lengths (A := X.A) p1.isList p2.isList (by simp; omega) (by omega) X.prog X.w _ _ ?_
    rw [eqVs_len hl] at q
    exact ⟨.bl _, H, I, rfl, q⟩
def aEq (K : PySem.W.Frag) : R2 := fun x y H Q => rEq x y H Q ∨ (rEqD K x y H Q ∨ rEqF K x y H Q)
def aNe (K : PySem.W.Frag) : R2 := fun x y H Q => rNe x y H Q ∨ (rNeD K x y H Q ∨ rNeF K x y H Q)
abbrev rInSg : R2 := fun x y H Q => ∃ (c : Nat) (z : Str), x = .str ⟨#[c]⟩ ∧ y = .str z ∧ Q (.bl (decide (c ∈ z.cps.toList))) H
abbrev rNiSg : R2 := fun x y H Q => ∃ (c : Nat) (z : Str), x = .str ⟨#[c]⟩ ∧ y = .str z ∧ Q (.bl (!decide (c ∈ z.cps.toList))) H
def aIn (K : PySem.W.Frag) : R2 := fun x y H Q => rIn K false x y H Q ∨ rInSg x y H Q
def aNi (K : PySem.W.Frag) : R2 := fun x y H Q => rIn K true x y H Q ∨ rNiSg x y H Q
def aSl (K : PySem.W.Frag) : V → Option Int → Option Int → Hp → VK → Prop := fun x lo hi H Q => rSlL K x lo hi H Q ∨ (rSlS x lo hi H Q ∨ rSlT K x lo hi H Q)
def aLen (K : PySem.W.Frag) : List V → Hp → VK → Prop := fun xs H Q => ∃ x n, xs = [x] ∧ LenV K x H n ∧ Q (.int n) H
section
variable {X : Cx}
theorem oa_add : OpR X (binaryOp .Add) (aAdd X.K) := op_add.or (op_add_str.or (op_cat.or op_catA))
theorem oa_mul : OpR X (binaryOp .Mult) (aMul X.K) := op_mul.or op_rep
theorem oa_eq (hu : X.A.units + 64 < cLine) : OpR X (compareOp .Eq) (aEq X.K) := op_eq.or ((op_eqD hu).or (op_eqF hu))
theorem oa_ne (hu : X.A.units + 64 < cLine) : OpR X (compareOp .NotEq) (aNe X.K) := op_ne.or ((op_neD hu).or (op_neF hu))
theorem oa_in : OpR X (compareOp .In) (aIn X.K) := op_in_seq.or op_in_sign
theorem oa_ni : OpR X (compareOp .NotIn) (aNi X.K) := op_notIn_seq.or op_notIn_sign
theorem sa : SlR X (aSl X.K) := sl_list.or (sl_str.or sl_tup)
theorem ca_len : CallR X (.builtin "len") (aLen X.K) := call_len
end

/-! ### their steps, in a world -/
section
variable {G H : Hp} {R : Res} {K : PySem.W.Frag} {Q : VK} {a b l p : Addr} {xs ys zs : List V} {i j : Int} {x y : Str}
theorem g_addI (k : Q (.int (i + j)) H) : aAdd K (.int i) (.int j) H Q := .inl ⟨i, j, rfl, rfl, k⟩
theorem g_addS (hz : x.length + y.length ≤ sizeLine) (k : Q (.str (x ++ y)) H) : aAdd K (.str x) (.str y) H Q := .inr (.inl ⟨x, y, rfl, rfl, hz, k⟩)
theorem g_addL (w : Wd G R H) (h1 : G a = some (.lst xs)) (h2 : G b = some (.lst ys)) (hz : xs.length + ys.length ≤ sizeLine) (k : ∀ p H', G p = none → Wd (upd G p (.lst (xs ++ ys))) R H' → Q (.ref p) H') : aAdd K (.ref a) (.ref b) H Q :=
  .inr (.inr (.inl ⟨a, b, xs, ys, rfl, rfl, w.get h1, w.get h2, hz, fun p hp => k p _ (w.free hp) (w.new hp)⟩))
theorem g_addT (w : Wd G R H) (h1 : SqT K G a xs) (h2 : SqT K G b ys) (n1 : xs ≠ []) (n2 : ys ≠ []) (hz : xs.length + ys.length ≤ sizeLine) (k : ∀ p H', G p = none → Wd (upd G p (.tup (xs ++ ys))) R H' → Q (.ref p) H') : aAdd K (.ref a) (.ref b) H Q :=
  .inr (.inr (.inr ⟨a, b, xs, ys, rfl, rfl, Evl.ex_t w.sub h1, Evl.ex_t w.sub h2, hz, fun e => absurd e n1, fun _ e => absurd e n2, fun _ _ p hp => k p _ (w.free hp) (w.new hp)⟩))
theorem g_mulI (hc : CMul i j) (k : Q (.int (i * j)) H) : aMul K (.int i) (.int j) H Q := .inl ⟨i, j, rfl, rfl, hc, k⟩
theorem g_mulL (w : Wd G R H) (h1 : G a = some (.lst xs)) (h : -(2 ^ 63) ≤ i) (h' : i < 2 ^ 63) (hz : xs.length * i.toNat ≤ sizeLine) (k : ∀ p H', G p = none → Wd (upd G p (.lst (List.replicate i.toNat xs).flatten)) R H' → Q (.ref p) H') : aMul K (.ref a) (.int i) H Q :=
  .inr ⟨a, i, xs, rfl, rfl, w.get h1, h, h', hz, fun p hp => k p _ (w.free hp) (w.new hp)⟩
theorem g_eqS {u v : V} (hs : scal u v = true) (k : Q (.bl (decide (u = v))) H) : aEq K u v H Q := .inl ⟨hs, k⟩
theorem g_neS {u v : V} (hs : scal u v = true) (k : Q (.bl (!decide (u = v))) H) : aNe K u v H Q := .inl ⟨hs, k⟩
theorem g_eqD {u v : V} {d e : PyData} (h1 : Dp K H u d) (h2 : Dp K H v e) (s1 : SeqAt.shaped d = true) (s2 : SeqAt.shaped e = true) (k : Q (.bl (PyData.eqv d e)) H) : aEq K u v H Q := .inr (.inl ⟨d, e, h1, h2, s1, s2, k⟩)
theorem g_neD {u v : V} {d e : PyData} (h1 : Dp K H u d) (h2 : Dp K H v e) (s1 : SeqAt.shaped d = true) (s2 : SeqAt.shaped e = true) (k : Q (.bl (!PyData.eqv d e)) H) : aNe K u v H Q := .inr (.inl ⟨d, e, h1, h2, s1, s2, k⟩)
theorem g_eqF (w : Wd G R H) (h1 : SqL K G a xs) (h2 : SqL K G b ys) (f1 : xs.all flatV = true) (f2 : ys.all flatV = true) (k : Q (.bl (eqVs xs ys)) H) : aEq K (.ref a) (.ref b) H Q := .inr (.inr ⟨a, b, xs, ys, rfl, rfl, Evl.ex_l w.sub h1, Evl.ex_l w.sub h2, f1, f2, k⟩)
theorem g_neF (w : Wd G R H) (h1 : SqL K G a xs) (h2 : SqL K G b ys) (f1 : xs.all flatV = true) (f2 : ys.all flatV = true) (k : Q (.bl (!eqVs xs ys)) H) : aNe K (.ref a) (.ref b) H Q := .inr (.inr ⟨a, b, xs, ys, rfl, rfl, Evl.ex_l w.sub h1, Evl.ex_l w.sub h2, f1, f2, k⟩)
theorem g_inL (w : Wd G R H) {u : V} (h : SqL K G p xs) (hx : flatV u = true) (ha : xs.all flatV = true) (k : Q (.bl (inV u xs)) H) : aIn K u (.ref p) H Q := .inl ⟨p, xs, rfl, .inl (Evl.ex_l w.sub h), hx, ha, k⟩
theorem g_inT (w : Wd G R H) {u : V} (h : SqT K G p xs) (hx : flatV u = true) (ha : xs.all flatV = true) (k : Q (.bl (inV u xs)) H) : aIn K u (.ref p) H Q := .inl ⟨p, xs, rfl, .inr (Evl.ex_t w.sub h), hx, ha, k⟩
theorem g_niL (w : Wd G R H) {u : V} (h : SqL K G p xs) (hx : flatV u = true) (ha : xs.all flatV = true) (k : Q (.bl (!inV u xs)) H) : aNi K u (.ref p) H Q := .inl ⟨p, xs, rfl, .inl (Evl.ex_l w.sub h), hx, ha, k⟩
theorem g_niT (w : Wd G R H) {u : V} (h : SqT K G p xs) (hx : flatV u = true) (ha : xs.all flatV = true) (k : Q (.bl (!inV u xs)) H) : aNi K u (.ref p) H Q := .inl ⟨p, xs, rfl, .inr (Evl.ex_t w.sub h), hx, ha, k⟩
theorem g_inSg {c : Nat} (k : Q (.bl (decide (c ∈ x.cps.toList))) H) : aIn K (.str ⟨#[c]⟩) (.str x) H Q := .inr ⟨c, x, rfl, rfl, k⟩
theorem g_niSg {c : Nat} (k : Q (.bl (!decide (c ∈ x.cps.toList))) H) : aNi K (.str ⟨#[c]⟩) (.str x) H Q := .inr ⟨c, x, rfl, rfl, k⟩
theorem g_ixL (w : Wd G R H) {v : V} (h : SqL K G p xs) (ha : atI xs i = some v) (k : Q v H) : rIx K (.ref p) (.int i) H Q := .inl ⟨p, xs, i, v, rfl, rfl, Evl.ex_l w.sub h, ha, k⟩
theorem g_ixT (w : Wd G R H) {v : V} (h : SqT K G p xs) (ha : atI xs i = some v) (k : Q v H) : rIx K (.ref p) (.int i) H Q := .inr (.inl ⟨p, xs, i, v, rfl, rfl, Evl.ex_t w.sub h, ha, k⟩)
theorem g_ixS {c : Nat} (hz : x.length ≤ sizeLine) (ha : atI x.cps.toList i = some c) (k : Q (.str ⟨#[c]⟩) H) : rIx K (.str x) (.int i) H Q := .inr (.inr ⟨x, i, c, rfl, rfl, hz, ha, k⟩)
theorem g_slL (w : Wd G R H) {lo hi : Option Int} (h : SqL K G a xs) (k : ∀ p H', G p = none → Wd (upd G p (.lst (cutV xs lo hi))) R H' → Q (.ref p) H') : aSl K (.ref a) lo hi H Q :=
  .inl ⟨a, xs, rfl, Evl.ex_l w.sub h, fun p hp => k p _ (w.free hp) (w.new hp)⟩
theorem g_slS {lo hi : Option Int} (hz : x.length ≤ sizeLine) (k : Q (.str (cutS x lo hi)) H) : aSl K (.str x) lo hi H Q := .inr (.inl ⟨x, rfl, hz, k⟩)
theorem g_slT (w : Wd G R H) {lo hi : Option Int} (h : SqT K G a xs) (hn : ¬ (HT.sIx xs.length 0 lo = 0 ∧ HT.sIx xs.length xs.length hi = xs.length)) (k : ∀ p H', G p = none → Wd (upd G p (.tup (cutV xs lo hi))) R H' → Q (.ref p) H') : aSl K (.ref a) lo hi H Q :=
  .inr (.inr ⟨a, xs, rfl, Evl.ex_t w.sub h, hn, fun p hp => k p _ (w.free hp) (w.new hp)⟩)
theorem g_lenS (hz : x.length ≤ sizeLine) (k : Q (.int x.length) H) : aLen K [.str x] H Q := ⟨.str x, _, rfl, ⟨hz, rfl⟩, k⟩
theorem g_lenL (w : Wd G R H) (h : SqL K G p xs) (k : Q (.int xs.length) H) : aLen K [.ref p] H Q := ⟨.ref p, _, rfl, .inl ⟨xs, Evl.ex_l w.sub h, rfl⟩, k⟩
theorem g_lenT (w : Wd G R H) (h : SqT K G p xs) (k : Q (.int xs.length) H) : aLen K [.ref p] H Q := ⟨.ref p, _, rfl, .inr ⟨xs, Evl.ex_t w.sub h, rfl⟩, k⟩
/-- a new object -/
theorem g_new (w : Wd G R H) {o : HO} (k : ∀ p H', G p = none → Wd (upd G p o) R H' → Q (.ref p) H') : NewO o H Q := fun p hp => k p _ (w.free hp) (w.new hp)
theorem g_newL (w : Wd G R H) {o : HO} {n : Nat} (hz : n ≤ sizeLine) (k : ∀ p H', G p = none → Wd (upd G p o) R H' → Q (.ref p) H') : n ≤ sizeLine ∧ NewO o H Q := ⟨hz, fun p hp => k p _ (w.free hp) (w.new hp)⟩
/-- lists changed -/
theorem g_app (w : Wd G R H) {v : V} (h : G l = some (.lst xs)) (hz : xs.length < sizeLine) (k : ∀ H', Wd (upd G l (.lst (xs ++ [v]))) R H' → Q .non H') : rAppend (.ref l) [v] H Q := ⟨l, xs, v, rfl, rfl, w.get h, hz, k _ (w.set h)⟩
theorem g_popAt (w : Wd G R H) {v : V} {k' : Nat} (h : G l = some (.lst xs)) (h1 : -(2 ^ 63) ≤ i) (h2 : i < 2 ^ 63) (h3 : seqIndex? i xs.length = some k') (h4 : xs[k']? = some v) (k : ∀ H', Wd (upd G l (.lst (xs.eraseIdx k'))) R H' → Q v H') : rPopAt (.ref l) [.int i] H Q :=
  ⟨l, xs, i, k', v, rfl, rfl, w.get h, h1, h2, h3, h4, k _ (w.set h)⟩
theorem g_setL (w : Wd G R H) {v : V} {j' : Nat} {P : Hp → Prop} (h : G l = some (.lst xs)) (hi : ixN xs.length i = some j') (k : ∀ H', Wd (upd G l (.lst (xs.set j' v))) R H' → P H') : rSetL (.ref l) (.int i) v H P := ⟨l, xs, i, j', rfl, rfl, w.get h, hi, k _ (w.set h)⟩
theorem g_tyL (w : Wd G R H) {P : Prop} (h : G l = some (.lst xs)) (k : P) : tyV K "list" (.ref l) H ∧ P := ⟨.inl ⟨rfl, _, SqL.of (w.get h)⟩, k⟩
end
/-! ### the rules with the written part named (within a comprehension's block the reading must not speak of the block) -/
section
variable {X : Cx} {a b e o : Expr} {es : List Expr} {rest : List Expr} {ta tb te to : TE} {t tr : TA} {pos apos : Pos} {f : Str} (K : PySem.W.Frag)
theorem ka_add (hK : X.K = K := by rfl) : OpR X (binaryOp .Add) (aAdd K) := by subst hK; exact oa_add
theorem ka_mul (hK : X.K = K := by rfl) : OpR X (binaryOp .Mult) (aMul K) := by subst hK; exact oa_mul
theorem ka_eq (hu : X.A.units + 64 < cLine) (hK : X.K = K := by rfl) : OpR X (compareOp .Eq) (aEq K) := by subst hK; exact oa_eq hu
theorem ka_ne (hu : X.A.units + 64 < cLine) (hK : X.K = K := by rfl) : OpR X (compareOp .NotEq) (aNe K) := by subst hK; exact oa_ne hu
theorem ka_in (hK : X.K = K := by rfl) : OpR X (compareOp .In) (aIn K) := by subst hK; exact oa_in
theorem ka_ni (hK : X.K = K := by rfl) : OpR X (compareOp .NotIn) (aNi K) := by subst hK; exact oa_ni
theorem ka_sl (hK : X.K = K := by rfl) : SlR X (aSl K) := by subst hK; exact sa
theorem ka_len (hK : X.K = K := by rfl) : CallR X (.builtin "len") (aLen K) := by subst hK; exact ca_len
theorem ka_ix (hK : X.K = K := by rfl) : IxR X (rIx K) := by subst hK; exact ix_seq
theorem ka_isi (hK : X.K = K := by rfl) : CallR X (.builtin "isinstance") (rIsi K) := by subst hK; exact call_isi
theorem ka_all (hc : X.calm = true) (hK : X.K = K := by rfl) : CallR X (.builtin "all") (rAll K) := by subst hK; exact cr_all hc
theorem ka_any (hc : X.calm = true) (hK : X.K = K := by rfl) : CallR X (.builtin "any") (rAny K) := by subst hK; exact cr_any hc
def rListOf (K : PySem.W.Frag) : List V → Hp → VK → Prop := fun xs H Q => ∃ p ys, xs = [.ref p] ∧ (SqL K H p ys ∨ SqT K H p ys) ∧ ∀ l, H l = none → Q (.ref l) (upd H l (.lst ys))
theorem ka_list (hK : X.K = K := by rfl) : CallR X (.type "list") (rListOf K) := by subst hK; exact call_list_of
def tTru (K : PySem.W.Frag) (ta : TE) : TT := fun σ H Q => ta σ H fun x H' => ∃ k, TruV K x H' k ∧ Q k H'
theorem kt_truth (ha : PE X a ta) (he : ∀ whole, isTrue a X.env whole = (do let v ← whole; standAt a.pos; holding [v] (truthy v))) (hK : X.K = K := by rfl) : PT X a (tTru K ta) := by subst hK; exact pt_truth ha he
theorem ke_fld (he : PE X e ta) (hb : attributeBase e f X.env (eval e X.env) = eval e X.env) (hK : X.K = K := by rfl) : PE X (.Attribute e f pos) (tFld K ta f) := by subst hK; exact pe_fld he hb
theorem ke_con (he : PE X e ta) (hb : attributeBase e f X.env (eval e X.env) = eval e X.env) (hK : X.K = K := by rfl) : PE X (.Attribute e f pos) (tCon K ta f) := by subst hK; exact pe_con he hb
theorem ke_orT (ha : PE X a ta) (hb : PE X (.BoolOp .Or (b :: rest) pos) tb) (hK : X.K = K := by rfl) : PE X (.BoolOp .Or (a :: b :: rest) pos) (tOrT K ta tb) := by subst hK; exact pe_orT ha hb
theorem ke_andT (ha : PE X a ta) (hb : PE X (.BoolOp .And (b :: rest) pos) tb) (hK : X.K = K := by rfl) : PE X (.BoolOp .And (a :: b :: rest) pos) (tAndT K ta tb) := by subst hK; exact pe_andT ha hb
def rJoin (K : PySem.W.Frag) : V → List V → Hp → VK → Prop := fun x xs H Q => ∃ a p, ∃ ys : List Str, x = .str a ∧ xs = [.ref p] ∧ (SqL K H p (ys.map V.str) ∨ SqT K H p (ys.map V.str)) ∧ (ys.map (·.length)).sum + ys.length * a.length ≤ 16777216 ∧ Q (.str (Txt.join a ys)) H
theorem ke_join (ho : PE X o to) (he : PE X e te) (hs : starEach [e] X.env = [(false, eval e X.env)] := by rfl) (hbase : attributeBase o "join" X.env (eval o X.env) = eval o X.env := by rfl) (hline : (apos.endLine == pos.line) = true := by rfl) (hK : X.K = K := by rfl) :
    PE X (.Call (.Attribute o "join" apos) [e] [] pos) (tM1 (rJoin K) to te) := by subst hK; exact pe_join ho he hs hbase hline
def rSplit : V → List V → Hp → VK → Prop := fun x xs H Q => ∃ a b, x = .str a ∧ xs = [.str b] ∧ (b.length == 0) = false ∧ a.length + 2 ≤ sizeLine ∧ rNewStrs (Txt.split a b) H Q
theorem ke_split (ho : PE X o to) (he : PE X e te) (hs : starEach [e] X.env = [(false, eval e X.env)] := by rfl) (hbase : attributeBase o "split" X.env (eval o X.env) = eval o X.env := by rfl) (hline : (apos.endLine == pos.line) = true := by rfl) :
    PE X (.Call (.Attribute o "split" apos) [e] [] pos) (tM1 rSplit to te) := pe_split ho he hs hbase hline
theorem ki_list {tg l : Expr} {tl : TE} (hl : PE X l tl) (hK : X.K = K := by rfl) : PI X tg l (iList K tl) := by subst hK; exact pi_list hl
theorem ki_tup {tg l : Expr} {tl : TE} (hl : PE X l tl) (hK : X.K = K := by rfl) : PI X tg l (iTup K tl) := by subst hK; exact pi_tup hl
end
section
variable {G H : Hp} {R : Res} {K : PySem.W.Frag} {Q : VK} {σ : L2.St} {t1 t2 : TE} {QT : Bool → Hp → Prop}
theorem g_tru (k : t1 σ H fun x H' => ∃ k, TruV K x H' k ∧ QT k H') : tTru K t1 σ H QT := k
theorem g_listL (w : Wd G R H) {p : Addr} {xs : List V} (h : SqL K G p xs) (k : ∀ l H', G l = none → Wd (upd G l (.lst xs)) R H' → Q (.ref l) H') : rListOf K [.ref p] H Q := ⟨p, xs, rfl, .inl (Evl.ex_l w.sub h), fun l hl => k l _ (w.free hl) (w.new hl)⟩
theorem g_listT (w : Wd G R H) {p : Addr} {xs : List V} (h : SqT K G p xs) (k : ∀ l H', G l = none → Wd (upd G l (.lst xs)) R H' → Q (.ref l) H') : rListOf K [.ref p] H Q := ⟨p, xs, rfl, .inr (Evl.ex_t w.sub h), fun l hl => k l _ (w.free hl) (w.new hl)⟩
theorem g_join (w : Wd G R H) {a : Str} {p : Addr} {ys : List Str} (h : SqL K G p (ys.map V.str)) (hz : (ys.map (·.length)).sum + ys.length * a.length ≤ 16777216) (k : Q (.str (Txt.join a ys)) H) : rJoin K (.str a) [.ref p] H Q := ⟨a, p, ys, rfl, rfl, .inl (Evl.ex_l w.sub h), hz, k⟩
theorem g_split (w : Wd G R H) {a b : Str} (h1 : (b.length == 0) = false) (h2 : a.length + 2 ≤ sizeLine) (k : ∀ p H', G p = none → Wd (upd G p (.lst ((Txt.split a b).map V.str))) R H' → Q (.ref p) H') : rSplit (.str a) [.str b] H Q := ⟨a, b, rfl, rfl, h1, h2, fun p hp => k p _ (w.free hp) (w.new hp)⟩
theorem g_strM {a : Str} {P : Prop} (k : P) : (∃ b, V.str a = .str b) ∧ P := ⟨⟨a, rfl⟩, k⟩
end
theorem pe_globE {X : Cx} {x : Str} {v : V} {pos : Pos} (hg : Gl X x) (h : ∃ u, X.mg x = some u ∧ RelV v u) (hd : (x == ("__debug__" : Str)) = false := by decide) : PE X (.Name x pos) (tC v) := by
  obtain ⟨u, hm, r⟩ := h
  exact pe_glob hg hm r hd
end Sw

set_option Elab.async false
set_option linter.all false
set_option maxRecDepth 100000
set_option maxHeartbeats 4000000
namespace Sw
open PySem PySem.Spec PyProof.Rows L2

/-! ### what is walked: n turns -/
structure Itf (J : It) (n : Nat) (I : Hp → Prop) (Y : Nat → V → Hp → Hp → Prop) : Prop where
  go : ∀ i H, i < n → I H → J.go i H
  stop : ∀ H, I H → J.stop n H
  yld : ∀ i H x H', i < n → I H → J.yld i H x H' → Y i x H H'
theorem itf_list {K : PySem.W.Frag} {a : Addr} {xs : List V} : Itf (Itl K a) xs.length (fun H => SqL K H a xs) (fun i x H H' => H' = H ∧ xs[i]? = some x) where
  go := fun i H hi h => ⟨xs, xs[i], h, List.getElem?_eq_getElem hi⟩
  stop := fun H h => ⟨xs, h, Nat.le_refl _⟩
  yld := fun i H x H' hi h y => ⟨y.1, y.2 xs h⟩
theorem itf_tup {K : PySem.W.Frag} {a : Addr} {xs : List V} : Itf (Itt K a) xs.length (fun H => SqT K H a xs) (fun i x H H' => H' = H ∧ xs[i]? = some x) where
  go := fun i H hi h => ⟨xs, xs[i], h, List.getElem?_eq_getElem hi⟩
  stop := fun H h => ⟨xs, h, Nat.le_refl _⟩
  yld := fun i H x H' hi h y => ⟨y.1, y.2 xs h⟩
theorem itf_range {lo : Int} {n : Nat} : Itf (Itr lo n) n (fun _ => True) (fun i x H H' => H' = H ∧ x = .int (lo + i)) where
  go := fun i H hi h => hi
  stop := fun H h => Nat.le_refl _
  yld := fun i H x H' hi h y => y
theorem itf_str {z : Str} : Itf (Its z) z.cps.size (fun _ => True) (fun i x H H' => H' = H ∧ ∃ c, z.cps[i]? = some c ∧ x = .str ⟨#[c]⟩) where
  go := fun i H hi h => hi
  stop := fun H h => Nat.le_refl _
  yld := fun i H x H' hi h y => y
theorem itf_enum {K : PySem.W.Frag} {a : Addr} {xs : List V} : Itf (Ite K a) xs.length (fun H => SqL K H a xs) (fun i v H H' => ∃ T x, v = .ref T ∧ H T = none ∧ H' = upd H T (.tup [.int (i : Nat), x]) ∧ xs[i]? = some x) where
  go := fun i H hi h => ⟨xs, xs[i], h, List.getElem?_eq_getElem hi⟩
  stop := fun H h => ⟨xs, h, Nat.le_refl _⟩
  yld := fun i H x H' hi h y => by
    obtain ⟨T, u, e1, e2, e3, e4⟩ := y
    exact ⟨T, u, e1, e2, e3, e4 xs h⟩

def ForW (J : It) (g : TG) (tb : TS) (D : Ends) (σ : L2.St) (H1 : Hp) : Prop := ∃ W : Nat → Nat → L2.St → Hp → Prop, (∃ m, W 0 m σ H1) ∧ ∀ i m σ H, W i m σ H →
  (J.stop i H ∧ D.nx σ H) ∨ (J.go i H ∧ ∃ N : L2.St → Hp → Prop, (∀ σ' H', N σ' H' → ∃ m', m' < m ∧ W (i + 1) m' σ' H') ∧ ∀ x H', J.yld i H x H' → g x σ H' fun σ2 H2 => tb { D with nx := N, ct := N, bk := D.nx } σ2 H2)
theorem for_it {J : It} {n : Nat} {I : Hp → Prop} {Y : Nat → V → Hp → Hp → Prop} (F : Itf J n I Y) {g : TG} {tb : TS} {D : Ends} {σ : L2.St} {H : Hp} (Pv : Nat → L2.St → Hp → Prop) (h0 : Pv 0 σ H) (hI : ∀ i σ H, i ≤ n → Pv i σ H → I H)
    (hs : ∀ i x σ H H', i < n → Pv i σ H → Y i x H H' → g x σ H' fun σ2 H2 => tb { D with nx := Pv (i + 1), ct := Pv (i + 1), bk := D.nx } σ2 H2) (hd : ∀ σ H, Pv n σ H → D.nx σ H) : ForW J g tb D σ H := by
  refine ⟨fun i m σ H => m = n - i ∧ i ≤ n ∧ Pv i σ H, ⟨n, by simp, Nat.zero_le _, h0⟩, ?_⟩
  rintro i m σ H ⟨rfl, hi, p⟩
  have q := hI i σ H hi p
  by_cases hlt : i < n
  · refine .inr ⟨F.go i H hlt q, Pv (i + 1), fun σ' H' p' => ⟨n - (i + 1), by omega, rfl, by omega, p'⟩, fun x H' y => hs i x σ H H' hlt p (F.yld i H x H' hlt q y)⟩
  · have e : i = n := by omega
    subst e
    exact .inl ⟨F.stop H q, hd σ H p⟩

def LcW (J : It) (g : TG) (tt : TT) (te : TE) (vs : List Nat) (σ : L2.St) (Q : VK) (H1 : Hp) : Prop := ∀ D, H1 D = none → ∃ W : Nat → Nat → Hp → Prop, (∃ m, W 0 m (upd H1 D (.lst []))) ∧ ∀ i m H, W i m H →
  (J.stop i H ∧ Q (.ref D) H) ∨ (J.go i H ∧ ∃ Nx : Hp → Prop, (∀ H', Nx H' → ∃ m', m' < m ∧ W (i + 1) m' H') ∧ ∀ x H', J.yld i H x H' → g x (wipe σ vs) H' fun σ2 H2 => wipe σ2 vs = wipe σ vs ∧ tt σ2 H2 fun b H3 =>
    if b = true then te σ2 H3 fun y H4 => ∃ acc, H4 D = some (.lst acc) ∧ acc.length < sizeLine ∧ Nx (upd H4 D (.lst (acc ++ [y]))) else Nx H3)
/-- the readings' ends must be let through: Mono of the parts -/
theorem lc_it {J : It} {n : Nat} {I : Hp → Prop} {Y : Nat → V → Hp → Hp → Prop} (F : Itf J n I Y) {G H1 : Hp} {R : Res} {g : TG} {tt : TT} {te : TE} {vs : List Nat} {σ : L2.St} {Q : VK} (w : Wd G R H1) (hI : ∀ H, Same G H → I H) (hz : n ≤ sizeLine)
    (Pv : Nat → Hp → List V → Prop) (h0 : Pv 0 G [])
    (hs : ∀ i x Gi acc D H H', i < n → Same G Gi → Gi D = none → Pv i Gi acc → acc.length ≤ i → Wd (upd Gi D (.lst acc)) R H → Y i x H H' → g x (wipe σ vs) H' fun σ2 H2 => wipe σ2 vs = wipe σ vs ∧ tt σ2 H2 fun b H3 =>
      if b = true then te σ2 H3 fun y H4 => ∃ acc', H4 D = some (.lst acc') ∧ acc'.length < sizeLine ∧ ((fun H5 => ∃ G4 acc4, Same G G4 ∧ G4 D = none ∧ Pv (i + 1) G4 acc4 ∧ acc4.length ≤ i + 1 ∧ Wd (upd G4 D (.lst acc4)) R H5) (upd H4 D (.lst (acc' ++ [y]))))
      else (fun H5 => ∃ G4 acc4, Same G G4 ∧ G4 D = none ∧ Pv (i + 1) G4 acc4 ∧ acc4.length ≤ i + 1 ∧ Wd (upd G4 D (.lst acc4)) R H5) H3)
    (hd : ∀ D Gn acc H, Same G Gn → Gn D = none → Pv n Gn acc → acc.length ≤ n → Wd (upd Gn D (.lst acc)) R H → Q (.ref D) H) : LcW J g tt te vs σ Q H1 := by
  intro D hD
  refine ⟨fun i m H => m = n - i ∧ i ≤ n ∧ ∃ Gi acc, Same G Gi ∧ Gi D = none ∧ Pv i Gi acc ∧ acc.length ≤ i ∧ Wd (upd Gi D (.lst acc)) R H, ⟨n, by simp, Nat.zero_le _, G, [], Same.refl G, w.free hD, h0, Nat.le_refl _, w.new hD⟩, ?_⟩
  rintro i m H ⟨rfl, hi, Gi, acc, e, nD, p, hl, wi⟩
  have sG : Same G H := Same.trans (Same.trans e (Same.newG nD)) wi.sub
  have q := hI H sG
  by_cases hlt : i < n
  · refine .inr ⟨F.go i H hlt q, fun H5 => ∃ G4 acc4, Same G G4 ∧ G4 D = none ∧ Pv (i + 1) G4 acc4 ∧ acc4.length ≤ i + 1 ∧ Wd (upd G4 D (.lst acc4)) R H5, fun H' p' => ⟨n - (i + 1), by omega, rfl, by omega, p'⟩, fun x H' y => ?_⟩
    exact hs i x Gi acc D H H' hlt e nD p hl wi (F.yld i H x H' hlt q y)
  · have ei : i = n := by omega
    subst ei
    exact .inl ⟨F.stop H q, hd D Gi acc H e nD p hl wi⟩
/-- the turn's end: an item kept -/
theorem lc_keep {G G4 H4 : Hp} {R : Res} {D : Addr} {acc : List V} {y : V} {i n : Nat} {Pv : Nat → Hp → List V → Prop} (w : Wd (upd G4 D (.lst acc)) R H4) (e : Same G G4) (nD : G4 D = none) (hl : acc.length ≤ i) (hi : i < n) (hz : n ≤ sizeLine) (p : Pv (i + 1) G4 (acc ++ [y])) :
    ∃ acc', H4 D = some (.lst acc') ∧ acc'.length < sizeLine ∧ ((fun H5 => ∃ G4 acc4, Same G G4 ∧ G4 D = none ∧ Pv (i + 1) G4 acc4 ∧ acc4.length ≤ i + 1 ∧ Wd (upd G4 D (.lst acc4)) R H5) (upd H4 D (.lst (acc' ++ [y])))) := by
  refine ⟨acc, w.get upd_same, by omega, G4, acc ++ [y], e, nD, p, by rw [List.length_append, List.length_singleton]; omega, ?_⟩
  have := w.set (o' := .lst (acc ++ [y])) upd_same
  rw [upd_upd] at this
  exact this
theorem lc_drop {G G4 H3 : Hp} {R : Res} {D : Addr} {acc : List V} {i : Nat} {Pv : Nat → Hp → List V → Prop} (w : Wd (upd G4 D (.lst acc)) R H3) (e : Same G G4) (nD : G4 D = none) (hl : acc.length ≤ i) (p : Pv (i + 1) G4 acc) :
    (fun H5 => ∃ G4 acc4, Same G G4 ∧ G4 D = none ∧ Pv (i + 1) G4 acc4 ∧ acc4.length ≤ i + 1 ∧ Wd (upd G4 D (.lst acc4)) R H5) H3 := ⟨G4, acc, e, nD, p, by omega, w⟩
theorem upd_comm {G : Hp} {p q : Addr} {o u : HO} (h : q ≠ p) : upd (upd G p o) q u = upd (upd G q u) p o := by
  funext b
  by_cases h1 : b = q
  · subst h1; rw [upd_same, upd_ne h, upd_same]
  · rw [upd_ne h1]
    by_cases h2 : b = p
    · subst h2; rw [upd_same, upd_same]
    · rw [upd_ne h2, upd_ne h2, upd_ne h1]

/-! ### steps -/
section
variable {σ : L2.St} {H : Hp} {Q : VK} {K : PySem.W.Frag} {D : Ends} {tl : TE} {ta : TA} {g : TG} {tb : TS} {tt : TT} {te : TE} {vs : List Nat} {z : Str} {a : Addr} {n lo : Int}
theorem g_forL (k : tl σ H fun x H1 => ∃ a, x = .ref a ∧ (∃ xs, SqL K H1 a xs) ∧ ForW (Itl K a) g tb D σ H1) : tFor (iList K tl) g tb D σ H := k
theorem g_forT (k : tl σ H fun x H1 => ∃ a, x = .ref a ∧ (∃ xs, SqT K H1 a xs) ∧ ForW (Itt K a) g tb D σ H1) : tFor (iTup K tl) g tb D σ H := k
theorem g_forR (k : ta σ H fun vs H1 => ∃ j : Int, vs = [.int j] ∧ -(2 ^ 62) ≤ j ∧ j < 2 ^ 62 ∧ ForW (Itr 0 j.toNat) g tb D σ H1) : tFor (iRng1 ta) g tb D σ H := k
theorem g_forR2 (k : ta σ H fun vs H1 => ∃ i j : Int, vs = [.int i, .int j] ∧ (-(2 ^ 62) ≤ i ∧ i < 2 ^ 62 ∧ -(2 ^ 62) ≤ j ∧ j < 2 ^ 62) ∧ ForW (Itr i (j - i).toNat) g tb D σ H1) : tFor (iRng2 ta) g tb D σ H := k
theorem g_forS (k : tl σ H fun v H1 => ∃ x, v = .str x ∧ ForW (Its x) g tb D σ H1) : tFor (iStr tl) g tb D σ H := k
theorem g_forE (k : ta σ H fun vs H1 => ∃ a xs, vs = [.ref a] ∧ SqL K H1 a xs ∧ ForW (Ite K a) g tb D σ H1) : tFor (iEnum K ta) g tb D σ H := k
theorem g_lcL (k : tl σ H fun x H1 => ∃ a, x = .ref a ∧ (∃ xs, SqL K H1 a xs) ∧ LcW (Itl K a) g tt te vs σ Q H1) : tLc (iList K tl) g tt te vs σ H Q := k
theorem g_lcT (k : tl σ H fun x H1 => ∃ a, x = .ref a ∧ (∃ xs, SqT K H1 a xs) ∧ LcW (Itt K a) g tt te vs σ Q H1) : tLc (iTup K tl) g tt te vs σ H Q := k
theorem g_lcR (k : ta σ H fun us H1 => ∃ j : Int, us = [.int j] ∧ -(2 ^ 62) ≤ j ∧ j < 2 ^ 62 ∧ LcW (Itr 0 j.toNat) g tt te vs σ Q H1) : tLc (iRng1 ta) g tt te vs σ H Q := k
theorem g_lcS (k : tl σ H fun v H1 => ∃ x, v = .str x ∧ LcW (Its x) g tt te vs σ Q H1) : tLc (iStr tl) g tt te vs σ H Q := k
theorem g_lcE (k : ta σ H fun us H1 => ∃ a xs, us = [.ref a] ∧ SqL K H1 a xs ∧ LcW (Ite K a) g tt te vs σ Q H1) : tLc (iEnum K ta) g tt te vs σ H Q := k
theorem g_orT {t1 t2 : TE} (k : t1 σ H fun x H1 => ∃ b, TruV K x H1 b ∧ if b = true then Q x H1 else t2 σ H1 Q) : tOrT K t1 t2 σ H Q := k
theorem g_slc {r : V → Option Int → Option Int → Hp → VK → Prop} {t1 : TE} {tlo thi : TO} (k : t1 σ H fun x H1 => tlo σ H1 fun l H2 => thi σ H2 fun u H3 => r x l u H3 Q) : L2.tSl r t1 tlo thi σ H Q := k
theorem g_noPart {P : Option Int → Hp → Prop} (k : P none H) : tNoPart σ H P := k
theorem g_part {t1 : TE} {P : Option Int → Hp → Prop} (k : t1 σ H fun x H1 => ∃ i, x = .int i ∧ P (some i) H1) : tPart t1 σ H P := k
theorem g_bm {T : String} {r : V → List V → Hp → VK → Prop} {t1 : TE} {tr : TA} (k : t1 σ H fun x H1 => tyV K T x H1 ∧ tr σ H1 fun xs H2 => r x xs H2 Q) : tBM K T r t1 tr σ H Q := k
theorem g_par {i j : Nat} {tr : TA} (k : tr σ H fun vs H1 => ∃ v w, vs = [v, w] ∧ D.nx ((σ.set i (some v)).set j (some w)) H1) : tPar i j tr D σ H := k
theorem g_yes {P : Bool → Hp → Prop} (k : P true H) : tYes σ H P := k
theorem g_tupG {m : Nat} {v : V} {t : TGs} {P : L2.St → Hp → Prop} (k : ∃ a xs, v = .ref a ∧ SqT K H a xs ∧ xs.length = m ∧ t xs σ H P) : gTup K m t v σ H P := k
theorem g_gcons {t : TG} {u : TGs} {v : V} {r : List V} {P : L2.St → Hp → Prop} (k : t v σ H fun σ' H' => u r σ' H' P) : gCons t u (v :: r) σ H P := ⟨v, r, rfl, k⟩
theorem g_gnil {P : L2.St → Hp → Prop} (k : P σ H) : gNil [] σ H P := ⟨rfl, k⟩
theorem g_chain {r r' : R2} {t1 t2 t3 : TE} (k : t1 σ H fun x H1 => t2 σ H1 fun y H2 => r x y H2 fun z H3 => ∃ k, z = .bl k ∧ (if k = true then t3 σ H3 fun w' H4 => r' y w' H4 Q else Q (.bl false) H3)) : tChain r r' t1 t2 t3 σ H Q := k
theorem g_truB {b : Bool} {P : Bool → Prop} (k : P b) : ∃ c, TruV K (.bl b) H c ∧ P c := ⟨b, rfl, k⟩
theorem g_truN {P : Bool → Prop} (k : P false) : ∃ c, TruV K .non H c ∧ P c := ⟨false, rfl, k⟩
theorem g_truI {i : Int} {P : Bool → Prop} (k : P (i != 0)) : ∃ c, TruV K (.int i) H c ∧ P c := ⟨_, rfl, k⟩
theorem g_truS {y : Str} {P : Bool → Prop} (hz : y.length ≤ sizeLine) (k : P ((y.length : Int) != 0)) : ∃ c, TruV K (.str y) H c ∧ P c := ⟨_, ⟨hz, rfl⟩, k⟩
theorem g_truL {G : Hp} {R : Res} {xs : List V} {P : Bool → Prop} (w : Wd G R H) (h : SqL K G a xs) (k : P (!xs.isEmpty)) : ∃ c, TruV K (.ref a) H c ∧ P c := ⟨_, .inl ⟨xs, Evl.ex_l w.sub h, rfl⟩, k⟩
theorem g_truT {G : Hp} {R : Res} {xs : List V} {P : Bool → Prop} (w : Wd G R H) (h : SqT K G a xs) (k : P (!xs.isEmpty)) : ∃ c, TruV K (.ref a) H c ∧ P c := ⟨_, .inr (.inl ⟨xs, Evl.ex_t w.sub h, rfl⟩), k⟩
theorem g_isi {x c : V} {t u : Value} {b : Bool} (hc : ClsV c u) (ht : TyX K H x t) (hk : PySem.W.kitOne K t u = some b) (k : Q (.bl b) H) : rIsi K [x, c] H Q := ⟨x, c, t, u, b, rfl, hc, ht, hk, k⟩
theorem g_isN {x : V} (k : Q (.bl (decide (x = .non))) H) : (fun x y H Q => y = V.non ∧ Q (.bl (decide (x = .non))) H : R2) x .non H Q := ⟨rfl, k⟩
theorem g_isnN {x : V} (k : Q (.bl (!decide (x = .non))) H) : (fun x y H Q => y = V.non ∧ Q (.bl (!decide (x = .non))) H : R2) x .non H Q := ⟨rfl, k⟩
theorem g_all {G : Hp} {R : Res} {bs : List Bool} (w : Wd G R H) (h : SqL K G a (bs.map V.bl)) (k : Q (.bl (bs.all id)) H) : rAll K [.ref a] H Q := ⟨a, bs, rfl, Evl.ex_l w.sub h, k⟩
theorem g_m1 {r : V → List V → Hp → VK → Prop} {t1 t2 : TE} (k : t1 σ H fun x H1 => (∃ a, x = .str a) ∧ t2 σ H1 fun y H2 => r x [y] H2 Q) : tM1 r t1 t2 σ H Q := k
theorem g_fld {t1 : TE} {f : Str} (k : t1 σ H fun x H1 => ∃ a C dx fs v, x = .ref a ∧ H1 a = some (.ins C dx fs) ∧ Cls K C ∧ NoAttr K C f ∧ fs.lookup f = some v ∧ Q v H1) : tFld K t1 f σ H Q := k
theorem g_con {t1 : TE} {f : Str} (k : t1 σ H fun x H1 => ∃ a C dx fs v u, x = .ref a ∧ H1 a = some (.ins C dx fs) ∧ Cls K C ∧ Con K C f v u ∧ fs.lookup f = none ∧ Q v H1) : tCon K t1 f σ H Q := k
/-- a list comprehension of values: each item gives one or is left out, no new object is kept -/
def FmStep (f : V → Option V) (x : V) (g : TG) (tt : TT) (te : TE) (vs : List Nat) (σ : L2.St) (G' : Hp) (R : Res) (H : Hp) : Prop :=
  g x (wipe σ vs) H fun σ2 H2 => wipe σ2 vs = wipe σ vs ∧ tt σ2 H2 fun b H3 => if b = true then te σ2 H3 fun y H4 => f x = some y ∧ Wd G' R H4 else f x = none ∧ Wd G' R H3
theorem filterMap_take {f : V → Option V} {xs : List V} {i : Nat} {x : V} (h : xs[i]? = some x) : (xs.take (i + 1)).filterMap f = (xs.take i).filterMap f ++ (match f x with | some y => [y] | none => []) := by
  rw [List.take_succ, h, List.filterMap_append]
  congr 1
  simp only [Option.toList_some, List.filterMap_cons, List.filterMap_nil]
  cases f x <;> rfl
end
/-- readings that pass on what is wanted (all of ours do) -/
def MonG (g : TG) : Prop := ∀ (v : V) (σ : L2.St) (H : Hp) (P P' : L2.St → Hp → Prop), (∀ σ H, P σ H → P' σ H) → g v σ H P → g v σ H P'
def MonT (t : TT) : Prop := ∀ (σ : L2.St) (H : Hp) (P P' : Bool → Hp → Prop), (∀ b H, P b H → P' b H) → t σ H P → t σ H P'
def MonE (t : TE) : Prop := ∀ (σ : L2.St) (H : Hp) (P P' : VK), (∀ v H, P v H → P' v H) → t σ H P → t σ H P'
end Sw

set_option Elab.async false
set_option linter.all false
set_option maxRecDepth 100000
set_option maxHeartbeats 4000000
namespace Sw
open PySem PySem.Spec PyProof.Rows L2

/-! ### a, b, *c = e, e a list -/
section
variable {X : Cx} {pos : Pos}
theorem pgs_star {e : Expr} {es : List Expr} {t : TG} {u : TGs} {p : Pos} (h1 : PG X e t) (h2 : PGs X es u) (hs : (assignEach (.Starred e p :: es) X.env).map (·.2) = assign e X.env :: (assignEach es X.env).map (·.2) := by rfl) : PGs X (.Starred e p :: es) (gCons t u) := by
  refine ⟨fun pins s σ H vs us Q I r h => ?_⟩
  obtain ⟨v, vr, e1, h⟩ := h
  subst e1
  cases r with
  | cons r rr =>
    rw [hs]
    refine assignInOrder_cons (thn (h1.run pins s σ H _ _ _ I r h) fun _ s1 ⟨σ1, H1, I1, q1⟩ => ?_)
    exact h2.run pins s1 σ1 H1 _ _ Q I1 rr q1
/-- the list's items: the first i, a new list of the middle ones, the last ones (n targets) -/
def gStarL (K : PySem.W.Frag) (n i : Nat) (t : TGs) : TG := fun v σ H Q => ∃ a xs, v = .ref a ∧ SqL K H a xs ∧ n ≤ xs.length + 1 ∧ xs.length ≤ 16384 ∧ ∀ p, H p = none → t (xs.take i ++ [.ref p] ++ (xs.drop i).drop (xs.length + 1 - n)) σ (upd H p (.lst ((xs.drop i).take (xs.length + 1 - n)))) Q
theorem vals_take {vs : List V} {us : List Value} (h : Vals vs us) : ∀ n, Vals (vs.take n) (us.take n) := by
  induction h with
  | nil => intro n; simp only [List.take_nil]; exact .nil
  | cons r _ ih =>
    intro n
    cases n with
    | zero => exact .nil
    | succ n => exact .cons r (ih n)
theorem vals_drop {vs : List V} {us : List Value} (h : Vals vs us) : ∀ n, Vals (vs.drop n) (us.drop n) := by
  induction h with
  | nil => intro n; simp only [List.drop_nil]; exact .nil
  | cons r h ih =>
    intro n
    cases n with
    | zero => exact .cons r h
    | succ n => exact ih n
theorem pg_starL {es : List Expr} {k : Nat} {t : TGs} {n i : Nat} (hc : X.calm = true) (h : PGs X es t) (hi : i < n)
    (hn : (assignEach es X.env).length = n := by rfl) (hst : (assignEach es X.env).findIdx? (·.1) = some i := by rfl) : PG X (.Tuple es k pos) (gStarL X.K n i t) := by
  refine ⟨fun pins s σ H v u Q I r hw => ?_⟩
  obtain ⟨a, xs, e1, hq, hl, hm, hw⟩ := hw
  subst e1
  cases r
  obtain ⟨its, rv, pl, hz⟩ := I.list hq
  have hlen : its.length = xs.length := rv.length.symm
  rw [PyProof.Rows.assign_Tuple]
  refine wpAny_bind (wpAny_standAt ?_)
  unfold unpack
  rw [hn, hst]
  have hl0 := pl.isList
  have hlt : a ≠ s.heap.objs.size := by obtain ⟨o, ho, _⟩ := hl0; exact Nat.ne_of_lt (Heap.lt_size ho)
  refine wpAny_bind (wpAny_holding ?_)
  have hsz : its.toArray.size = its.length := by simp
  unfold unpackItems
  refine wpAny_bind ?_
  unfold notIterableAtAll
  refine wpAny_bind (wpAny_specialOf hl0.typeIs PySem.F.slot_list_iter.lookup ?_)
  refine wpAny_pure ?_
  simp only [Bool.false_eq_true, if_false]
  refine wpAny_bind (wpAny_holding (wpAny_pyIter_list hl0 ?_))
  refine wpAny_bind (wpAny_holding (PySem.W.kun_draw hlt i 0 _ _ ⟨_, Heap.get?_push_size _ rfl, rfl, rfl⟩ (hl0.push _) (by rw [hsz]; omega) fun h₁ hit₁ hs₁ => ?_))
  have hl₁ : h₁.IsList a its.toArray := (hl0.push _).extBut hs₁.extBut hlt
  rw [Nat.zero_add] at hit₁
  have hit₁' := hit₁
  obtain ⟨oi, hoi, _⟩ := hit₁'
  have hl₁' := hl₁
  obtain ⟨ol, hol, _⟩ := hl₁'
  rw [List.drop_zero]
  have hfl : (its.toArray.toList.take i).length = i := by rw [List.length_take, Array.length_toList]; omega
  rw [if_neg (show ¬ ((its.toArray.toList.take i).length < i) by rw [hfl]; omega)]
  refine wpAny_bind (wpAny_holding (PySem.W.kun_collect (s := { s with heap := h₁ }) (T := "list_iterator") (.inr (.inr (.inl rfl))) (Walks.list (A := X.A.in1) (I.ok.hd hc) s.heap.objs.size a hlt its.toArray) (fun j u st => st.1.typeIs) (k := i) (by omega) ⟨hit₁, hl₁⟩ (Heap.lt_size hoi) (Heap.lt_size hol) (fun h₂ tk hk => ?_) (by rw [sizeLine_eq, hsz]; omega)))
  have hrl : (its.toArray.toList.drop i).length = its.length - i := by rw [List.length_drop, Array.length_toList, hsz]
  have hmid : (its.toArray.toList.drop i).length - (n - 1 - i) = xs.length + 1 - n := by rw [hrl]; omega
  show wpAny _ _ (if (its.toArray.toList.drop i).length < n - 1 - i then _ else _) _ _ _
  rw [if_neg (by rw [hrl]; omega)]
  show wpAny _ _ (newList ((its.toArray.toList.drop i).take ((its.toArray.toList.drop i).length - (n - 1 - i))) >>= fun d => pure (its.toArray.toList.take i ++ [d] ++ (its.toArray.toList.drop i).drop ((its.toArray.toList.drop i).length - (n - 1 - i)))) _ _ _
  rw [hmid]
  have hto : its.toArray.toList = its := by simp
  rw [hto]
  have I2 : Inv X pins σ H { s with heap := h₂, toks := tk } := I.kept (t' := tk) fun b o e => hk b o (Nat.ne_of_lt (Heap.lt_size e)) (hs₁.extBut b o (Nat.ne_of_lt (Heap.lt_size e)) (Heap.get?_push_of_some _ e))
  have rmid : Vals ((xs.drop i).take (xs.length + 1 - n)) ((its.drop i).take (xs.length + 1 - n)) := vals_take (vals_drop rv i) _
  have zmid : ((its.drop i).take (xs.length + 1 - n)).length ≤ sizeLine := by rw [List.length_take, List.length_drop, sizeLine_eq]; omega
  refine wpAny_bind (wpAny_newList (s := { s with heap := h₂, toks := tk }) (wpAny_pure ?_) zmid)
  have hf : H h₂.objs.size = none := I2.hok.fresh (Nat.le_refl _)
  have I3 : Inv X pins σ (upd H h₂.objs.size (.lst ((xs.drop i).take (xs.length + 1 - n)))) ⟨h₂.push { cls := .type "list", data := .seq ((its.drop i).take (xs.length + 1 - n)).toArray }, s.gens, s.drawn, tk, s.os⟩ :=
    Inv.laid (s := { s with heap := h₂, toks := tk }) (t' := tk) I2 (fun b u e => Heap.get?_push_of_some _ e) (Nat.le_refl _) ⟨by rw [List.length_take, List.length_drop, sizeLine_eq]; omega, _, 0, rmid, Heap.get?_push_size _ rfl⟩
  exact h.run pins _ σ _ _ _ Q I3 (((vals_take rv i).append (show Vals [V.ref h₂.objs.size] [Value.ref h₂.objs.size] from .cons rfl .nil)).append (vals_drop (vals_drop rv i) _)) (hw _ hf)
theorem kg_starL {es : List Expr} {k : Nat} {t : TGs} {n i : Nat} (K : PySem.W.Frag) (hc : X.calm = true) (h : PGs X es t) (hi : i < n) (hK : X.K = K := by rfl)
    (hn : (assignEach es X.env).length = n := by rfl) (hst : (assignEach es X.env).findIdx? (·.1) = some i := by rfl) : PG X (.Tuple es k pos) (gStarL K n i t) := by subst hK; exact pg_starL hc h hi hn hst
end

theorem kg_tup {X : Cx} {pos : Pos} {es : List Expr} {k : Nat} {t : TGs} {n : Nat} (K : PySem.W.Frag) (hc : X.calm = true) (h : PGs X es t) (hK : X.K = K := by rfl)
    (hn : (assignEach es X.env).length = n := by rfl) (hst : (assignEach es X.env).findIdx? (·.1) = none := by rfl) : PG X (.Tuple es k pos) (gTup K n t) := by subst hK; exact pg_tup hc h hn hst

/-! ### except (A, B): -/
theorem flyingZ_keeps {B : Heap} {l : List Env} {e : Addr} {Z : Obj → Prop} {h h' : Heap} (R : HandSPX.FlyingZ B l e Z h) (k : ∀ b o, h.get? b = some o → h'.get? b = some o) : HandSPX.FlyingZ B l e Z h' := by
  obtain ⟨f1, f2, f3, oe, ws, T, oT, ts, he, hc, hd, h1, hn, hne, hT, hdT, h3⟩ := R
  exact ⟨fun b o q => k b o (f1 b o q), f2, f3.of_keeps fun b o q _ => ⟨o, k b o q, rfl⟩, oe, ws, T, oT, ts, k _ _ he, hc, hd, h1, hn, hne, k _ _ hT, hdT, h3⟩
def wTwo (K : PySem.W.Frag) (c1 c2 : Value) (ts : Addr → Value → Option Addr → TS) (Wout : WX) (D : Ends) : WX := fun cls d σ H =>
  ∃ b, PySem.W.exmAny K cls [c1, c2] = some b ∧ (b = true → ∀ a, H a = none → ts a cls d D σ H) ∧ (b = false → Wout cls d σ H)
section
variable {X : Cx} {x y : Str} {c c' : Value} {body suite : List Stmt} {b₀ : Stmt} {np np' tp pos pos' : Pos} {kx : Nat} {tb : WX → TS} {ts : Addr → Value → Option Addr → TS} {Wout : WX}
theorem ps_try_two (hs : X.stack = X.env :: X.outer) (hf : X.env.frame = some X.env.locals) (hc : Names X x c) (hc' : Names X y c') (tk : Takes X Wout)
    (hb : ∀ (W : WX) (pn : List (Addr × Obj)) (xe : Value → Shared → Prop), Takes (X.tr pn xe) W → PassesOwn (model X.prog X.w) X.A X.env xe → PSs (X.tr pn xe) body (tb W))
    (hsu : ∀ (a : Addr) (oe : Obj) (cls : Value) (d : Option Addr) (pn : List (Addr × Obj)), Zc cls d oe → (∃ vs, oe.data = .fields vs) → PSs (X.suite a ((a, oe) :: pn)) (b₀ :: suite) (ts a cls d)) :
    PS X (.Try body [.ExceptHandler (some (.Tuple [.Name x np, .Name y np'] kx tp)) none (b₀ :: suite) pos'] [] [] pos) (fun D σ H => tb (wTwo X.K c c' ts Wout D) D σ H) := by
  refine ⟨fun pins s σ H D I h => ?_⟩
  have ok := I.ok
  have hfr : X.A.frames = some (X.env :: X.outer) := by rw [ok.frames, hs]
  refine wpAny_Try_except ?_
  refine wpAny_mono ((hb (wTwo X.K c c' ts Wout D) (X.pn ++ pins) (fun e s₁ => wpAny (model X.prog X.w) X.A (noteFrame e X.env) (fun _ s₂ => wpAny (model X.prog X.w) X.A (setFlight e none) (fun _ s₃ =>
    wpAny (model X.prog X.w) X.A (handleBy e X.env [.ExceptHandler (some (.Tuple [.Name x np, .Name y np'] kx tp)) none (b₀ :: suite) pos']) (SP X pins D) X.xe s₃) X.xe s₂) X.xe s₁) (fun u s' xx => ?_) PassesOwn.looking).run [] s σ H D (I.toTry _) h) (fun f s1 hsp => ?_) (fun e s1 he => he)
  · obtain ⟨a, B, sI, pins', σ', H', cls, d, rfl, J', nb, up, sky, na, os, ag, b, hb1, hyes, hno⟩ := xx
    have J : Inv X pins σ' H' sI := J'.ofTry ok
    have sky' : Sky B (X.env :: X.outer) a (Zc cls d) X.env.locals s'.heap := by rw [← hs]; exact sky
    show wpAny (model X.prog X.w) X.A (noteFrame (.ref a) X.env) _ _ _
    refine Sky.land Zc.steady hfr hf sky' fun h3 fl3 up3 => ?_
    have J3 : Inv X pins σ' H' { s' with heap := h3 } := J.landed nb fl3.1 (up.trans up3) os ag
    obtain ⟨oe3, vs3, he3, hz3, hd3⟩ := fl3.there
    have notFr : ∀ {h : Heap} {o : Obj} {vs : Array Value}, h.FunFrames B (X.env :: X.outer) → h.get? a = some o → o.data = .fields vs → a ∉ frs (X.env :: X.outer) := fun {h o vs} ff e dd hm => by
      obtain ⟨_, o', e', hnf⟩ := ff.mem hm
      rw [e] at e'; cases e'
      exact hnf _ dd
    have nfr := notFr fl3.2.2.1 he3 hd3
    have nL : a ≠ X.env.locals := fun z => nfr (List.mem_filterMap.mpr ⟨X.env, List.mem_cons_self, by rw [hf, z]⟩)
    have nF : a ∉ X.fs := fun hm => by
      obtain ⟨e, he, q⟩ := List.mem_filterMap.mp hm
      exact nfr (List.mem_filterMap.mpr ⟨e, List.mem_cons_of_mem _ he, q⟩)
    have S3 := J3.suite he3 hd3 na nL nF
    refine wpAny_handleBy_cons (codeAny_handlers_test ?_) (by intro q; cases q)
    have test : ∀ {x : Str} {c : Value} {np : Pos} {Q : Value → Shared → Prop} {E : Value → Shared → Prop}, Names X x c → Q c { s' with heap := h3 } → wpAny (model X.prog X.w) (X.A.mark (some (.ref a))) (eval (.Name x np) X.env) Q E { s' with heap := h3 } := fun {x c np Q E} hc q => by
      obtain ⟨hg, hdbg, hm | ⟨hm, hv, hnn⟩⟩ := hc
      · exact ld_glob (X := X.suite a ((a, oe3) :: (X.pn ++ pins))) S3 hg hm q hdbg
      · exact ld_blt (X := X.suite a ((a, oe3) :: (X.pn ++ pins))) S3 hg hm hv q hnn hdbg
    have e1 : starEach [.Name x np, .Name y np'] X.env = (false, eval (.Name x np) X.env) :: starEach [.Name y np'] X.env := rfl
    have e2 : starEach [.Name y np'] X.env = (false, eval (.Name y np') X.env) :: starEach [] X.env := rfl
    refine wpAny_Tuple_spliced (args_cons (test hc (args_cons (test hc' (args_nil ⟨by rw [sizeLine_eq]; show 2 ≤ 16777216; decide, ?_⟩)) e2)) e1)
    have k3 : ∀ b o, h3.get? b = some o → (h3.push ({ cls := .type "tuple", data := .seq [c, c'].toArray } : Obj)).get? b = some o := fun b o e => Heap.get?_push_of_some _ e
    have hp : (h3.push ({ cls := .type "tuple", data := .seq [c, c'].toArray } : Obj)).get? h3.objs.size = some ({ cls := .type "tuple", data := .seq [c, c'].toArray } : Obj) := Heap.get?_push_size _ rfl
    have fl3' := flyingZ_keeps fl3 k3
    have up3' := up3.trans (Heap.UpToSlots.of_keeps k3)
    have J3' : Inv X pins σ' H' { s' with heap := h3.push ({ cls := .type "tuple", data := .seq [c, c'].toArray } : Obj) } := J.landed nb fl3'.1 (up.trans up3') os ag
    show wpAny _ _ (excMatches (.ref a) (.ref h3.objs.size)) _ _ { s' with heap := h3.push ({ cls := .type "tuple", data := .seq [c, c'].toArray } : Obj) }
    generalize h3.push ({ cls := .type "tuple", data := .seq [c, c'].toArray } : Obj) = h5 at *
    have LT : PySem.W.Looks (model X.prog X.w) h5 (typeOf (.ref a)) cls := fun A Q E s k q => wpAny_typeOf_ref (k _ _ (k3 _ _ he3)) (by rw [hz3.1]; exact q)
    have LM := PySem.W.exm_tup2 (M := model X.prog X.w) (J3'.kIn) LT hp hb1
    refine LM.here ?_
    cases b with
    | true =>
      refine codeAny_handlers_suite ?_
      refine HandSPX.lands_againZ fl3' fun h4 fl4 up4 => ?_
      have J4 : Inv X pins σ' H' { s' with heap := h4 } := J.landed nb fl4.1 ((up.trans up3').trans up4) os ag
      obtain ⟨oe4, vs4, he4, hz4, hd4⟩ := fl4.there
      have S4 := J4.suite he4 hd4 na nL nF
      refine wpAny_mono ((hsu a oe4 cls d (X.pn ++ pins) hz4 ⟨_, hd4⟩).run [] _ _ H' _ S4 (hyes rfl a na)) (fun f s6 hsp => ?_) (fun _ _ z => False.elim z)
      cases f with
      | next =>
        obtain ⟨σ6, H6, S6, q6⟩ := hsp
        exact ⟨_, _, S6.unsuite ok, q6⟩
      | brk =>
        obtain ⟨σ6, H6, S6, q6⟩ := hsp
        exact ⟨_, _, S6.unsuite ok, q6⟩
      | cont =>
        obtain ⟨σ6, H6, S6, q6⟩ := hsp
        exact ⟨_, _, S6.unsuite ok, q6⟩
      | ret u =>
        obtain ⟨v6, σ6, H6, S6, r6, q6⟩ := hsp
        exact ⟨_, _, _, S6.unsuite ok, r6, q6⟩
    | false =>
      show wpAny _ X.A (handleBy (.ref a) X.env []) _ _ _
      refine wpAny_handleBy_nil ?_
      obtain ⟨k1, k2, k4, oe, vs, T, oT, ts', he, hz, hd, h1, hr⟩ := id fl3'
      unfold PySem.passOn
      refine wpAny_bind (wpAny_field he hd h1 ?_)
      rw [if_neg (show ¬ ((Value.ref T == Value.none) = true) from by simp)]
      have fin : wpAny (model X.prog X.w) X.A (setFlight (.ref a) X.env.frame) (fun _ s4 => wpAny (model X.prog X.w) X.A (throw (.ref a) : Sem Flow) (SP X pins D) X.xe s4) X.xe { s' with heap := h5 } := by
        rw [hf]
        refine HandSPX.setFlight_upZ fl3' fun h4 hh4 up4 => wpAny_throw (tk _ _ ?_)
        exact ⟨a, B, sI, pins, σ', H', cls, d, rfl, J, nb, (up.trans up3').trans up4, .inr (.inr (by rw [hs]; exact hh4)), na, os, ag, hno rfl⟩
      first
        | exact wpAny_bind (wpAny_pure (wpAny_bind fin))
        | exact wpAny_bind fin
  · cases f with
    | next =>
      obtain ⟨σ', H', J', q⟩ := hsp
      exact wpAny_execs_nil ⟨σ', H', J'.ofTry ok, q⟩
    | brk =>
      obtain ⟨σ', H', J', q⟩ := hsp
      exact ⟨σ', H', J'.ofTry ok, q⟩
    | cont =>
      obtain ⟨σ', H', J', q⟩ := hsp
      exact ⟨σ', H', J'.ofTry ok, q⟩
    | ret u =>
      obtain ⟨v, σ', H', J', r, q⟩ := hsp
      exact ⟨v, σ', H', J'.ofTry ok, r, q⟩
end

/-! ### C.m(..), m a staticmethod -/
structure CStat (K : PySem.W.Frag) (C : Addr) (mc : Value) (m : Str) (p g : Addr) : Prop where
  at_ : PySem.W.findCls K (.ref C) mc m = some (.get (.builtin "staticmethod.__get__") (.ref p) .none (.ref C))
  rc : ∃ rest, PySem.W.recIn K p "staticmethod" = some (.ref g :: rest)
  fi : PySem.W.keepIn K (.ref g) = true
/-- a static method of the class whose global name is x -/
structure GSt (P : Program) (w : World) (K : PySem.W.Frag) (mg : Str → Option Value) (base : Heap) (k : Nat) (x : Str) (m : Str) (n : Nat) (ks : List Str) (sp : SpC) : Prop where
  ex : ∃ C mc p g, mg x = some (.ref C) ∧ ClX.CRead K C mc ∧ CStat K C mc m p g ∧ Cal P w K mg base k g n ks sp
section
variable {X : Cx} {k n : Nat} {ks : List Str} {sp : SpC} {W : WX} {x m : Str} {np pos apos : Pos} {e : Expr} {es : List Expr} {kws : List Keyword} {t tk : TA} {pl : Sem Bool}
theorem pe_static (G : GSt X.prog X.w X.K X.mg X.base k x m n ks sp) (hr : Room k X.A) (tw : Takes X W) (ha : PA X (e :: es) t) (hkw : PK X kws tk) (hg : Gl X x := by rfl)
    (hall : (backToKw pos (keywordEach kws X.env)).all (·.1.isSome) = true := by rfl) (hks : (backToKw pos (keywordEach kws X.env)).filterMap (·.1) = ks := by rfl) (hdb : (x == ("__debug__" : Str)) = false := by decide)
    (hst : starEach (e :: es) X.env = (false, eval e X.env) :: starEach es X.env := by rfl) (hpl : ((backTo pos (starEach (e :: es) X.env)).any (·.1) || (backToKw pos (keywordEach kws X.env)).any (·.1.isNone)) = false := by rfl)
    (ht : eval (.Call (.Attribute (.Name x np) m apos) (e :: es) kws pos) X.env = (do
      let ov ← eval (.Name x np) X.env
      standAt apos.atName
      let (f, first) ← holding [ov] (getMethod ov m pl)
      callWith pos f first (backTo pos (starEach (e :: es) X.env)) (backToKw pos (keywordEach kws X.env))) := by rfl) :
    PE X (.Call (.Attribute (.Name x np) m apos) (e :: es) kws pos) (tCalG n ks.length sp W t tk) := by
  refine ⟨fun pins s σ H Q I h => ?_⟩
  obtain ⟨C, mc, p, g, hm, r, c, F⟩ := G.ex
  obtain ⟨rest, hp⟩ := c.rc
  refine PySem.W.methodCall_KW (pl := pl) (ld_glob I hg hm ?_ hdb) ht
  refine PySem.W.method_cls I.kIn r.ga (PySem.W.cls_bind I.kIn r.rd c.at_ (wpAny_call (PySem.W.sm_get (s := { s with toks := s.toks + 1 }) I.kIn hp (PySem.W.handed_on (s := { s with toks := s.toks + 1 }) rfl ?_))))
  have I2 := I.tok (s.toks + 1)
  refine PySem.W.callWith_KW (h₀ := X.base) I.ok.mod.kin c.fi hall (thn (ha.run pos pins _ σ H _ I2 h) fun us s2 ⟨vs, H2, I2, r, q⟩ => ?_) hpl hst
  refine thn (hkw.run pos pins s2 σ H2 _ I2 q) fun ws s3 ⟨zs, H3, I3, rz, l1, l2, q3⟩ => ⟨I3.kIn, ?_⟩
  rw [hks]
  exact wpAny_call (run_cal F hr tw I3 r rz l1 l2 q3)
end

/-! ### target = e, e with super() -/
section
variable {X : Cx} {body : List Stmt} {pos : Pos}
theorem pst_asg {tg e : Expr} {te : TE} {g : TG} (he : PEt X body e te) (hg : PG X tg g) (hs : swapsWithSole [tg] e pos.line X.env = pure false := by rfl) (hw : swappedStores [tg] e X.env = pure none := by rfl)
    (h1 : (assignEach [tg] X.env).map (·.2) = [assign tg X.env] := by rfl) : PSt X body (.Assign [tg] e pos) (tAsg te g) := by
  refine ⟨fun pins s σ H D I h => ?_⟩
  rw [exec_Assign_arm]
  refine PySem.wpAt_bind (wpAt_of_wpAny (wpAny_standAt ?_))
  rw [hs]
  refine PySem.wpAt_bind (wpAt_of_wpAny (wpAny_pure ?_))
  rw [if_neg (by decide)]
  refine PySem.wpAt_bind (ks_wpAt_mono (he.run pins s σ H _ I h) (fun v s1 ⟨x, H1, I1, r1, q1⟩ => ?_) fun _ _ x => x)
  rw [hw]
  refine wpAt_of_wpAny (wpAny_bind (wpAny_pure ?_))
  show wpAny _ _ (do assignAll v ((assignEach [tg] X.env).map (·.2)); pure Flow.next) _ _ _
  refine wpAny_bind ?_
  rw [h1]
  exact thn (hg.run pins s1 σ H1 x v _ I1 r1 q1) fun _ s2 q => wpAny_pure q
end

/-! ### o.f = e; steps -/
section
variable {G H : Hp} {R : Res} {K : PySem.W.Frag} {f : Str} {v : V} {a C dx : Addr} {fs : List (Str × V)}
/-- the end of o.f = e -/
theorem g_sf {P : Hp → Prop} (w : Wd G R H) (h : G a = some (.ins C dx fs)) (hc : Cls K C) (hn : NoAttr K C f) (hl : fs.length < 1000) (k : ∀ H', Wd (upd G a (.ins C dx (putF f v fs))) R H' → P H') :
    ∃ a' C' dx' fs', V.ref a = .ref a' ∧ H a' = some (.ins C' dx' fs') ∧ Cls K C' ∧ NoAttr K C' f ∧ fs'.length < 1000 ∧ P (upd H a' (.ins C' dx' (putF f v fs'))) :=
  ⟨a, C, dx, fs, rfl, w.get h, hc, hn, hl, k _ (w.set h)⟩
/-- the end of o.f -/
theorem g_gf {P : V → Prop} (w : Wd G R H) (h : G a = some (.ins C dx fs)) (hc : Cls K C) (hn : NoAttr K C f) (hf : fs.lookup f = some v) (k : P v) :
    ∃ a' C' dx' fs' v', V.ref a = .ref a' ∧ H a' = some (.ins C' dx' fs') ∧ Cls K C' ∧ NoAttr K C' f ∧ fs'.lookup f = some v' ∧ P v' := ⟨a, C, dx, fs, v, rfl, w.get h, hc, hn, hf, k⟩
/-- the end of o.f, a constant of its class -/
theorem g_gc {P : V → Prop} {u : Value} (w : Wd G R H) (h : G a = some (.ins C dx fs)) (hc : Cls K C) (hn : Con K C f v u) (hf : fs.lookup f = none) (k : P v) :
    ∃ a' C' dx' fs' v' u', V.ref a = .ref a' ∧ H a' = some (.ins C' dx' fs') ∧ Cls K C' ∧ Con K C' f v' u' ∧ fs'.lookup f = none ∧ P v' := ⟨a, C, dx, fs, v, u, rfl, w.get h, hc, hn, hf, k⟩
end
def rInt1 : List V → Hp → VK → Prop := fun xs H Q => (∃ i, xs = [.int i] ∧ Q (.int i) H) ∨ ∃ k, xs = [.bl k] ∧ Q (.int (if k = true then 1 else 0)) H
theorem ka_int {X : Cx} : CallR X (.type "int") rInt1 := call_int1
theorem g_intB {H : Hp} {Q : VK} {b : Bool} (k : Q (.int (if b = true then 1 else 0)) H) : rInt1 [.bl b] H Q := .inr ⟨b, rfl, k⟩
theorem g_intI {H : Hp} {Q : VK} {i : Int} (k : Q (.int i) H) : rInt1 [.int i] H Q := .inl ⟨i, rfl, k⟩
theorem putF_nil {f : Str} {v : V} : putF f v [] = [(f, v)] := rfl
section
variable {σ : L2.St} {H : Hp} {Q : VK} {K : PySem.W.Frag} {D : Ends} {G : Hp} {R : Res} {te to : TE} {ta tk : TA} {f m : Str} {a C dx : Addr} {fs : List (Str × V)} {v : V} {W : WX} {n k : Nat} {ks : List Str} {sp : SpC} {P : Program} {wo : World} {mg : Str → Option Value} {base : Heap}
theorem g_meth {t : TA} (k0 : te σ H fun x H1 => ∃ a C dx fs sp, x = .ref a ∧ H1 a = some (.ins C dx fs) ∧ fs.lookup m = none ∧ GMt P wo K mg base k C m n ks sp ∧ t σ H1 fun vs H2 => tk σ H2 fun zs H3 => vs.length = n ∧ zs.length = ks.length ∧ sp (.ref a :: vs) zs H3 Q (WE W σ)) :
    tMtG P wo K mg base k m n ks W te t tk σ H Q := k0
theorem g_prop (k0 : te σ H fun x H1 => ∃ a C dx fs sp, x = .ref a ∧ H1 a = some (.ins C dx fs) ∧ GPr P wo K mg base k C m sp ∧ sp [.ref a] [] H1 Q E0) : tPrG P wo K mg base k m te σ H Q := k0
theorem g_exc1 {C : Addr} {fld : Str} {E : XK} (k0 : ta σ H fun vs H1 => ∃ v, vs = [v] ∧ ∀ d, H1 d = none → E (.ref C) (some d) (upd H1 d (.xd [(fld, v)]))) : tExc1 C fld ta σ H E := k0
theorem g_setF (k0 : te σ H fun y H1 => to σ H1 fun x H2 => ∃ a C dx fs, x = .ref a ∧ H2 a = some (.ins C dx fs) ∧ Cls K C ∧ NoAttr K C f ∧ fs.length < 1000 ∧ D.nx σ (upd H2 a (.ins C dx (putF f y fs)))) : sFld K to te f D σ H := k0
theorem g_andT {t1 t2 : TE} (k0 : t1 σ H fun x H1 => ∃ b, TruV K x H1 b ∧ if b = true then t2 σ H1 Q else Q x H1) : tAndT K t1 t2 σ H Q := k0
theorem g_exI {a : Int} {P : Int → Prop} (k0 : P a) : ∃ i, V.int a = V.int i ∧ P i := ⟨a, rfl, k0⟩
theorem g_dnew (k0 : NewO (.dK []) H Q) : tDNewK σ H Q := k0
theorem g_U {g : Int → V} {i : Int} (k0 : Q (g i) H) : rU g (.int i) H Q := ⟨i, rfl, k0⟩
theorem g_asgF {ts : TS} (k0 : ts D σ H) : ts D σ H := k0
theorem g_star {tr : TA} {QA : List V → Hp → Prop} (k0 : te σ H fun x H1 => ∃ p xs, x = V.ref p ∧ (SqT K H1 p xs ∨ SqL K H1 p xs) ∧ tr σ H1 fun ys H2 => QA (xs ++ ys) H2) : StX.tStar K te tr σ H QA := k0
end
end Sw

set_option Elab.async false
set_option linter.all false
set_option maxRecDepth 100000
set_option maxHeartbeats 4000000
namespace Sw
open PySem PySem.Spec PySem.Calls PyProof.Rows PySem.W
section
variable {prog : Program} {w : World} {A : Around} {E : Value → Shared → Prop} {s : Shared} {K : Frag} {x D : Addr} {ox od : Obj}
theorem sw_classE {Q : Option Value → Shared → Prop} (hga : findIn K (.ref D) "__getattribute__" = some (some (.builtin "BaseException.__getattribute__"))) (hgt : findIn K (.ref D) "__getattr__" = some none) (hsub : subIn K (.ref D) (.type "BaseException") = some true)
    (hdct : hasDictIn K D = true) (ha : findIn K (.ref D) "__class__" = some (some (.builtin "object.__class__")))
    (hn : specialIn K (.builtin "object.__class__") "__get__" = some (some (.builtin "getset_descriptor.__get__"))) (htk : takesIn K (.builtin "object.__class__") = some true) (hm : mroIn K D (.type "object") = some true)
    (X : K.In s.heap) (I : InstAt s.heap x ox D (some od)) (h : Q (some (.ref D)) { s with toks := s.toks + 1 }) : wpAny (model prog w) A (getAttr? (.ref x) "__class__") Q E s := by
  have hf : findObj K D (some od) "__class__" = some (.bind (.builtin "getset_descriptor.__get__") (.builtin "object.__class__")) := findObj_data (by obtain ⟨cd, hc, _⟩ := any_some hdct; rw [hc]; rfl) ha hn htk
  obtain ⟨hp, g, d, t, os⟩ := s
  have L0 := I.type (M := model prog w)
  have L1 := looks_findIn (M := model prog w) X hga
  have L2 := looks_findIn (M := model prog w) X hgt
  have L3 := looks_find (M := model prog w) X I hf
  have sub : Looks (model prog w) hp (isInstance (.ref x) (.type "BaseException")) true := L0.andThen (looks_subIn X hsub)
  have hx0 : (false && onTheHeap (Value.builtin "BaseException.__getattribute__")) = false := rfl
  have hx2 : (Value.builtin "BaseException.__getattribute__" == Value.builtin "object.__getattribute__") = false := by decide +kernel
  have hx1 : (onTheHeap (Value.ref D) && Value.builtin "BaseException.__getattribute__" == Value.builtin "object.__getattribute__") = false := by rw [hx2]; rfl
  unfold getAttr? getAttrBy? getAttrBy
  refine wpAny_bind (wpAny_mkText (wpAny_bind (wpAny_attempt (wpAny_holding (wpAny_bind (L0.at (wpAny_bind (L1.at ?_))))))))
  show wpAny _ _ (if (onTheHeap (Value.ref D) && Value.builtin "BaseException.__getattribute__" == Value.builtin "object.__getattribute__") = true then _ else _) _ _ _
  rw [hx1, if_neg Bool.false_ne_true]
  unfold getAttrByItsOwn hookBefore
  refine wpAny_bind ?_
  rw [if_pos (show onTheHeap (Value.ref D) = true from rfl)]
  refine L2.at ?_
  refine wpAny_bind (wpAny_attempt (wpAny_holding ?_))
  unfold callGetattribute
  rw [hx0, if_neg Bool.false_ne_true]
  unfold boundAndCalled
  rw [PySem.F.excAttr_ValueError.ga.bind (.ref x)]
  refine wpAny_bind (wpAny_pure ?_)
  show wpAny _ _ (call (.builtin "BaseException.__getattribute__") [.ref x, .str "__class__" t]) _ _ _
  refine wpAny_call (codeAny_call_builtin PySem.F.excAttr_ValueError.ga.plain PySem.F.entry_bexc_ga ?_)
  refine @check_slot (model prog w) _ _ ⟨hp, g, d, t + 1, os⟩ "BaseException.__getattribute__" "BaseException" "__getattribute__" (.ref x) [.str "__class__" t] [] _ (by decide +kernel) (by decide +kernel) sub (PySem.F.args_bexc_ga (.ref x) (.str "__class__" t)) ?_
  unfold Builtin.«object.__getattribute__»
  refine wpAny_bind (wpAny_of_eq (a := ((Value.ref x : Value), [Value.str "__class__" t])) (by first | rfl | (simp only [slotArgs]; rfl)) ?_)
  refine wpAny_bind (wpAny_pure (wpAny_bind (L0.at (wpAny_bind (L3.at ?_)))))
  show wpAny _ _ (holding [Value.builtin "object.__class__"] (call (.builtin "getset_descriptor.__get__") [.builtin "object.__class__", .ref x, .ref D]) >>= ret) _ _ _
  refine wpAny_bind (wpAny_holding (wpAny_call (class_get (s := ⟨hp, g, d, t + 1, os⟩) (ox := ox) (od := some od) X I hm ?_)))
  refine wpAny_pure ?_
  show wpAny _ _ (handedOut (.ref D)) _ _ _
  rw [handedOut_of (v := .ref D) rfl]
  first
    | exact wpAny_pure (wpAny_pure h)
    | exact wpAny_pure h
    | exact wpAny_pure (wpAny_bind (wpAny_pure (wpAny_pure h)))
theorem sw_kitx (hga : findIn K (.ref D) "__getattribute__" = some (some (.builtin "BaseException.__getattribute__"))) (hgt : findIn K (.ref D) "__getattr__" = some none) (hsub : subIn K (.ref D) (.type "BaseException") = some true) (hdct : hasDictIn K D = true) (ha : findIn K (.ref D) "__class__" = some (some (.builtin "object.__class__")))
    (hn : specialIn K (.builtin "object.__class__") "__get__" = some (some (.builtin "getset_descriptor.__get__"))) (htk : takesIn K (.builtin "object.__class__") = some true) (hm : mroIn K D (.type "object") = some true) :
    KitX K (.ref x) (.ref D) (fun h => InstAt h x ox D (some od)) where
  ty := fun _ _ _ I => I.type
  it := fun _ _ X _ => by
    obtain ⟨cdD, hcD, _⟩ := any_some hdct
    unfold clsIn at hcD
    split at hcD
    · rename_i c' d' cd' sl' ho
      intro A' Q' E' s' k q
      unfold isType loadHead
      exact wpAny_bind (wpAny_loadPart (k _ _ (X _ _ ho)) (wpAny_pure q))
    · cases hcD
  ne := fun h tp dd its n sl X htp => by
    obtain ⟨cdD, hcD, _⟩ := any_some hdct
    refine Bool.eq_false_iff.mpr fun q => ?_
    have e : D = tp := Value.ref.inj (beq_iff_eq.mp q)
    subst e
    unfold clsIn at hcD
    split at hcD
    · rename_i c' d' cd' sl' ho
      have z := (X _ _ ho).symm.trans htp
      cases z
    · cases hcD
  ca := fun X I k => sw_classE hga hgt hsub hdct ha hn htk hm X I k
end
end Sw
namespace Sw
open PySem PySem.Spec PyProof.Rows L2
/-! ### isinstance(e, c), e a caught own exception with a dict -/
def rIsX (K : PySem.W.Frag) (a : Addr) (cls : Value) (d : Option Addr) : List V → Hp → VK → Prop := fun xs H Q => ∃ (c : V) (cv : Value) (b : Bool) (D dd : Addr) (fs : List (Str × V)), xs = [.ref a, c] ∧ cls = .ref D ∧ d = some dd ∧ H dd = some (.xd fs) ∧ ExcC K D ∧ (∀ u, RelV c u → u = cv) ∧ PySem.W.kitOne K (.ref D) cv = some b ∧ Q (.bl b) H
theorem call_isX {X : Cx} {a : Addr} {cls : Value} {d : Option Addr} {oe : Obj} {pn : List (Addr × Obj)} (K : PySem.W.Frag) (hz : Zc cls d oe) (hf : ∃ vs, oe.data = .fields vs) (hK : X.K = K := by rfl) : CallR (X.suite a ((a, oe) :: pn)) (.builtin "isinstance") (rIsX K a cls d) := by
  subst hK
  intro pins s σ H xs us Q I r h
  obtain ⟨c, cv, b, D, dd, fs, rfl, ec, ed, ea, C, hcv, e, q⟩ := h
  subst ec ed
  cases r with
  | cons rx rr =>
    cases rr with
    | cons rt rr =>
      cases rr
      cases rx
      have ec := hcv _ rt
      subst ec
      obtain ⟨hget, _⟩ := I.pin (a, oe) (List.mem_append.mpr (.inl List.mem_cons_self))
      obtain ⟨vs, hv⟩ := hf
      have hx : ObjOk X.prog X.w H s.heap dd (.xd fs) := I.hok dd _ ea
      obtain ⟨mA, hns, hr⟩ := hx
      obtain ⟨od, ho, hl⟩ := lookIn_ns hns
      have J : PySem.W.InstAt s.heap a oe D (some od) := ⟨hget, hz.1, by unfold PySem.W.notCls; rw [hv] <;> rfl, by rw [hz.2]; exact ho⟩
      exact PySem.W.kia_one (sw_kitx C.hg C.hk C.hs C.hd C.ha C.hn C.ht C.hm) I.kIn J e (fun z => nomatch z) fun tk => ⟨.bl b, H, I.kept (t' := tk) fun _ _ z => z, rfl, q⟩
/-- e.f, whatever own class e is of -/
def tXg (K : PySem.W.Frag) (a : Addr) (cls : Value) (d : Option Addr) (f : Str) (te : TE) : TE := fun σ H Q => te σ H fun x H1 => x = .ref a ∧ ∃ (C dd : Addr) (fs : List (Str × V)) (v : V), cls = .ref C ∧ d = some dd ∧ XfC K C ∧ PySem.W.findIn K (.ref C) f = some none ∧ H1 dd = some (.xd fs) ∧ fs.lookup f = some v ∧ Q v H1
theorem g_xg {K : PySem.W.Frag} {a : Addr} {cls : Value} {d : Option Addr} {f : Str} {te : TE} {σ : L2.St} {H : Hp} {Q : VK} (k : te σ H fun x H1 => x = .ref a ∧ ∃ (C dd : Addr) (fs : List (Str × V)) (v : V), cls = .ref C ∧ d = some dd ∧ XfC K C ∧ PySem.W.findIn K (.ref C) f = some none ∧ H1 dd = some (.xd fs) ∧ fs.lookup f = some v ∧ Q v H1) : tXg K a cls d f te σ H Q := k
theorem pe_xg {X : Cx} {a : Addr} {oe : Obj} {cls : Value} {d : Option Addr} {pn : List (Addr × Obj)} {e : Expr} {te : TE} {pos : Pos} {n : Str} (K : PySem.W.Frag)
    (hz : Zc cls d oe) (hf : ∃ vs, oe.data = .fields vs) (he : PE (X.suite a ((a, oe) :: pn)) e te) (hK : X.K = K := by rfl) (hb : attributeBase e n X.env (eval e X.env) = eval e X.env := by rfl) :
    PE (X.suite a ((a, oe) :: pn)) (.Attribute e n pos) (tXg K a cls d n te) := by
  subst hK
  refine ⟨fun pins s σ H Q I h => ?_⟩
  refine attr_of hb (thn (he.run pins s σ H _ I h) fun u s1 hh => ?_)
  obtain ⟨x, H1, I1, rx, ex, C, dd, fs, v, ec, ed, T, hno, ea, l, q⟩ := hh
  subst ex
  obtain rfl : u = Value.ref a := rx
  subst ec
  subst ed
  obtain ⟨ha, _⟩ := I1.pin (a, oe) (List.mem_append_left _ List.mem_cons_self)
  obtain ⟨vs, hd⟩ := hf
  have hx : ObjOk X.prog X.w H1 s1.heap dd (.xd fs) := I1.hok dd _ ea
  obtain ⟨mA, hns, hr⟩ := hx
  obtain ⟨od, ho, hl⟩ := lookIn_ns hns
  obtain ⟨u, hu, ru⟩ := RelO.some_of (v := v) (o := mA n) (by rw [← l]; exact hr n)
  have J : PySem.W.InstAt s1.heap a oe C (some od) := ⟨ha, hz.1, by unfold PySem.W.notCls; rw [hd] <;> rfl, by rw [hz.2]; exact ho⟩
  exact HandSPX.exc_get I1.kIn J T.ga T.gg T.exC (PySem.W.findObj_own T.hdC hno rfl (by rw [hl, hu])) (handed_of ru) ⟨v, H1, I1.tok _, ru, q⟩
/-- names in an except clause -/
theorem names_of {X : Cx} {x : Str} {a : Addr} (hg : Gl X x) (h : ∃ u, X.mg x = some u ∧ RelV (.ref a) u) (hd : (x == ("__debug__" : Str)) = false := by decide) : Names X x (.ref a) := by
  obtain ⟨u, hm, r⟩ := h
  have r' : u = Value.ref a := r
  subst r'
  exact ⟨hg, hd, .inl hm⟩

/-- a plain def with defaults: its takes at hand -/
theorem okTD {P : Program} {w : World} {K : PySem.W.Frag} {mg : Str → Option Value} {base : Heap} {x qual : Str} {st : Stmt} {f : Addr} {fd : FuncData} {N ps : List Str} {k : Nat} {sp : Sp} {dvs : List V} {kws : List (Str × V)} (F : FunD K x qual (defArgs st) (defBody st) (defScope st) dvs kws f fd) (S : FnScope N ps (defScope st)) (len : ∀ vs H Q E, sp vs H Q E → vs.length = ps.length)
    (hbody : ∀ (cdv : Value) (A : Around) (outer : List Env) (s : Shared) (H : Hp) (vs : List V) (Q : VK) (E : XK), Room k (A.deeper (envOfC qual (defScope st) s.heap.objs.size f cdv)) →
      Takes (cxOf (L2.CX P w) P w K mg base N qual (defScope st) f cdv A outer s H E) (fun cls d _ H => E cls d H) →
      PassesOwn (model P w) (A.deeper (envOfC qual (defScope st) s.heap.objs.size f cdv)) (envOfC qual (defScope st) s.heap.objs.size f cdv) (cxOf (L2.CX P w) P w K mg base N qual (defScope st) f cdv A outer s H E).xe → sp vs H Q E →
      ∃ t, PSs (cxOf (L2.CX P w) P w K mg base N qual (defScope st) f cdv A outer s H E) (defBody st) t ∧ t { nx := fun _ H' => Q .non H', rt := Q } (L2.start N vs) H) : FnOk P w K mg base (L2.CX P w) (k + 1) f fd ps sp :=
  F.ok S len fun cdv A outer s H vs Q E hr h => hbody cdv A outer s H vs Q E hr (takes_of rfl rfl rfl rfl) (passes_of (X := cxOf (L2.CX P w) P w K mg base N qual (defScope st) f cdv A outer s H E) rfl) h
section
variable {K : PySem.W.Frag} {G H G' : Hp} {R : Res} {p x : Addr} {o : HO} {v : V} {t : Value}
theorem Same.upd2 (e : Same G G') : Same (upd G p o) (upd G' p o) := fun b u h => by
  by_cases hb : b = p
  · subst hb; rw [upd_same] at h ⊢; exact h
  · rw [upd_ne hb] at h ⊢; exact e b u h
theorem tyX_same (e : Same G H) (h : TyX K G v t) : TyX K H v t := by
  cases h with
  | base h =>
    cases h with
    | non => exact .base .non
    | bl b => exact .base (.bl b)
    | int i => exact .base (.int i)
    | str s => exact .base (.str s)
    | flt s => exact .base (.flt s)
    | lst q => exact .base (.lst (e _ _ q))
    | frz q => exact .base (.frz (e _ _ q))
    | tup q => exact .base (.tup (e _ _ q))
    | dK q => exact .base (.dK (e _ _ q))
    | dT q => exact .base (.dT (e _ _ q))
    | ins q z1 z2 z3 z4 z5 => exact .base (.ins (e _ _ q) z1 z2 z3 z4 z5)
  | byt b => exact .byt b
  | set q => exact .set (e _ _ q)
  | kList q c => exact .kList q c
  | kTuple q c => exact .kTuple q c
  | kDict q c => exact .kDict q c
  | fTuple q => exact .fTuple (e _ _ q)
  | fDict q => exact .fDict (e _ _ q)
theorem tyX_ins {C dx : Addr} {fs fs' : List (Str × V)} (hx : G x = some (.ins C dx fs)) (h : TyX K G v t) : TyX K (upd G x (.ins C dx fs')) v t := by
  have key : ∀ {a : Addr} {o : HO}, G a = some o → (∀ C dx fs, o ≠ .ins C dx fs) → upd G x (.ins C dx fs') a = some o := fun {a o} q n => by
    have : a ≠ x := fun z => by
      subst z
      rw [hx] at q
      cases q
      exact n _ _ _ rfl
    rw [upd_ne this]
    exact q
  cases h with
  | base h =>
    cases h with
    | non => exact .base .non
    | bl b => exact .base (.bl b)
    | int i => exact .base (.int i)
    | str s => exact .base (.str s)
    | flt s => exact .base (.flt s)
    | lst q => exact .base (.lst (key q (by intros; simp)))
    | frz q => exact .base (.frz (key q (by intros; simp)))
    | tup q => exact .base (.tup (key q (by intros; simp)))
    | dK q => exact .base (.dK (key q (by intros; simp)))
    | dT q => exact .base (.dT (key q (by intros; simp)))
    | @ins a C' dx' fs2 q h1 h2 h3 h4 h5 =>
      by_cases z : a = x
      · subst z
        rw [hx] at q
        cases q
        exact .base (.ins upd_same h1 h2 h3 h4 h5)
      · exact .base (.ins (show upd G x (.ins C dx fs') a = some (.ins C' dx' fs2) by rw [upd_ne z]; exact q) h1 h2 h3 h4 h5)
  | byt b => exact .byt b
  | set q => exact .set (key q (by intros; simp))
  | kList q c => exact .kList q c
  | kTuple q c => exact .kTuple q c
  | kDict q c => exact .kDict q c
  | fTuple q => exact .fTuple (key q (by intros; simp))
  | fDict q => exact .fDict (key q (by intros; simp))
end
end Sw

set_option Elab.async false
set_option linter.all false
set_option maxRecDepth 100000
set_option maxHeartbeats 4000000
namespace Sw
open PySem PySem.Spec PyProof.Rows L2
/-! ### promises for calls with no repr open (guards) -/
structure FnG (P : Program) (w : World) (K : PySem.W.Frag) (mg : Str → Option Value) (base : Heap) (CX : CXT) (k : Nat) (f : Addr) (fd : FuncData) (ps : List Str) (sp : Sp) : Prop where
  len : ∀ vs H Q E, sp vs H Q E → vs.length = ps.length
  run : ∀ (A : Around) (outer : List Env) (s : Shared) (H : Hp) (args : Args) (us : List Value) (vs : List V) (Q : VK) (E : XK), Room k A → A.guards = some [] → Env0 P w K mg base A outer s H → BindsTo s fd args (ps.zip us) → Vals vs us → sp vs H Q E →
    codeAny (model P w) A (.call (.ref f) args) (CR CX outer P w H s Q E) s
theorem fnG_of {CX : CXT} {P : Program} {w : World} {K : PySem.W.Frag} {mg : Str → Option Value} {base : Heap} {k : Nat} {f : Addr} {name qual : Str} {params : Arguments} {body : List Stmt} {scope : Scope} {dV kV doc pm cdv ct oc : Value} {an od : Option Addr}
    {osl : Array (Option Value)} {N ps : List Str} {sp : Sp} (lk : K.lookup f = some ⟨oc, od, .func (PySem.W.fnOf name qual params body scope dV kV doc pm an cdv ct), osl⟩) (hcd : PySem.W.codeIn K cdv qual = true) (S : FnScope N ps scope)
    (len : ∀ vs H Q E, sp vs H Q E → vs.length = ps.length)
    (hbody : ∀ (A : Around) (outer : List Env) (s : Shared) (H : Hp) (vs : List V) (Q : VK) (E : XK), Room k (A.deeper (envOfC qual scope s.heap.objs.size f cdv)) → A.guards = some [] → sp vs H Q E →
      ∃ t, PSs (cxOf CX P w K mg base N qual scope f cdv A outer s H E) body t ∧ t { nx := fun _ H' => Q .non H', rt := Q } (L2.start N vs) H) :
    FnG P w K mg base CX (k + 1) f (PySem.W.fnOf name qual params body scope dV kV doc pm an cdv ct) ps sp := by
  refine ⟨len, fun A outer s H args us vs Q E hr hgd e0 hb r hsp => ?_⟩
  have hl := len _ _ _ _ hsp
  have KX : K.In s.heap := e0.mod.kin.keeps fun b o e => (e0.bs b o e).1
  have lim : s.heap.NoLimit := e0.mod.nolimit.keeps fun b o e => (e0.bs b o e).1
  have hkind : ∀ y ∈ ps.zip us, scope.names.lookup y.1 = some .local ∨ (scope.names.lookup y.1 = some .cell ∧ ((cellsFrom (s.heap.objs.size + 1) scope.names []).lookup y.1).isSome = true) := fun ⟨n, v⟩ hy => by
    rcases S.par n (List.of_mem_zip hy).1 with q | q
    · exact .inl q
    · exact .inr ⟨q, PySem.W.cellsFrom_some _ _ _ (.inl q)⟩
  refine codeAny_call_function hr.depth (KX _ _ lk) rfl S.co S.gen rfl (PySem.W.codeRec_of KX hcd) (hb _ _ _ _ ?_)
  refine wpAny_newFunctionEnv_cells S.kind hkind fun env he s1 x => ?_
  subst he
  refine ⟨lim.keeps x.toInCall.keep, codeAny_func ?_⟩
  obtain ⟨t, ht, hq⟩ := hbody A outer s H vs Q E (hr.deeper _) hgd hsp
  have I : Inv (cxOf CX P w K mg base N qual scope f cdv A outer s H E) [] (L2.start N vs) H s1 := inv_start S hr.hd e0 hl r x
  refine wpAny_mono (ht.run [] s1 (L2.start N vs) H _ I hq) (fun fl s' hs => ?_) fun e s' hs => hs
  have fin : ∀ {σ' : L2.St} {H' : Hp} {v : V} {u : Value}, Inv (cxOf CX P w K mg base N qual scope f cdv A outer s H E) [] σ' H' s' → RelV v u → Q v H' → CE outer P w H s Q u s' :=
    fun {σ' H' v u} J rv q => ⟨v, H', J.os, J.bare, J.base, J.hok, rv, q⟩
  cases fl with
  | ret u =>
    obtain ⟨v, σ', H', J, rv, q⟩ := hs
    exact fin J rv q
  | next =>
    obtain ⟨σ', H', J, q⟩ := hs
    exact fin (v := V.non) (u := Value.none) J rfl q
  | brk =>
    obtain ⟨_, _, _, q⟩ := hs
    exact False.elim q
  | cont =>
    obtain ⟨_, _, _, q⟩ := hs
    exact False.elim q
theorem law_callG {P : Program} {w : World} {K : PySem.W.Frag} {mg mb : Str → Option Value} {CX : CXT} {k : Nat} {fa a : Addr} {fd : FuncData} {x : Str} {sp : Sp} {s₁ : Shared} {vs : List Value} {ns : List Int}
    (KX : K.In s₁.heap) (hns : s₁.heap.Ns mainGlobals mg) (hb : s₁.heap.Ns builtinsNs mb) (hbb : ∀ x : Str, x ≠ "__name__" → mb x = bootBuiltins x) (hlim : s₁.heap.NoLimit) (hg : s₁.gens = #[])
    (ha : s₁.heap.get? a = some { cls := .type "list", data := .seq vs.toArray }) (hi : IntsAre vs ns) (hl : ns.length ≤ sizeLine) (hr : Room k callerA)
    (F : ∀ base : Heap, K.In base → base.Ns mainGlobals mg → FnG P w K mg base CX k fa fd [x] sp) (hbind : ∀ (s : Shared) (u : Value), BindsTo s fd ⟨[u], []⟩ [(x, u)])
    (hsp : ∀ H : Hp, Only H → SqL K H a (ns.map V.int) → sp [.ref a] H (fun v _ => v = .bl true) fun _ _ _ => False)
    (hCX : ∀ H e s', CX [] H s₁ (fun _ _ _ => False) e s' → False) :
    codeAny (model P w) callerA (.call (.ref fa) ⟨[.ref a], []⟩) (fun r s' => r = .ok (.ret (.bool true)) ∧ OldK s₁.heap s'.heap ∧ s'.os = s₁.os ∧ AllBare s'.gens) s₁ := by
  have rv := vals_ints hi
  have lenV := hi.length
  -- from an abstract heap in which nothing but the script may be tracked
  have core : ∀ H : Hp, Only H → SqL K H a (ns.map V.int) → HOk P w H s₁.heap → (∀ b, H b ≠ none → b = a) → (H a ≠ none → K.lookup a = none) →
      codeAny (model P w) callerA (.call (.ref fa) ⟨[.ref a], []⟩) (fun r s' => r = .ok (.ret (.bool true)) ∧ OldK s₁.heap s'.heap ∧ s'.os = s₁.os ∧ AllBare s'.gens) s₁ := by
    intro H hO hS hok hA hK
    have base_of : ∀ {b : Addr} {o : Obj}, s₁.heap.get? b = some o → H b = none → (hidT s₁.heap H).get? b = some o := fun e n => hidT_get e n
    have noA : ∀ {b : Addr} {o : Obj} {es : Array DictEntry} {ep : Nat}, s₁.heap.get? b = some o → o.data = .dict es ep → H b = none := fun {b o es ep} e d => by
      cases q : H b with
      | none => rfl
      | some u =>
        have e' : b = a := hA b (by rw [q]; simp)
        subst e'
        rw [ha] at e; cases e
        have d' : Data.seq vs.toArray _ = Data.dict es ep := d
        cases d'
    have nsK : ∀ {b : Addr} {m : Str → Option Value}, s₁.heap.Ns b m → (hidT s₁.heap H).Ns b m := fun {b m} ⟨o, es, ep, e, d, r⟩ => ⟨o, es, ep, base_of e (noA e d), d, r⟩
    have hKb : K.In (hidT s₁.heap H) := fun b o e => base_of (KX b o e) (by
      cases q : H b with
      | none => rfl
      | some u =>
        have e' : b = a := hA b (by rw [q]; simp)
        subst e'
        rw [hK (by rw [q]; simp)] at e; cases e)
    have hM : Mod K mg (hidT s₁.heap H) := ⟨hKb, nsK hns, ⟨mb, nsK hb, hbb⟩, let ⟨mc, h1, h2⟩ := hlim; ⟨mc, nsK h1, h2⟩⟩
    have e0 : Env0 P w K mg (hidT s₁.heap H) callerA [] s₁ H := ⟨rfl, hM, fun b o e => of_hidT e, Nat.le_of_eq (hidT_size _ _), trivial, fun b hb => absurd (show b ∈ ([] : List Addr) from hb) (by simp), hok, .of_eq hg⟩
    refine codeAny_mono ((F _ hKb (nsK hns)).run callerA [] s₁ H ⟨[.ref a], []⟩ [.ref a] [.ref a] _ _ hr rfl e0 (hbind s₁ (.ref a)) (.cons rfl .nil) (hsp H hO hS)) fun r s' h => ?_
    cases r with
    | error e => exact (hCX H e s' h).elim
    | ok fl =>
      cases fl with
      | next => exact False.elim h
      | brk => exact False.elim h
      | cont => exact False.elim h
      | ret u =>
        obtain ⟨v, H', os, bare, un, hok', r', q⟩ := h
        have q' : v = .bl true := q
        subst q'
        obtain rfl : u = Value.bool true := r'
        refine ⟨rfl, OldK.of_keep fun b o e => ?_, os, bare⟩
        cases q : H b with
        | none => exact un.keep b o e q (by intro z; exact absurd (show b ∈ ([] : List Addr) from z) (by simp)) (by simp)
        | some u =>
          rcases hO b with z | ⟨ob, xs, z⟩
          · rw [q] at z; cases z
          · have z2 := un.frzs b ob _ z
            obtain ⟨e1, _⟩ := hok b _ z
            obtain ⟨e2, _⟩ := hok' b _ z2
            rw [e] at e1; cases e1
            exact e2
  cases hk : K.lookup a with
  | some o =>
    -- the script is one of the module's own objects
    have e := KX a o hk
    rw [ha] at e
    cases e
    refine core (fun _ => none) (fun _ => .inl rfl) (.inr ⟨_, vs.toArray, _, hk, rfl, rfl, rfl, by rw [List.size_toArray, lenV]; exact hl, by simpa using rv⟩) (fun b u z => by have z' : (none : Option HO) = some u := z; cases z') (fun b z => absurd rfl z) fun z => absurd rfl z
  | none =>
    refine core (fun b => if b = a then some (.frz { cls := .type "list", data := .seq vs.toArray } (.lst (ns.map V.int))) else none) (fun b => ?_) (.inl (.inr ⟨{ cls := .type "list", data := .seq vs.toArray }, if_pos rfl⟩)) (fun b u z => ?_) (fun b z => ?_) fun _ => hk
    · by_cases hb : b = a
      · exact .inr ⟨_, _, if_pos hb⟩
      · exact .inl (if_neg hb)
    · by_cases hb : b = a
      · have z' := (if_pos hb).symm.trans z
        cases z'
        subst hb
        exact ⟨ha, by rw [List.length_map]; exact hl, vs, _, rv, ha⟩
      · have z' := (if_neg hb).symm.trans z
        cases z'
    · by_cases hb : b = a
      · exact hb
      · exact absurd (if_neg hb) z
theorem walk_ofG {l : PySem.W.OpenLaw} {n k : Nat} {q : Program} {loose : List Str} {XP : (Str → Option Value) → Heap → Prop} {YP : World → Heap → Prop} {d : DefRec} {K : Params → PySem.W.Frag} {CX : World → CXT} {sp : World → Sp} {x : Str}
    (hn : l.most = some n) (hn2 : n ≤ sizeLine) (hdf : d.params.defaults = []) (hr : Room k callerA)
    (hY : ∀ (w : World) (h : Heap), YP w h → (K w.params).In h)
    (F : ∀ (w : World) (mg : Str → Option Value) (fa : Addr) (h : Heap), (K w.params).In h → h.Ns mainGlobals mg → mg d.name = some (.ref fa) →
      ∃ fd : FuncData, (∀ (s : Shared) (u : Value), BindsTo s fd ⟨[u], []⟩ [(x, u)]) ∧
        ∀ base : Heap, (K w.params).In base → base.Ns mainGlobals mg → FnG l.prog w (K w.params) mg base (CX w) k fa fd [x] (sp w))
    (hsp : ∀ (w : World) (H : Hp) (a : Addr) (ns : List Int), ns.length ≤ n → Only H → SqL (K w.params) H a (ns.map V.int) → sp w [.ref a] H (fun v _ => v = .bl true) fun _ _ _ => False)
    (hCX : ∀ (w : World) (H : Hp) (s : Shared) (e : Value) (s' : Shared), CX w [] H s (fun _ _ _ => False) e s' → False) :
    PySem.W.WalkO q loose XP YP l.row.toRowW d [] (fun f vs => PySem.call f vs) := by
  refine Att.attach_call hn hdf fun w s₀ s₁ mg mb fa o pm cd doc a vs ns G Y ho hd hcd hmg hobj hints hlen hg => ?_
  have KX := hY w _ Y
  obtain ⟨fd, hb, hF⟩ := F w mg fa _ KX G.T.g hmg
  exact law_callG KX G.T.g G.T.b G.T.builtins G.T.nolimit hg hobj hints (Nat.le_trans hlen hn2) hr hF hb (fun H hO hS => hsp w H a ns hlen hO hS) fun H e s' => hCX w H s₁ e s'
end Sw

set_option Elab.async false
set_option linter.all false
set_option maxRecDepth 100000
set_option maxHeartbeats 4000000
namespace Sw
open PySem PySem.Spec PyProof.Rows L2
section
variable {P : Program} {w : World} {K : PySem.W.Frag} {mg : Str → Option Value} {base : Heap} {j k n : Nat} {f : Addr} {fd : FuncData} {ps ks : List Str} {sp : Sp} {spc : SpC}
theorem FnG.of (F : FnOk P w K mg base (L2.CX P w) k f fd ps sp) : FnG P w K mg base (L2.CX P w) k f fd ps sp := ⟨F.len, fun A outer s H args us vs Q E hr _ => F.run A outer s H args us vs Q E hr⟩
theorem okG {x qual : Str} {st : Stmt} {N : List Str} (F : Fun K x qual st f fd) (S : FnScope N ps (defScope st)) (len : ∀ vs H Q E, sp vs H Q E → vs.length = ps.length)
    (hbody : ∀ (cdv : Value) (A : Around) (outer : List Env) (s : Shared) (H : Hp) (vs : List V) (Q : VK) (E : XK), Room k (A.deeper (envOfC qual (defScope st) s.heap.objs.size f cdv)) → A.guards = some [] →
      Takes (cxOf (L2.CX P w) P w K mg base N qual (defScope st) f cdv A outer s H E) (fun cls d _ H => E cls d H) →
      PassesOwn (model P w) (A.deeper (envOfC qual (defScope st) s.heap.objs.size f cdv)) (envOfC qual (defScope st) s.heap.objs.size f cdv) (cxOf (L2.CX P w) P w K mg base N qual (defScope st) f cdv A outer s H E).xe → sp vs H Q E →
      ∃ t, PSs (cxOf (L2.CX P w) P w K mg base N qual (defScope st) f cdv A outer s H E) (defBody st) t ∧ t { nx := fun _ H' => Q .non H', rt := Q } (L2.start N vs) H) : FnG P w K mg base (L2.CX P w) (k + 1) f fd ps sp := by
  obtain ⟨⟨oc, od, kV, doc, pm, an, cdv, ct, osl, rfl, lk, hcd⟩, kp⟩ := F
  exact fnG_of lk hcd S len fun A outer s H vs Q E hr hg h => hbody cdv A outer s H vs Q E hr hg (takes_of rfl rfl rfl rfl) (passes_of (X := cxOf (L2.CX P w) P w K mg base N qual (defScope st) f cdv A outer s H E) rfl) h
/-- a callee by its convention, no repr open -/
def CalG (P : Program) (w : World) (K : PySem.W.Frag) (mg : Str → Option Value) (base : Heap) (k : Nat) (f : Addr) (n : Nat) (ks : List Str) (sp : SpC) : Prop :=
  ∀ (A : Around) (outer : List Env) (s : Shared) (H : Hp) (us ws : List Value) (vs zs : List V) (Q : VK) (E : XK), Room k A → A.guards = some [] → Env0 P w K mg base A outer s H → Vals vs us → Vals zs ws → vs.length = n → zs.length = ks.length → sp vs zs H Q E →
    codeAny (model P w) A (.call (.ref f) ⟨us, ks.zip ws⟩) (CR (L2.CX P w) outer P w H s Q E) s
theorem calG0 (F : FnG P w K mg base (L2.CX P w) k f fd ps sp) (hb : Binds K fd ps []) (hn : n = ps.length) : CalG P w K mg base k f n [] (fun vs _ => sp vs) :=
  fun A outer s H us ws vs zs Q E hr hg e0 r rz l1 l2 h => by
    have e : (⟨us, ([] : List Str).zip ws⟩ : Args) = ⟨us, []⟩ := by rw [List.zip_nil_left]
    rw [e]
    have hl : (us ++ []).length = ps.length := by rw [List.append_nil, ← r.length, l1, hn]
    have hb' := hb s us (e0.mod.kin.keeps fun b o e => (e0.bs b o e).1) hl
    rw [List.append_nil] at hb'
    exact F.run A outer s H ⟨us, []⟩ us vs Q E hr hg e0 hb' r h
structure GFg (P : Program) (w : World) (K : PySem.W.Frag) (mg : Str → Option Value) (base : Heap) (k : Nat) (x : Str) (n : Nat) (ks : List Str) (sp : SpC) : Prop where
  ex : ∃ f, mg x = some (.ref f) ∧ PySem.W.keepIn K (.ref f) = true ∧ CalG P w K mg base k f n ks sp
end
section
variable {X : Cx} {k n : Nat} {f C : Addr} {ks : List Str} {sp : SpC} {W : WX} {x : Str} {p pos : Pos} {e : Expr} {es : List Expr} {kws : List Keyword} {t tk : TA}
theorem run_calG {pins : List (Addr × Obj)} {σ : L2.St} {H : Hp} {s : Shared} {Q : VK} {us ws : List Value} {vs zs : List V} (F : CalG X.prog X.w X.K X.mg X.base k f n ks sp) (hr : Room k X.A) (hg : X.A.guards = some []) (tw : Takes X W) (I : Inv X pins σ H s) (r : Vals vs us) (rz : Vals zs ws)
    (l1 : vs.length = n) (l2 : zs.length = ks.length) (h : sp vs zs H Q (WE W σ)) :
    codeAny (model X.prog X.w) X.A (.call (.ref f) ⟨us, ks.zip ws⟩) (fun r s' => match r with | .ok (.ret v) => EP X pins σ Q v s' | .ok _ => False | .error e => X.xe e s') s := by
  refine codeAny_mono (F X.A X.stack s H us ws vs zs Q (WE W σ) hr hg I.env0 r rz l1 l2 h) fun r s' hq => ?_
  cases r with
  | error e => exact passAt tw σ pins H s e s' I hq
  | ok fl =>
    cases fl with
    | ret u => exact I.after hq
    | next => exact False.elim hq
    | brk => exact False.elim hq
    | cont => exact False.elim hq
theorem pe_callGg (G : GFg X.prog X.w X.K X.mg X.base k x n ks sp) (hr : Room k X.A) (hgd : X.A.guards = some []) (tw : Takes X W) (ha : PA X (e :: es) t) (hkw : PK X kws tk) (hg : Gl X x := by rfl)
    (hall : (backToKw pos (keywordEach kws X.env)).all (·.1.isSome) = true := by rfl) (hks : (backToKw pos (keywordEach kws X.env)).filterMap (·.1) = ks := by rfl) (hdb : (x == ("__debug__" : Str)) = false := by decide)
    (he : starEach (e :: es) X.env = (false, eval e X.env) :: starEach es X.env := by rfl)
    (hpl : ((backTo pos (starEach (e :: es) X.env)).any (·.1) || (backToKw pos (keywordEach kws X.env)).any (·.1.isNone)) = false := by rfl) :
    PE X (.Call (.Name x p) (e :: es) kws pos) (tCalG n ks.length sp W t tk) := by
  refine ⟨fun pins s σ H Q I h => ?_⟩
  obtain ⟨f, hm, hk, F⟩ := G.ex
  refine wpAny_Call_Name_kw (ld_glob I hg hm ?_ hdb)
  refine PySem.W.callWith_KW (h₀ := X.base) I.ok.mod.kin hk hall (thn (ha.run pos pins s σ H _ I h) fun us s1 ⟨vs, H1, I1, r, q⟩ => ?_) hpl he
  refine thn (hkw.run pos pins s1 σ H1 _ I1 q) fun ws s2 ⟨zs, H2, I2, rz, l1, l2, q2⟩ => ⟨I2.kIn, ?_⟩
  rw [hks]
  exact wpAny_call (run_calG F hr hgd tw I2 r rz l1 l2 q2)
end

/-! ### repr -/
mutual
theorem Dp.noDict {K : PySem.W.Frag} {H : Hp} : ∀ (d : PyData) (v : V), Dp K H v d → d.hasDict = false
  | .none, _, _ => rfl
  | .bool _, _, _ => rfl
  | .int _, _, _ => rfl
  | .str _, _, _ => rfl
  | .list ds, _, h => by
    cases h with
    | lst _ q => exact Dp.noDictAll ds _ q
  | .tuple ds, _, h => by
    cases h with
    | tup _ q => exact Dp.noDictAll ds _ q
  | .dict _, _, h => by cases h
theorem Dp.noDictAll {K : PySem.W.Frag} {H : Hp} : ∀ (ds : List PyData) (vs : List V), DpAll K H vs ds → PyData.hasDictAll ds = false
  | [], _, _ => rfl
  | d :: ds, _, h => by
    cases h with
    | cons h1 h2 =>
      show (d.hasDict || PyData.hasDictAll ds) = false
      rw [Dp.noDict d _ h1, Dp.noDictAll ds _ h2]
      rfl
end
def rRepr (K : PySem.W.Frag) : List V → Hp → VK → Prop := fun xs H Q => ∃ v d, xs = [v] ∧ Dp K H v d ∧ d.showable = true ∧ d.depth ≤ 100 ∧ d.shown.length ≤ sizeLine ∧ Q (.str d.shown) H
theorem ka_repr {X : Cx} (K : PySem.W.Frag) (hgd : X.A.guards = some []) (hu : X.A.units + 120 < cLine) (hK : X.K = K := by rfl) : CallR X (.builtin "repr") (rRepr K) := by
  subst hK
  intro pins s σ H xs us Q I r h
  obtain ⟨v, d, rfl, hd, hs, hdp, hl, q⟩ := h
  cases r with
  | cons rx rr =>
    cases rr
    have kept : ∀ h' tk, (∀ b o, s.heap.get? b = some o → h'.get? b = some o) → Inv X pins σ H { s with heap := h', toks := tk } := fun h' tk k => I.kept (t' := tk) k
    have refs : ∀ {a : Addr} {u : Value}, v = .ref a → RelV v u → wpAny (model X.prog X.w) X.A (call (.builtin "repr") [u]) (EP X pins σ Q) X.xe s := fun {a u} ev ru => by
      subst ev
      obtain ⟨as, rd⟩ := Dp.reads I d _ u hd ru
      obtain rfl : u = Value.ref a := ru
      exact repr_of_reads' rd hs (fun z => absurd z (by rw [Dp.noDict d _ hd]; exact Bool.false_ne_true)) hgd (by omega) (fun b o e => e) (fun h' u tk k => ⟨.str d.shown, H, kept h' tk k, ⟨_, rfl⟩, q⟩) hl
    cases hd with
    | non =>
      cases rx
      exact P.repr_of_none ⟨.str _, H, I.kept (t' := s.toks + 1) (fun _ _ e => e), ⟨_, rfl⟩, q⟩
    | bl b =>
      cases rx
      exact P.repr_of_bool ⟨.str _, H, I.kept (t' := s.toks + 1) (fun _ _ e => e), ⟨_, rfl⟩, q⟩
    | int i =>
      obtain ⟨t, rfl⟩ := rx
      exact P.repr_of_int (of_decide_eq_true hs) ⟨.str _, H, I.kept (t' := s.toks + 1) (fun _ _ e => e), ⟨_, rfl⟩, q⟩
    | str x =>
      obtain ⟨t, rfl⟩ := rx
      exact P.repr_of_str ⟨.str _, H, I.kept (t' := s.toks + 1) (fun _ _ e => e), ⟨_, rfl⟩, q⟩ hl
    | lst _ _ => exact refs rfl rx
    | tup _ _ => exact refs rfl rx
end Sw

set_option Elab.async false
set_option linter.all false
set_option maxRecDepth 100000
set_option maxHeartbeats 4000000
namespace Sw
open PySem PySem.Spec PyProof.Rows L2
/-! ### calls with a starred argument and keywords -/
theorem callWith_SK {M : Model} {A : Around} {E : Value → Shared → Prop} {s : Shared} {f : Value} {first : List Value} {pos : Pos} {Q : Value → Shared → Prop} {P : Heap → Prop} {args : List (Bool × Sem Value)} {keywords : List (Option Str × Sem Value)} (hst : (args.any (·.1) || keywords.any (·.1.isNone)) = true)
    (hk : ∀ h, P h → ∃ k, (k = Keeper.frame ∨ k = Keeper.machine ∨ k = Keeper.boundFrame) ∧ PySem.W.Looks M h (keeperOf f) k)
    (h : wpAny M A (evalArgs f true args keywords) (fun a s₁ => P s₁.heap ∧ wpAny M A (call f (first ++ a.pos) a.kw) Q E s₁) E s) : wpAny M A (callWith pos f first args keywords) Q E s := by
  unfold callWith
  refine wpAny_bind (wpAny_holding (wpAny_mono h (fun a s₁ h₁ => wpAny_bind (wpAny_standAt ?_)) fun _ _ x => x))
  obtain ⟨k, hk', L⟩ := hk _ h₁.1
  simp only [hst]
  refine wpAny_bind (L.here ?_)
  have tail : ∀ {t : Sem Value}, wpAny M A t Q E s₁ → wpAny M A (t >>= fun r => holding [r] point >>= fun _ => pure r) Q E s₁ :=
    fun ht => wpAny_bind (wpAny_mono ht (fun r s₂ hr => wpAny_bind (wpAny_holding (wpAny_point (wpAny_pure hr)))) fun _ _ x => x)
  have marked (mk : Value) : wpAny M A (callMarked mk f (first ++ a.pos) a.kw) Q E s₁ := by unfold callMarked; exact Calls.wpAny_keep h₁.2
  rcases hk' with rfl | rfl | rfl <;> dsimp only <;> first | exact tail (marked _) | exact tail (wpAny_operating h₁.2)
/-- a callee of n positional values at least, keywords ks -/
def CalV (P : Program) (w : World) (K : PySem.W.Frag) (mg : Str → Option Value) (base : Heap) (k : Nat) (f : Addr) (n : Nat) (ks : List Str) (sp : SpC) : Prop :=
  ∀ (A : Around) (outer : List Env) (s : Shared) (H : Hp) (us ws : List Value) (vs zs : List V) (Q : VK) (E : XK), Room k A → Env0 P w K mg base A outer s H → Vals vs us → Vals zs ws → n ≤ vs.length → zs.length = ks.length → sp vs zs H Q E →
    codeAny (model P w) A (.call (.ref f) ⟨us, ks.zip ws⟩) (CR (L2.CX P w) outer P w H s Q E) s
structure GMkV (P : Program) (w : World) (K : PySem.W.Frag) (mg : Str → Option Value) (base : Heap) (k : Nat) (x : Str) (C : Addr) (n : Nat) (ks : List Str) (sp : SpC) : Prop where
  at_ : mg x = some (.ref C)
  ex : ∃ f, Mk K C f ∧ CalV P w K mg base k f (n + 1) ks sp
section
variable {X : Cx} {k n : Nat} {f C : Addr} {ks : List Str} {sp : SpC} {W : WX} {x : Str} {p pos : Pos} {e : Expr} {es : List Expr} {kws : List Keyword} {t tk : TA}
theorem run_mkV {pins : List (Addr × Obj)} {σ : L2.St} {H : Hp} {s : Shared} {Q : VK} {us ws : List Value} {vs zs : List V} (M : Mk X.K C f) (F : CalV X.prog X.w X.K X.mg X.base k f (n + 1) ks sp) (hr : Room (k + 1) X.A) (tw : Takes X W)
    (I : Inv X pins σ H s) (r : Vals vs us) (rz : Vals zs ws) (l1 : n ≤ vs.length) (l2 : zs.length = ks.length)
    (h : ∀ x dx, H x = none → H dx = none → dx ≠ x → sp (.ref x :: vs) zs (upd (upd H dx (.own x)) x (.ins C dx [])) (fun v H2 => v = .non ∧ Q (.ref x) H2) (WE W σ)) :
    wpAny (model X.prog X.w) X.A (call (.ref C) us (ks.zip ws)) (EP X pins σ Q) X.xe s := by
  have hq := h (s.heap.objs.size + 1) s.heap.objs.size (I.hok.fresh (Nat.le_succ _)) (I.hok.fresh (Nat.le_refl _)) (Nat.ne_of_lt (Nat.lt_succ_self _))
  have I2 := Inv.made (C := C) I
  have r1 : Vals (V.ref (s.heap.objs.size + 1) :: vs) (Value.ref (s.heap.objs.size + 1) :: us) := .cons rfl r
  have n1 : n + 1 ≤ (V.ref (s.heap.objs.size + 1) :: vs).length := by
    rw [List.length_cons]
    omega
  refine wpAny_call (make_map (f := f) I.kIn M.makes M.init (beq_iff_eq.mp M.fn) (codeAny_mono (F _ X.stack _ _ (Value.ref (s.heap.objs.size + 1) :: us) ws _ _ _ (WE W σ) (hr.make C us (ks.zip ws))
    (I2.env0.make C us (ks.zip ws)) r1 rz n1 l2 hq) fun r s' hq' => ?_))
  cases r with
  | error e => exact passAt tw σ pins _ _ e s' I2 hq'
  | ok fl =>
    cases fl with
    | ret u =>
      obtain ⟨v, H', I3, rv, ev, q3⟩ := I2.after hq'
      subst ev
      exact ⟨rv, ⟨V.ref (s.heap.objs.size + 1), H', I3, rfl, q3⟩⟩
    | next => exact False.elim hq'
    | brk => exact False.elim hq'
    | cont => exact False.elim hq'
/-- C(e, *y, .., k = v) -/
def tMkV (C : Addr) (n m : Nat) (sp : SpC) (W : WX) (t tk : TA) : TE := fun σ H Q => t σ H fun vs H1 => tk σ H1 fun zs H2 => n ≤ vs.length ∧ zs.length = m ∧ ∀ x dx, H2 x = none → H2 dx = none → dx ≠ x →
  sp (.ref x :: vs) zs (upd (upd H2 dx (.own x)) x (.ins C dx [])) (fun v H3 => v = .non ∧ Q (.ref x) H3) (WE W σ)
theorem pe_makeV (G : GMkV X.prog X.w X.K X.mg X.base k x C n ks sp) (hr : Room (k + 1) X.A) (tw : Takes X W) (ha : PA X (e :: es) t) (hkw : PK X kws tk) (hg : Gl X x := by rfl)
    (hall : (backToKw pos (keywordEach kws X.env)).all (·.1.isSome) = true := by rfl) (hks : (backToKw pos (keywordEach kws X.env)).filterMap (·.1) = ks := by rfl) (hdb : (x == ("__debug__" : Str)) = false := by decide)
    (he : starEach (e :: es) X.env = (false, eval e X.env) :: starEach es X.env := by rfl) (hpl : ((backTo pos (starEach (e :: es) X.env)).any (·.1) || (backToKw pos (keywordEach kws X.env)).any (·.1.isNone)) = true := by rfl) :
    PE X (.Call (.Name x p) (e :: es) kws pos) (tMkV C n ks.length sp W t tk) := by
  refine ⟨fun pins s σ H Q I h => ?_⟩
  obtain ⟨f, M, F⟩ := G.ex
  refine wpAny_Call_Name_kw (ld_glob I hg G.at_ ?_ hdb)
  refine callWith_SK (first := []) hpl (PySem.W.keeps_K M.kp) (PyProof.Rows.evalArgs_kw2 hall (thn (ha.run pos pins s σ H _ I h) fun us s1 ⟨vs, H1, I1, r, q⟩ => ?_) he)
  refine thn (hkw.run pos pins s1 σ H1 _ I1 q) fun ws s2 ⟨zs, H2, I2, rz, l1, l2, q2⟩ => ⟨I2.kIn, ?_⟩
  rw [hks]
  exact run_mkV M F hr tw I2 r rz l1 l2 q2
/-- C(*y) -/
def tMkV1 (K : PySem.W.Frag) (C : Addr) (n : Nat) (sp : SpC) (W : WX) (te : TE) : TE := fun σ H Q => te σ H fun y H1 => ∃ a xs, y = V.ref a ∧ (SqT K H1 a xs ∨ SqL K H1 a xs) ∧ n ≤ xs.length ∧ ∀ x dx, H1 x = none → H1 dx = none → dx ≠ x →
  sp (.ref x :: xs) [] (upd (upd H1 dx (.own x)) x (.ins C dx [])) (fun v H3 => v = .non ∧ Q (.ref x) H3) (WE W σ)
theorem pe_makeV1 {te : TE} {sp_ : Pos} (G : GMkV X.prog X.w X.K X.mg X.base k x C n [] sp) (hr : Room (k + 1) X.A) (tw : Takes X W) (he : PE X e te) (hg : Gl X x := by rfl) (hdb : (x == ("__debug__" : Str)) = false := by decide)
    (hst : starEach [.Starred e sp_] X.env = [(true, eval e X.env)] := by rfl) : PE X (.Call (.Name x p) [.Starred e sp_] [] pos) (tMkV1 X.K C n sp W te) := by
  refine ⟨fun pins s σ H Q I h => ?_⟩
  obtain ⟨f, M, F⟩ := G.ex
  refine wpAny_Call_Name_kw (ld_glob I hg G.at_ ?_ hdb)
  refine PySem.W.callWith_S (h₀ := X.base) I.ok.mod.kin M.kp (thn (he.run pins s σ H _ I h) fun v s1 ⟨y, H1, I1, ry, a, xs, ey, hxs, l1, q⟩ => ?_) hst
  subst ey
  obtain rfl : v = Value.ref a := ry
  refine StX.star_any I1 hxs fun us s2 I2 rv => ⟨I2.kIn, ?_⟩
  have z := run_mkV (ks := []) (ws := []) (zs := []) M F hr tw I2 rv .nil l1 rfl q
  rw [List.zip_nil_left] at z
  exact z
end
/-! ### defs with a star parameter (and keyword-only ones, all given) -/
section
variable {P : Program} {w : World} {K : PySem.W.Frag} {mg : Str → Option Value} {base : Heap} {k n : Nat} {f : Addr} {name qual : Str} {params : Arguments} {body : List Stmt} {scope : Scope} {dV kV doc pm cdv ct oc : Value} {an od : Option Addr} {osl : Array (Option Value)} {N ps ks : List Str} {sp : Sp}
/-- what it binds: the positional ones, the tuple of the rest, the keyword-only ones, in the order g -/
theorem fn_starK (g : {α : Type} → List α → α → List α → List α) (grel : ∀ {ws : List V} {us : List Value} {t : V} {u : Value} {zs : List V} {vs : List Value}, Vals ws us → RelV t u → Vals zs vs → Vals (g ws t zs) (g us u vs)) (glen : ∀ {ws : List V} {t : V} {zs : List V}, ws.length = n → zs.length = ks.length → (g ws t zs).length = ps.length)
    (lk : K.lookup f = some ⟨oc, od, .func (PySem.W.fnOf name qual params body scope dV kV doc pm an cdv ct), osl⟩) (hcd : PySem.W.codeIn K cdv qual = true) (S : FnScope N ps scope)
    (hb : ∀ us rest ws : List Value, us.length = n → ws.length = ks.length → bindArgs (PySem.W.fnOf name qual params body scope dV kV doc pm an cdv ct) ⟨us ++ rest, ks.zip ws⟩ = (newTuple rest >>= fun t => pure (ps.zip (g us t ws))))
    (hbody : ∀ (A : Around) (outer : List Env) (s : Shared) (H : Hp) (vs : List V) (Q : VK) (E : XK), Room k (A.deeper (envOfC qual scope s.heap.objs.size f cdv)) →
      Takes (cxOf (L2.CX P w) P w K mg base N qual scope f cdv A outer s H E) (fun cls d _ H => E cls d H) →
      PassesOwn (model P w) (A.deeper (envOfC qual scope s.heap.objs.size f cdv)) (envOfC qual scope s.heap.objs.size f cdv) (cxOf (L2.CX P w) P w K mg base N qual scope f cdv A outer s H E).xe → sp vs H Q E →
      ∃ t, PSs (cxOf (L2.CX P w) P w K mg base N qual scope f cdv A outer s H E) body t ∧ t { nx := fun _ H' => Q .non H', rt := Q } (L2.start N vs) H) :
    CalV P w K mg base (k + 1) f n ks (fun vs zs H Q E => ∃ ws rest, vs = ws ++ rest ∧ ws.length = n ∧ rest.length ≤ sizeLine ∧ ∀ p, H p = none → sp (g ws (V.ref p) zs) (upd H p (.tup rest)) Q E) := by
  intro A outer s H us ws0 vs zs Q E hr e0 r rz _ l2 hsp
  obtain ⟨ws, rest, ev, hl, hz, hq⟩ := hsp
  subst ev
  obtain ⟨u1, u2, eu, r1, r2⟩ := StX.vals_split r
  subst eu
  have hn : H s.heap.objs.size = Option.none := e0.hok.fresh (Nat.le_refl _)
  have hl1 : u1.length = n := by rw [← r1.length]; exact hl
  have hl2 : u2.length ≤ sizeLine := by rw [← r2.length]; exact hz
  refine StX.run_bnd lk hcd S hr e0 (G := fun xs H2 => ∃ p, H p = Option.none ∧ xs = g ws (V.ref p) zs ∧ H2 = upd H p (.tup rest)) (fun A' Ex Q' h => ?_) fun s2 H2 xs ⟨p, hp, ex, eH⟩ hr' => ?_
  · rw [hb u1 u2 ws0 hl1 (rz.length.symm.trans l2)]
    refine wpAny_bind (wpAny_newTuple (wpAny_pure ?_) hl2)
    have new : ObjOk P w (upd H s.heap.objs.size (.tup rest)) (s.heap.push ({ cls := .type "tuple", data := .seq u2.toArray } : Obj)) s.heap.objs.size (.tup rest) := ⟨hz, u2, r2, ⟨_, Heap.get?_push_size _ rfl, rfl, _, rfl⟩⟩
    have un := StX.un_laid (fs := frs outer) (s := s) (o := ({ cls := .type "tuple", data := .seq u2.toArray } : Obj)) (u := .tup rest) hn
    exact h _ _ (g ws (V.ref s.heap.objs.size) zs) (g u1 (Value.ref s.heap.objs.size) ws0) (StX.env0_laid e0 new) un rfl (fun e s' => StX.cxUp outer s H _ _ E e s' un (fun b o q => Heap.get?_push_of_some _ q) rfl) (grel r1 rfl rz) (glen hl l2) ⟨_, hn, rfl, rfl⟩
  · subst ex eH
    exact hbody A outer s2 _ _ Q E hr' (takes_of rfl rfl rfl rfl) (passes_of (X := cxOf (L2.CX P w) P w K mg base N qual scope f cdv A outer s2 (upd H p (.tup rest)) E) rfl) (hq p hp)
end
end Sw

set_option Elab.async false
set_option linter.all false
set_option maxRecDepth 100000
set_option maxHeartbeats 4000000
namespace Sw
open PySem PySem.Spec PyProof.Rows L2
/-! ### list(d.values()) -/
def tLVals (td : TE) : TE := fun σ H Q => td σ H fun x H1 => ∃ d kvs, x = .ref d ∧ H1 d = some (.dK kvs) ∧ NewO (.lst (kvs.map (·.2))) H1 Q
section
variable {X : Cx} {o : Expr} {td : TE} {p pos apos cpos : Pos}
theorem pe_listVals (hc : X.calm = true) (hg : Gl X "list") (hm : X.mg "list" = none) (hv : bootBuiltins "list" = some (.type "list")) (hd : PE X o td) (hbase : attributeBase o "values" X.env (eval o X.env) = eval o X.env := by rfl) (hline : (apos.endLine == cpos.line) = true := by rfl)
    (he : starEach [.Call (.Attribute o "values" apos) [] [] cpos] X.env = (false, eval (.Call (.Attribute o "values" apos) [] [] cpos) X.env) :: starEach [] X.env := by rfl) (hpl : (backTo pos (starEach [] X.env)).any (·.1) = false := by rfl) :
    PE X (.Call (.Name "list" p) [.Call (.Attribute o "values" apos) [] [] cpos] [] pos) (tLVals td) := by
  refine ⟨fun pins s σ H Q I h => ?_⟩
  refine wpAny_Call_Name_kw (ld_blt I hg hm hv ?_ (by decide) (by decide))
  refine PyProof.Rows.callWith_type1 (args_cons ?_ he) he hpl
  refine wpAny_Call_method (T := "dict") (id := "dict.values") hbase rfl hline F.plainAttrs_dict F.slot_dict_values F.type_dict_values (thn (hd.run pins s σ H _ I h) fun u s1 ⟨x, H1, I1, rx, d, kvs, ex, ea, q⟩ => ?_)
  subst ex
  obtain rfl : u = Value.ref d := rx
  have hx : ObjOk X.prog X.w H1 s1.heap d (.dK kvs) := I1.hok d _ ea
  obtain ⟨hz, hs, vs, kv, hD⟩ := hx
  have hl : kvs.length = vs.length := Paired.length kv
  refine ⟨hD.typeIs, hD.mapOf.noDict, ?_⟩
  have I2 : Inv X pins σ H1 { s1 with heap := s1.heap.push { cls := .type "dict_values", data := .fields #[.ref d] } } := I1.kept (t' := s1.toks) fun b ob q => Heap.get?_push_of_some _ q
  have hD2 : (s1.heap.push { cls := .type "dict_values", data := .fields #[.ref d] }).DictOf (mixKind X.prog X.w) d vs := by
    have hx2 : ObjOk X.prog X.w H1 (s1.heap.push { cls := .type "dict_values", data := .fields #[.ref d] }) d (.dK kvs) := I2.hok d _ ea
    have hx1 : ObjOk X.prog X.w H1 s1.heap d (.dK kvs) := I1.hok d _ ea
    obtain ⟨od, es, ep, e1, e2⟩ := hD
    exact ⟨od, es, ep, Heap.get?_push_of_some _ e1, e2⟩
  have rvals : Vals (kvs.map (·.2)) (vs.map (·.2)) := by
    clear h q hD hD2 hl I2 I1 hz hs ea
    induction kv with
    | nil => exact .nil
    | cons r _ ih => exact .cons r.2 ih
  have fin : wpAny (model X.prog X.w) X.A (spliced (backTo pos (starEach [] X.env))) (fun us s2 => wpAny (model X.prog X.w) X.A (call (.type "list") (Value.ref s1.heap.objs.size :: us)) (EP X pins σ Q) X.xe s2) X.xe { s1 with heap := s1.heap.push { cls := .type "dict_values", data := .fields #[.ref d] } } := by
    refine args_nil ?_
    obtain ⟨ep, hat⟩ := hD2.dictAt
    refine PySem.W.kdl_call (PySem.W.kdl_values (knd := mixKind X.prog X.w) (kvs := vs) (ep := ep)) (I.ok.hd hc) ⟨⟨_, Heap.get?_push_size _ rfl, rfl, rfl⟩, hat⟩ (by rw [← hl]; exact hz) fun h' tk acc c' kp hB hacc => ?_
    have eacc : acc.toList = vs.map (·.2) := PySem.W.kdl_vals_eq acc.toList (by rw [Array.length_toList]; exact hacc.1) fun j v e => hacc.2 j v (by rw [← Array.getElem?_toList]; exact e)
    have hn : H1 (s1.heap.objs.size + 1) = none := I1.hok.fresh (Nat.le_succ _)
    have sz : (s1.heap.push ({ cls := .type "dict_values", data := .fields #[.ref d] } : Obj)).objs.size = s1.heap.objs.size + 1 := Heap.size_push _ _
    have I3 : Inv X pins σ (upd H1 (s1.heap.objs.size + 1) (.lst (kvs.map (·.2)))) { s1 with heap := h', toks := tk } := by
      refine I1.laid (t' := tk) (fun b ob e => kp b ob (Heap.get?_push_of_some _ e)) (Nat.le_succ _) ⟨by rw [List.length_map]; exact hz, vs.map (·.2), c', rvals, ?_⟩
      show h'.get? (s1.heap.objs.size + 1) = _
      rw [← eacc, Array.toArray_toList]
      have := hB
      rw [sz] at this
      exact this
    show EP X pins σ Q (.ref (s1.heap.push ({ cls := .type "dict_values", data := .fields #[.ref d] } : Obj)).objs.size) _
    rw [sz]
    exact ⟨.ref (s1.heap.objs.size + 1), _, I3, rfl, q _ hn⟩
  show wpAny _ _ (callWith cpos (.builtin "dict.values") [.ref d] [] []) _ X.xe s1
  exact method_meetsIn F.slot_dict_values F.entry_dict_values rfl (PySem.evalArgs_none ⟨rfl, hD.typeIs, F.args_dict_values_1 _, _, meets_dict_values (mixKind X.prog X.w) d hs, ⟨vs, hD⟩, fin⟩)
end

/-! ### dicts by text: in, not in, == {} -/
def rInDk : R2 := fun x y H Q => ∃ a o, y = .ref a ∧ DGet H a x o ∧ Q (.bl o.isSome) H
def rNiDk : R2 := fun x y H Q => ∃ a o, y = .ref a ∧ DGet H a x o ∧ Q (.bl (!o.isSome)) H
def rEqDE : R2 := fun x y H Q => ∃ a b kvs, x = .ref a ∧ y = .ref b ∧ H a = some (.dK kvs) ∧ H b = some (.dK []) ∧ Q (.bl kvs.isEmpty) H
section
variable {X : Cx}
theorem op_inDk (hu : X.A.units + 1 < cLine) : OpR X (compareOp .In) rInDk := by
  intro pins s σ H x y v u Q I rx ry h
  obtain ⟨a, o, rfl, g, q⟩ := h
  obtain rfl : u = Value.ref a := ry
  exact d_in hu I g rx fun s3 I3 => ⟨.bl o.isSome, H, I3, rfl, q⟩
theorem op_niDk (hu : X.A.units + 1 < cLine) : OpR X (compareOp .NotIn) rNiDk := by
  intro pins s σ H x y v u Q I rx ry h
  obtain ⟨a, o, rfl, g, q⟩ := h
  obtain rfl : u = Value.ref a := ry
  exact d_notIn hu I g rx fun s3 I3 => ⟨.bl (!o.isSome), H, I3, rfl, q⟩
theorem op_eqDE (hu : X.A.units < cLine) : OpR X (compareOp .Eq) rEqDE := by
  intro pins s σ H x y v u Q I rx ry h
  obtain ⟨a, b, kvs, rfl, rfl, ea, eb, q⟩ := h
  obtain rfl : v = Value.ref a := rx
  obtain rfl : u = Value.ref b := ry
  obtain ⟨_, ya, va, ra, da⟩ := (show ObjOk X.prog X.w H s.heap a (.dK kvs) from I.hok a _ ea)
  obtain ⟨_, yb, vb, rb, db⟩ := (show ObjOk X.prog X.w H s.heap b (.dK []) from I.hok b _ eb)
  cases rb
  refine PySem.W.keq_eq (knd := mixKind X.prog X.w) (r := true) ya yb da db hu (fun e => ?_) (fin_bl I q ?_)
  · rw [List.length_eq_zero_iff.mp e]
    exact .nil
  · have hl := Paired.length ra
    cases kvs with
    | nil =>
      cases ra
      rfl
    | cons p r =>
      cases ra
      rfl
end
/-! ### their steps -/
section
variable {G H : Hp} {R : Res} {Q : VK} {a b : Addr} {kvs : List (Key × V)} {z : Str} {σ : L2.St} {td ty : TE}
theorem g_inDk (w : Wd G R H) (h : G a = some (.dK kvs)) (k : Q (.bl (valV kvs (.inr z)).isSome) H) : rInDk (.str z) (.ref a) H Q := ⟨a, _, rfl, DGet.k (k := .inr z) (w.get h), k⟩
theorem g_niDk (w : Wd G R H) (h : G a = some (.dK kvs)) (k : Q (.bl (!(valV kvs (.inr z)).isSome)) H) : rNiDk (.str z) (.ref a) H Q := ⟨a, _, rfl, DGet.k (k := .inr z) (w.get h), k⟩
theorem g_eqDE (w : Wd G R H) (h : G a = some (.dK kvs)) (h2 : G b = some (.dK [])) (k : Q (.bl kvs.isEmpty) H) : rEqDE (.ref a) (.ref b) H Q := ⟨a, b, kvs, rfl, rfl, w.get h, w.get h2, k⟩
theorem g_dget (k : td σ H fun x H1 => ty σ H1 fun y H2 => ∃ a v, x = .ref a ∧ DGet H2 a y (some v) ∧ Q v H2) : tDGet td ty σ H Q := k
theorem g_dgetE {P : V → Prop} {v : V} (w : Wd G R H) (h : G a = some (.dK kvs)) (hv : valV kvs (.inr z) = some v) (k : P v) : ∃ a' v', V.ref a = .ref a' ∧ DGet H a' (.str z) (some v') ∧ P v' := ⟨a, v, rfl, by rw [← hv]; exact DGet.k (k := .inr z) (w.get h), k⟩
theorem g_lvals (k : td σ H fun x H1 => ∃ d kvs, x = .ref d ∧ H1 d = some (.dK kvs) ∧ NewO (.lst (kvs.map (·.2))) H1 Q) : tLVals td σ H Q := k
end
end Sw

set_option Elab.async false
set_option linter.all false
set_option maxRecDepth 100000
set_option maxHeartbeats 4000000
namespace PySem.HandSPX
namespace KW
open PySem PySem.Spec PySem.Calls PyProof.Rows
section
variable {prog : Program} {w : World} {M : Model} {A : Around} {E : Value → Shared → Prop} {R : Result → Shared → Prop} {h : Heap} {g : Array GenState} {d : Drawn} {t : Nat} {os : OsState}
variable {nm q : Str} {C N : Addr} {bs bm bmB : List Value} {hdct : Bool} {sn : List Str} {sub : List Value} {ab : Bool} {col : Option Bool} {dd : Option Addr} {k0 k1 k2 k3 k5 : Option Value} {B newId initId : String}
theorem check_new_own (F : ExcBaseFacts B newId initId bmB) (hT : ∀ X : String, bm.contains (.type X) = bmB.contains (.type X)) {rest : List Value} {kw : List (Str × Value)} {Q : Unit → Shared → Prop}
    (hC : h.get? C = some (excClassObj nm q C N bs bm hdct sn sub ab col dd k0 k1 k2 k3 k5 newId)) (hq : Q () ⟨h, g, d, t, os⟩) : wpAny M A (checkBuiltinCall newId ⟨.ref C :: rest, kw⟩) Q E ⟨h, g, d, t, os⟩ := by
  have hcont : (Value.ref C :: bm).contains (.type B) = true := by rw [List.contains_cons, hT, F.hasB, Bool.or_true]
  have hstar := F.noStar
  simp only [checkBuiltinCall, F.newKind, F.newSplit, F.newRow]
  repeat (first | refine wpAny_loadPart_at hC ?_ | (refine wpAny_isSubtype_exc hC ?_; rw [hcont]) | refine wpAny_staticBase_exc hC ?_ | refine wpAny_madeBy_exc hC ?_ | simp only [bne_self_eq_false, Bool.false_eq_true, if_false] | wp_step)
  exact hq
theorem new_own (F : ExcBaseFacts B newId initId bmB) (hT : ∀ X : String, bm.contains (.type X) = bmB.contains (.type X)) {rest : List Value} {kw : List (Str × Value)}
    (hC : h.get? C = some (excClassObj nm q C N bs bm hdct sn sub ab col dd k0 k1 k2 k3 k5 newId))
    (hq : R (.ok (.ret (.ref (h.objs.size + 1)))) ⟨(h.push { cls := .type "tuple", data := .seq rest.toArray }).push
      { cls := .ref C, data := .fields #[.ref h.objs.size, .none, .none, .none, .bool false, .none] }, g, d, t, os⟩) (hrest : rest.length ≤ sizeLine) :
    codeAny (model prog w) A (.builtin newId ⟨.ref C :: rest, kw⟩) R ⟨h, g, d, t, os⟩ := by
  have hends := F.ends
  have hcB : (Value.ref C :: bm).contains (.type B) = true := by rw [List.contains_cons, hT, F.hasB, Bool.or_true]
  have hcA : (Value.ref C :: bm).contains (.type "AttributeError") = false := by rw [List.contains_cons, hT, F.noAttr]; rfl
  have hcN : (Value.ref C :: bm).contains (.type "NameError") = false := by rw [List.contains_cons, hT, F.noName]; rfl
  refine codeAny_builtinAt F.entry ?_
  unfold Builtin.«BaseException.__new__»
  refine wpAt_bind ?_
  show wpAt _ _ _ (stack >>= _) _ _ _
  refine wpAt_bind (wpAt_stack fun p below => wpAt_of_wpAny ?_)
  wp_walk
  refine wpAt_of_wpAny ?_
  rw [F.owner]
  repeat (first | with_reducible refine wpAny_madeHere_exc F.canon hC ?_ | with_reducible refine wpAny_loadPart_at hC ?_ | (with_reducible refine wpAny_isSubtype_exc hC ?_; first | rw [hcB] | rw [hcA] | rw [hcN]) | wp_step)
  show R _ _
  rw [Heap.size_push]
  exact hq

theorem type_call_own (F : ExcBaseFacts B newId initId bmB) (hT : ∀ X : String, bm.contains (.type X) = bmB.contains (.type X)) {rest : List Value} {kw : List (Str × Value)} {fI : Addr} {Q : Fin → Shared → Prop}
    (hC : h.get? C = some (excClassObj nm q C N bs bm hdct sn sub ab col dd k0 k1 k2 k3 k5 newId))
    (hi : W.Looks (model prog w) h (typeLookup (.ref C) "__init__") (some (.ref fI))) (hb : ∀ self, W.Looks (model prog w) h (bindSpecial (.ref fI) self) (.ref fI, [self])) (hrest : rest.length ≤ sizeLine)
    (hq : codeAny (model prog w) A (.call (.ref fI) ⟨.ref (h.objs.size + 1) :: rest, kw⟩)
      (fun r s' => match r with | .ok (.ret v) => v = .none ∧ Q (.done (.ret (.ref (h.objs.size + 1)))) s' | .ok _ => False | .error e => E e s')
      ⟨(h.push (W.kdv_tup rest)).push (excO C h.objs.size), g, d, t, os⟩) :
    wpAny (model prog w) A (Builtin.«type.__call__» ⟨.ref C :: rest, kw⟩) Q E ⟨h, g, d, t, os⟩ := by
  repeat (first | with_reducible refine wpAny_loadPart_at hC ?_ | with_reducible refine wpAny_madeBy_exc hC ?_ | wp_step)
  refine codeAny_call_builtin_code (Code.quiet_builtin _ F.quiet) (check_new_own F hT hC ?_)
  refine new_own F hT hC ?_ hrest
  show wpAny _ _ _ _ _ _
  have k : ∀ b o, h.get? b = some o → ((h.push (W.kdv_tup rest)).push (excO C h.objs.size)).get? b = some o := fun b o e => Heap.get?_push_of_some _ (Heap.get?_push_of_some _ e)
  have hC₁ := k _ _ hC
  have hget : ((h.push (W.kdv_tup rest)).push (excO C h.objs.size)).get? (h.objs.size + 1) = some (excO C h.objs.size) := by heap_get
  have hcC : (Value.ref C :: bm).contains (.ref C) = true := by simp
  have i1 := hi.keeps k
  have b1 := (hb (.ref (h.objs.size + 1))).keeps k
  unfold isInstance
  repeat (first | with_reducible refine wpAny_loadPart_at hget ?_ | (with_reducible refine wpAny_isSubtype_exc hC₁ ?_; rw [hcC]) | wp_step)
  show wpAny _ _ (typeLookup (.ref C) _) _ _ _
  refine i1.at ?_
  refine wpAny_holding (wpAny_bind (b1.at ?_))
  refine wpAny_bind (wpAny_call (codeAny_mono hq fun r s' z => ?_))
  rcases r with e | (v | _ | _ | _) <;> first | exact z | exact z.elim | skip
  obtain ⟨rfl, z⟩ := z
  first
    | exact wpAny_pure (wpAny_pure z)
    | (wp_walk; exact z)

theorem call_own (F : ExcBaseFacts B newId initId bmB) (hT : ∀ X : String, bm.contains (.type X) = bmB.contains (.type X)) {rest : List Value} {kw : List (Str × Value)} {fI : Addr}
    (hC : h.get? C = some (excClassObj nm q C N bs bm hdct sn sub ab col dd k0 k1 k2 k3 k5 newId))
    (hi : W.Looks (model prog w) h (typeLookup (.ref C) "__init__") (some (.ref fI))) (hb : ∀ self, W.Looks (model prog w) h (bindSpecial (.ref fI) self) (.ref fI, [self])) (hrest : rest.length ≤ sizeLine)
    (hq : codeAny (model prog w) (A.under (.builtin "type.__call__" ⟨.ref C :: rest, kw⟩)) (.call (.ref fI) ⟨.ref (h.objs.size + 1) :: rest, kw⟩) (W.InitBack (h.objs.size + 1) R)
      ⟨(h.push (W.kdv_tup rest)).push (excO C h.objs.size), g, d, t, os⟩) :
    codeAny (model prog w) A (.call (.ref C) ⟨rest, kw⟩) R ⟨h, g, d, t, os⟩ := by
  have f1 := tc_lookup
  have f2 := tc_bind (.ref C)
  have hTy : (⟨h, g, d, t, os⟩ : Shared).TypeIs (.ref C) "type" := ⟨_, hC, rfl⟩
  refine codeAny_of_tree ?_
  show wpAny _ _ (callAny (.ref C) _) _ _ _
  repeat (any_goals (first | assumption | with_reducible refine wpAny_loadPart_at hC ?_ | wp_step))
  refine ⟨rfl, ?_⟩
  refine codeAny_call_builtin_at (Code.quiet_builtin _ (by decide +kernel)) entry_typeCall (wpAny_check_type_call_sub hC (type_call_own F hT hC hi hb hrest ?_))
  refine codeAny_mono hq fun r s' z => ?_
  rcases r with e | (v | _ | _ | _) <;> exact z

end
end KW
end PySem.HandSPX

set_option Elab.async false
set_option linter.all false
set_option maxRecDepth 100000
set_option maxHeartbeats 4000000
namespace Sw
open PySem PySem.Spec PyProof.Rows L2
/-! ### an exception kept as a value -/
/-- an exception object of the class cls with the dict d stands at a (raised or not) -/
def exv (a : Addr) (cls : Value) (d : Option Addr) : HO := .ext fun h => ∃ (oe : Obj) (vs : Array Value), h.get? a = some oe ∧ Zc cls d oe ∧ oe.data = .fields vs
section
variable {X : Cx} {pins : List (Addr × Obj)} {σ : L2.St} {H : Hp} {s : Shared} {a : Addr} {oe : Obj} {cls : Value} {d : Option Addr}
theorem exv_ok {P : Program} {w : World} {h : Heap} (e : h.get? a = some oe) (z : Zc cls d oe) (hf : ∃ vs, oe.data = .fields vs) : ObjOk P w H h a (exv a cls d) := by
  obtain ⟨vs, hd⟩ := hf
  exact ⟨⟨oe, vs, e, z, hd⟩, ⟨_, e⟩, fun h1 h2 ⟨o, us, q1, q2, q3⟩ k => ⟨o, us, k _ q1, q2, q3⟩⟩
theorem exv_at {P : Program} {w : World} {h : Heap} (hok : HOk P w H h) (e : H a = some (exv a cls d)) : ∃ (oe : Obj) (vs : Array Value), h.get? a = some oe ∧ Zc cls d oe ∧ oe.data = .fields vs := by
  have x : ObjOk P w H h a (.ext fun h => ∃ (oe : Obj) (vs : Array Value), h.get? a = some oe ∧ Zc cls d oe ∧ oe.data = .fields vs) := hok a _ e
  exact x.1
/-- what was pinned in the suite stays pinned behind it -/
theorem unsuiteK {q : Addr × Obj} {pn' : List (Addr × Obj)} (I : Inv (X.suite a (q :: (X.pn ++ pins))) pn' σ H s) (ok : X.Ok) : Inv X (q :: pins) σ H s :=
  ⟨ok, I.os, I.bare, I.base, I.loc, I.cell, I.free, I.freeC, fun p hp => by
    refine I.pin p (List.mem_append_left _ ?_)
    rcases List.mem_append.mp hp with h | h
    · exact List.mem_cons_of_mem _ (List.mem_append_left _ h)
    · rcases List.mem_cons.mp h with h | h
      · rw [h]; exact List.mem_cons_self
      · exact List.mem_cons_of_mem _ (List.mem_append_right _ h), I.hok, I.len⟩
/-- an object new since the entry, pinned, is tracked -/
theorem Inv.track (I : Inv X ((a, oe) :: pins) σ H s) (z : Zc cls d oe) (hf : ∃ vs, oe.data = .fields vs) (hS : X.s_0.heap.get? a = none) (hx : X.ex = []) (hp : ∀ p ∈ X.pn ++ pins, p.1 ≠ a) : Inv X pins σ (upd H a (exv a cls d)) s := by
  obtain ⟨ha, na, nL, nF, nc⟩ := I.pin (a, oe) (List.mem_append_right _ List.mem_cons_self)
  refine ⟨I.ok, I.os, I.bare, ⟨I.base.keep, I.base.slot, fun b o e n hx' => ?_, I.base.there, fun b xs e => ?_, fun b o u e => ?_, fun b ps e => ?_⟩, I.loc, I.cell, ?_, fun x c e => ?_, fun p hp' => ?_, HOk.laidN I.hok (fun _ _ q => q) na (exv_ok ha z hf), I.len⟩
  · rw [upd_ne (fun q => by rw [q, hS] at e; cases e)]
    exact I.base.free b o e n hx'
  · have := I.base.tups b xs e
    rw [upd_ne (ne_of_none this na)]
    exact this
  · have := I.base.frzs b o u e
    rw [upd_ne (ne_of_none this na)]
    exact this
  · obtain ⟨more, q⟩ := I.base.tbls b ps e
    exact ⟨more, by rw [upd_ne (ne_of_none q na)]; exact q⟩
  · rw [upd_ne (Ne.symm nL)]
    exact I.free
  · rw [upd_ne (fun q => ?_)]
    · exact I.freeC x c e
    · obtain ⟨v, o, q1, q2⟩ := I.cell x c e
      rw [q, ha] at q1
      cases q1
      exact nc _ q2
  · obtain ⟨p1, p2, p3⟩ := I.pin p (List.mem_append.mpr ((List.mem_append.mp hp').imp id (List.mem_cons_of_mem _)))
    exact ⟨p1, by rw [upd_ne (hp p hp')]; exact p2, p3⟩
end
/-- what the clause 'except x as n' wishes of an exception of the body: slot i is n's, the exception is kept behind the suite -/
def wKeep (K : PySem.W.Frag) (c : Value) (i : Nat) (ts : Addr → Value → Option Addr → TS) (Wout : WX) (D : Ends) : WX := fun cls d σ H =>
  ∃ b, PySem.W.exmOne K cls c = some b ∧ (b = true → ∀ a, H a = none → ts a cls d { nx := fun σ' H' => D.nx (σ'.set i none) (upd H' a (exv a cls d)), rt := D.rt, bk := fun σ' H' => D.bk (σ'.set i none) (upd H' a (exv a cls d)), ct := fun σ' H' => D.ct (σ'.set i none) (upd H' a (exv a cls d)) } (σ.set i (some (.ref a))) H) ∧
    (b = false → Wout cls d σ H)
section
variable {X : Cx} {x n : Str} {c : Value} {i : Nat} {body suite : List Stmt} {b₀ : Stmt} {np pos pos' : Pos} {tb : WX → TS} {ts : Addr → Value → Option Addr → TS} {Wout : WX}
theorem ps_try_keep (hs : X.stack = X.env :: X.outer) (hf : X.env.frame = some X.env.locals) (hN : X.N.Nodup) (hi : X.N[i]? = some n) (hln : X.env.kindOf n = some .local) (hc : Names X x c) (tk : Takes X Wout) (hx0 : X.ex = [])
    (hb : ∀ (W : WX) (pn : List (Addr × Obj)) (xe : Value → Shared → Prop), Takes (X.tr pn xe) W → PassesOwn (model X.prog X.w) X.A X.env xe → PSs (X.tr pn xe) body (tb W))
    (hsu : ∀ (a : Addr) (oe : Obj) (cls : Value) (d : Option Addr) (pn : List (Addr × Obj)), Zc cls d oe → (∃ vs, oe.data = .fields vs) → PSs (X.suite a ((a, oe) :: pn)) (b₀ :: suite) (ts a cls d)) :
    PS X (.Try body [.ExceptHandler (some (.Name x np)) (some n) (b₀ :: suite) pos'] [] [] pos) (fun D σ H => tb (wKeep X.K c i ts Wout D) D σ H) := by
  refine ⟨fun pins s σ H D I h => ?_⟩
  have ok := I.ok
  have hfr : X.A.frames = some (X.env :: X.outer) := by rw [ok.frames, hs]
  have hloc : Loc X.env.scope n := .inl hln
  refine wpAny_Try_except ?_
  refine wpAny_mono ((hb (wKeep X.K c i ts Wout D) (X.pn ++ pins) (fun e s₁ => wpAny (model X.prog X.w) X.A (noteFrame e X.env) (fun _ s₂ => wpAny (model X.prog X.w) X.A (setFlight e none) (fun _ s₃ =>
    wpAny (model X.prog X.w) X.A (handleBy e X.env [.ExceptHandler (some (.Name x np)) (some n) (b₀ :: suite) pos']) (SP X pins D) X.xe s₃) X.xe s₂) X.xe s₁) (fun u s' xx => ?_) PassesOwn.looking).run [] s σ H D (I.toTry _) h) (fun f s1 hsp => ?_) (fun e s1 he => he)
  · -- the catch
    obtain ⟨a, B, sI, pins', σ', H', cls, d, rfl, J', nb, up, sky, na, os, ag, b, hb1, hyes, hno⟩ := xx
    have J : Inv X pins σ' H' sI := J'.ofTry ok
    have sky' : Sky B (X.env :: X.outer) a (Zc cls d) X.env.locals s'.heap := by rw [← hs]; exact sky
    show wpAny (model X.prog X.w) X.A (noteFrame (.ref a) X.env) _ _ _
    refine Sky.land Zc.steady hfr hf sky' fun h3 fl3 up3 => ?_
    have J3 : Inv X pins σ' H' { s' with heap := h3 } := J.landed nb fl3.1 (up.trans up3) os ag
    obtain ⟨oe3, vs3, he3, hz3, hd3⟩ := fl3.there
    have notFr : ∀ {h : Heap} {o : Obj} {vs : Array Value}, h.FunFrames B (X.env :: X.outer) → h.get? a = some o → o.data = .fields vs → a ∉ frs (X.env :: X.outer) := fun {h o vs} ff e dd hm => by
      obtain ⟨_, o', e', hnf⟩ := ff.mem hm
      rw [e] at e'; cases e'
      exact hnf _ dd
    have nfr := notFr fl3.2.2.1 he3 hd3
    have nL : a ≠ X.env.locals := fun z => nfr (List.mem_filterMap.mpr ⟨X.env, List.mem_cons_self, by rw [hf, z]⟩)
    have nF : a ∉ X.fs := fun hm => by
      obtain ⟨e, he, q⟩ := List.mem_filterMap.mp hm
      exact nfr (List.mem_filterMap.mpr ⟨e, List.mem_cons_of_mem _ he, q⟩)
    have nB : B.get? a = none := fl3.2.1
    have nfs : a ∉ frs X.stack := by rw [hs]; exact nfr
    have nI : sI.heap.get? a = none := by
      cases e : sI.heap.get? a with
      | none => rfl
      | some o => exact absurd (nb a o e nfs) (by rw [nB]; exact fun z => nomatch z)
    have nS : X.s_0.heap.get? a = none := by
      cases e : X.s_0.heap.get? a with
      | none => rfl
      | some o =>
        obtain ⟨o', e'⟩ := J.base.there a o e (by rw [hx0]; exact fun z => nomatch z)
        rw [nI] at e'
        cases e'
    have nP : ∀ p ∈ X.pn ++ pins, p.1 ≠ a := fun p hp z => by
      have := (J.pin p hp).1
      rw [z, nI] at this
      cases this
    have S3 := J3.suite he3 hd3 na nL nF
    refine wpAny_handleBy_cons (codeAny_handlers_test ?_) (by intro q; cases q)
    have LT : PySem.W.Looks (model X.prog X.w) h3 (typeOf (.ref a)) cls := fun A Q E s k q => wpAny_typeOf_ref (k _ _ he3) (by rw [hz3.1]; exact q)
    have LM := PySem.W.exm_one (M := model X.prog X.w) (J3.kIn) LT hb1
    have test : ∀ {Q : Value → Shared → Prop} {E : Value → Shared → Prop}, Q c { s' with heap := h3 } → wpAny (model X.prog X.w) (X.A.mark (some (.ref a))) (eval (.Name x np) X.env) Q E { s' with heap := h3 } := fun {Q E} q => by
      obtain ⟨hg, hdbg, hm | ⟨hm, hv, hnn⟩⟩ := hc
      · exact ld_glob (X := X.suite a ((a, oe3) :: (X.pn ++ pins))) S3 hg hm q hdbg
      · exact ld_blt (X := X.suite a ((a, oe3) :: (X.pn ++ pins))) S3 hg hm hv q hnn hdbg
    refine test (LM.here ?_)
    cases b with
    | true =>
      refine codeAny_handlers_suite_as ?_
      refine HandSPX.lands_againZ fl3 fun h4 fl4 up4 => ?_
      have J4 : Inv X pins σ' H' { s' with heap := h4 } := J.landed nb fl4.1 ((up.trans up3).trans up4) os ag
      obtain ⟨oe4, vs4, he4, hz4, hd4⟩ := fl4.there
      have S4 := J4.suite he4 hd4 na nL nF
      refine store_ok (X := X.suite a ((a, oe4) :: (X.pn ++ pins))) (v := .ref a) S4 hN hi hloc rfl (fun s5 S5 => ?_) (.inr hln)
      refine wpAny_mono ((hsu a oe4 cls d (X.pn ++ pins) hz4 ⟨_, hd4⟩).run [] s5 _ H' _ S5 (hyes rfl a na)) (fun f s6 hsp => ?_) (fun _ _ z => False.elim z)
      have end_ : ∀ {σ6 : L2.St} {H6 : Hp} {Q : Shared → Prop}, Inv (X.suite a ((a, oe4) :: (X.pn ++ pins))) [] σ6 H6 s6 → (∀ s7, Inv X pins (σ6.set i none) (upd H6 a (exv a cls d)) s7 → Q s7) →
          wpAny (model X.prog X.w) X.A (do bindName X.env n .none; unbindBehindTheSuite X.env n pos') (fun _ s7 => Q s7) X.xe s6 := fun {σ6 H6 Q} S6 hq => gone_ok (unsuiteK S6 ok) hN hi hln fun s7 J7 => hq s7 (Inv.track J7 hz4 ⟨_, hd4⟩ nS hx0 nP)
      have endR : ∀ {σ6 : L2.St} {H6 : Hp} {Q : Shared → Prop}, Inv (X.suite a ((a, oe4) :: (X.pn ++ pins))) [] σ6 H6 s6 → (∀ s7, Inv X pins (σ6.set i none) H6 s7 → Q s7) →
          wpAny (model X.prog X.w) X.A (do bindName X.env n .none; unbindBehindTheSuite X.env n pos') (fun _ s7 => Q s7) X.xe s6 := fun {σ6 H6 Q} S6 hq => gone_ok (S6.unsuite ok) hN hi hln hq
      cases f with
      | next =>
        obtain ⟨σ6, H6, S6, q6⟩ := hsp
        exact end_ S6 fun s7 J7 => ⟨_, _, J7, q6⟩
      | brk =>
        obtain ⟨σ6, H6, S6, q6⟩ := hsp
        exact end_ S6 fun s7 J7 => ⟨_, _, J7, q6⟩
      | cont =>
        obtain ⟨σ6, H6, S6, q6⟩ := hsp
        exact end_ S6 fun s7 J7 => ⟨_, _, J7, q6⟩
      | ret u =>
        obtain ⟨v6, σ6, H6, S6, r6, q6⟩ := hsp
        exact endR S6 fun s7 J7 => ⟨_, _, _, J7, r6, q6⟩
    | false =>
      show wpAny _ X.A (handleBy (.ref a) X.env []) _ _ _
      refine wpAny_handleBy_nil ?_
      obtain ⟨k1, k2, k3, oe, vs, T, oT, ts', he, hz, hd, h1, hr⟩ := id fl3
      unfold PySem.passOn
      refine wpAny_bind (wpAny_field he hd h1 ?_)
      rw [if_neg (show ¬ ((Value.ref T == Value.none) = true) from by simp)]
      have fin : wpAny (model X.prog X.w) X.A (setFlight (.ref a) X.env.frame) (fun _ s4 => wpAny (model X.prog X.w) X.A (throw (.ref a) : Sem Flow) (SP X pins D) X.xe s4) X.xe { s' with heap := h3 } := by
        rw [hf]
        refine HandSPX.setFlight_upZ fl3 fun h4 hh4 up4 => wpAny_throw (tk _ _ ?_)
        exact ⟨a, B, sI, pins, σ', H', cls, d, rfl, J, nb, (up.trans up3).trans up4, .inr (.inr (by rw [hs]; exact hh4)), na, os, ag, hno rfl⟩
      first
        | exact wpAny_bind (wpAny_pure (wpAny_bind fin))
        | exact wpAny_bind fin
  · cases f with
    | next =>
      obtain ⟨σ', H', J', q⟩ := hsp
      exact wpAny_execs_nil ⟨σ', H', J'.ofTry ok, q⟩
    | brk =>
      obtain ⟨σ', H', J', q⟩ := hsp
      exact ⟨σ', H', J'.ofTry ok, q⟩
    | cont =>
      obtain ⟨σ', H', J', q⟩ := hsp
      exact ⟨σ', H', J'.ofTry ok, q⟩
    | ret u =>
      obtain ⟨v, σ', H', J', r, q⟩ := hsp
      exact ⟨v, σ', H', J'.ofTry ok, r, q⟩
end
end Sw

set_option Elab.async false
set_option linter.all false
set_option maxRecDepth 100000
set_option maxHeartbeats 4000000
namespace Sw
open PySem PySem.Spec PyProof.Rows L2
/-! ### X(e, .., k = v, ..) as a value -/
structure ExcV (P : Program) (w : World) (K : PySem.W.Frag) (mg : Str → Option Value) (base : Heap) (x : Str) (C : Addr) (n : Nat) (ks : List Str) (sp : SpC) : Prop where
  ox : OexC K C
  at_ : mg x = some (.ref C)
  ex : ∃ f, PySem.W.findIn K (.ref C) "__init__" = some (some (.ref f)) ∧ PySem.W.typeIn K (.ref f) = some (.type "function") ∧ Cal P w K mg base 1 f (n + 1) ks sp
def tExcG (C : Addr) (n m : Nat) (sp : SpC) (t tk : TA) : TE := fun σ H Q => t σ H fun vs H1 => tk σ H1 fun zs H2 => vs.length = n ∧ zs.length = m ∧ n ≤ 1000 ∧ ∀ a, H2 a = none →
  sp (.ref a :: vs) zs (upd H2 a (exo a C none)) (fun v H3 => v = .non ∧ Q (.ref a) H3) (fun _ _ _ => False)
section
variable {X : Cx} {n : Nat} {C : Addr} {ks : List Str} {sp : SpC} {x : Str} {p pos : Pos} {e : Expr} {es : List Expr} {kws : List Keyword} {t tk : TA}
theorem run_excG {pins : List (Addr × Obj)} {σ : L2.St} {H : Hp} {s : Shared} {Q : VK} {us ws : List Value} {vs zs : List V} (T : ExcV X.prog X.w X.K X.mg X.base x C n ks sp) (hr : Room 2 X.A) (I : Inv X pins σ H s) (r : Vals vs us) (rz : Vals zs ws) (l1 : vs.length = n) (l2 : zs.length = ks.length) (hn : n ≤ 1000)
    (h : ∀ a, H a = none → sp (.ref a :: vs) zs (upd H a (exo a C none)) (fun v H3 => v = .non ∧ Q (.ref a) H3) (fun _ _ _ => False)) : wpAny (model X.prog X.w) X.A (call (.ref C) us (ks.zip ws)) (EP X pins σ Q) X.xe s := by
  obtain ⟨nm, q, N, bs, bm, sn, sub, ab, col, dd, k0, k1, k2, k3, k5, hC, hbm⟩ := T.ox.cls
  obtain ⟨fI, iC, tI, F1⟩ := T.ex
  obtain ⟨hp, g, dr, tk, os⟩ := s
  have hsz : hp.objs.size ≤ hp.objs.size + 1 := Nat.le_succ _
  have hnn : H (hp.objs.size + 1) = none := I.hok.fresh hsz
  have kk : ∀ b o, hp.get? b = some o → ((hp.push (PySem.W.kdv_tup us)).push (PySem.HandSPX.excO C hp.objs.size)).get? b = some o := fun b o e => Heap.get?_push_of_some _ (Heap.get?_push_of_some _ e)
  have hget : ((hp.push (PySem.W.kdv_tup us)).push (PySem.HandSPX.excO C hp.objs.size)).get? (hp.objs.size + 1) = some (PySem.HandSPX.excO C hp.objs.size) := by heap_get
  have I2 : Inv X pins σ (upd H (hp.objs.size + 1) (exo (hp.objs.size + 1) C none)) ⟨(hp.push (PySem.W.kdv_tup us)).push (PySem.HandSPX.excO C hp.objs.size), g, dr, tk, os⟩ :=
    I.laid (t' := tk) (a := hp.objs.size + 1) (o := exo (hp.objs.size + 1) C none) (h' := (hp.push (PySem.W.kdv_tup us)).push (PySem.HandSPX.excO C hp.objs.size)) kk hsz (exo_ok hget)
  have r2 : Vals (V.ref (hp.objs.size + 1) :: vs) (Value.ref (hp.objs.size + 1) :: us) := .cons rfl r
  have n1 : (V.ref (hp.objs.size + 1) :: vs).length = n + 1 := by rw [List.length_cons, l1]
  have hus : us.length ≤ sizeLine := by
    rw [← Paired.length r, l1, sizeLine_eq]
    omega
  have hq := h (hp.objs.size + 1) hnn
  refine wpAny_call (PySem.HandSPX.KW.call_own F.excBase_ValueError (fun Y => PySem.HandSPX.refsVE_contains Y bm hbm) (I.kIn _ _ hC) (PySem.W.looks_findIn I.kIn iC) (fun self => PySem.W.bind_fn I.kIn self tI) hus
    (codeAny_mono (F1 _ X.stack _ _ (Value.ref (hp.objs.size + 1) :: us) ws _ zs _ (fun _ _ _ => False) ((hr.mono (by decide : 2 ≤ 2)).make C us (ks.zip ws)) (I2.env0.make C us (ks.zip ws)) r2 rz n1 l2 hq) fun r s' hq' => ?_))
  cases r with
  | error er => exact passL (X := X) pins σ _ _ er s' I2 hq'
  | ok fl =>
    cases fl with
    | ret u =>
      obtain ⟨v, H', I3, rv, ev, q3⟩ := I2.after hq'
      subst ev
      exact ⟨rv, ⟨V.ref (hp.objs.size + 1), H', I3, rfl, q3⟩⟩
    | next => exact False.elim hq'
    | brk => exact False.elim hq'
    | cont => exact False.elim hq'
theorem pe_excG (T : ExcV X.prog X.w X.K X.mg X.base x C n ks sp) (hr : Room 2 X.A) (ha : PA X (e :: es) t) (hkw : PK X kws tk) (hg : Gl X x := by rfl)
    (hall : (backToKw pos (keywordEach kws X.env)).all (·.1.isSome) = true := by rfl) (hks : (backToKw pos (keywordEach kws X.env)).filterMap (·.1) = ks := by rfl) (hdb : (x == ("__debug__" : Str)) = false := by decide)
    (he : starEach (e :: es) X.env = (false, eval e X.env) :: starEach es X.env := by rfl) (hpl : ((backTo pos (starEach (e :: es) X.env)).any (·.1) || (backToKw pos (keywordEach kws X.env)).any (·.1.isNone)) = false := by rfl) :
    PE X (.Call (.Name x p) (e :: es) kws pos) (tExcG C n ks.length sp t tk) := by
  refine ⟨fun pins s σ H Q I h => ?_⟩
  refine wpAny_Call_Name_kw (ld_glob I hg T.at_ ?_ hdb)
  refine PySem.W.callWith_KW (h₀ := X.base) I.ok.mod.kin T.ox.kC hall (thn (ha.run pos pins s σ H _ I h) fun us s1 ⟨vs, H1, I1, r, q⟩ => ?_) hpl he
  refine thn (hkw.run pos pins s1 σ H1 _ I1 q) fun ws s2 ⟨zs, H2, I2, rz, l1, l2, hn, q2⟩ => ⟨I2.kIn, ?_⟩
  rw [hks]
  exact run_excG T hr I2 r rz l1 l2 hn q2
theorem pe_excG0 (T : ExcV X.prog X.w X.K X.mg X.base x C n ks sp) (hr : Room 2 X.A) (hkw : PK X kws tk) (hg : Gl X x := by rfl)
    (hall : (backToKw pos (keywordEach kws X.env)).all (·.1.isSome) = true := by rfl) (hks : (backToKw pos (keywordEach kws X.env)).filterMap (·.1) = ks := by rfl) (hdb : (x == ("__debug__" : Str)) = false := by decide)
    (hpl : ((backTo pos (starEach [] X.env)).any (·.1) || (backToKw pos (keywordEach kws X.env)).any (·.1.isNone)) = false := by rfl) :
    PE X (.Call (.Name x p) [] kws pos) (tExcG C n ks.length sp tNil tk) := by
  refine ⟨fun pins s σ H Q I h => ?_⟩
  refine wpAny_Call_Name_kw (ld_glob I hg T.at_ ?_ hdb)
  refine PySem.W.callWith_KW0 (h₀ := X.base) I.ok.mod.kin T.ox.kC hall ?_ hpl
  refine thn (hkw.run pos pins s σ H _ I h) fun ws s2 ⟨zs, H2, I2, rz, l1, l2, hn, q2⟩ => ⟨I2.kIn, ?_⟩
  rw [hks]
  exact run_excG (us := []) (vs := []) T hr I2 .nil rz l1 l2 hn q2
end

/-! ### isinstance(e, c), e.f: e an exception held as a value -/
def ExAt (H : Hp) (a C : Addr) (d : Option Addr) : Prop := H a = some (exo a C d) ∨ H a = some (exv a (.ref C) d)
def DxAt (H : Hp) (d : Addr) (fs : List (Str × V)) : Prop := H d = some (exd d fs) ∨ H d = some (.xd fs)
def rIsV (K : PySem.W.Frag) : List V → Hp → VK → Prop := fun xs H Q => ∃ (a C : Addr) (d : Option Addr) (c : V) (cv : Value) (b : Bool), xs = [.ref a, c] ∧ ExAt H a C d ∧ (∀ dd, d = some dd → ∃ fs, DxAt H dd fs) ∧ ExcC K C ∧ (∀ u, RelV c u → u = cv) ∧ PySem.W.kitOne K (.ref C) cv = some b ∧ Q (.bl b) H
def tXv (K : PySem.W.Frag) (f : Str) (te : TE) : TE := fun σ H Q => te σ H fun x H1 => ∃ (a C dd : Addr) (fs : List (Str × V)) (v : V), x = .ref a ∧ ExAt H1 a C (some dd) ∧ DxAt H1 dd fs ∧ XfC K C ∧ PySem.W.findIn K (.ref C) f = some none ∧ fs.lookup f = some v ∧ Q v H1
section
variable {X : Cx} {pins : List (Addr × Obj)} {σ : L2.St} {H : Hp} {s : Shared} {a C dd : Addr} {d : Option Addr} {fs : List (Str × V)}
theorem exAt_get (I : Inv X pins σ H s) (h : ExAt H a C d) : ∃ (oe : Obj) (vs : Array Value), s.heap.get? a = some oe ∧ Zc (.ref C) d oe ∧ oe.data = .fields vs := by
  rcases h with h | h
  · obtain ⟨t1, q⟩ := exo_at I.hok h
    exact ⟨_, _, q, ⟨rfl, rfl⟩, rfl⟩
  · exact exv_at I.hok h
theorem dxAt_get (I : Inv X pins σ H s) (h : DxAt H dd fs) : ∃ mA, s.heap.Ns1 dd mA ∧ ∀ f, RelO (fs.lookup f) (mA f) := by
  rcases h with h | h
  · exact exd_at I.hok h
  · exact (show ObjOk X.prog X.w H s.heap dd (.xd fs) from I.hok dd _ h)
theorem call_isV (K : PySem.W.Frag) (hK : X.K = K := by rfl) : CallR X (.builtin "isinstance") (rIsV K) := by
  subst hK
  intro pins s σ H xs us Q I r h
  obtain ⟨a, C, d, c, cv, b, rfl, he, hd, EC, hcv, e, q⟩ := h
  cases r with
  | cons rx rr =>
    cases rr with
    | cons rt rr =>
      cases rr
      cases rx
      have ec := hcv _ rt
      subst ec
      obtain ⟨oe, vs, hget, hz, hv⟩ := exAt_get I he
      cases d with
      | none =>
        have J : PySem.W.InstAt s.heap a oe C none := ⟨hget, hz.1, by unfold PySem.W.notCls; rw [hv] <;> rfl, by rw [hz.2]; trivial⟩
        exact PySem.W.kia_one (PySem.W.handS_kitx_exc EC.hg EC.hk EC.hs EC.hd EC.ha EC.hn EC.ht EC.hm) I.kIn J e (fun z => nomatch z) fun tk => ⟨.bl b, H, I.kept (t' := tk) fun _ _ z => z, rfl, q⟩
      | some dd =>
        obtain ⟨fs, hd'⟩ := hd dd rfl
        obtain ⟨mA, hns, hr⟩ := dxAt_get I hd'
        obtain ⟨od, ho, hl⟩ := lookIn_ns hns
        have J : PySem.W.InstAt s.heap a oe C (some od) := ⟨hget, hz.1, by unfold PySem.W.notCls; rw [hv] <;> rfl, by rw [hz.2]; exact ho⟩
        exact PySem.W.kia_one (sw_kitx EC.hg EC.hk EC.hs EC.hd EC.ha EC.hn EC.ht EC.hm) I.kIn J e (fun z => nomatch z) fun tk => ⟨.bl b, H, I.kept (t' := tk) fun _ _ z => z, rfl, q⟩
theorem pe_xv {e : Expr} {te : TE} {pos : Pos} {n : Str} (K : PySem.W.Frag) (he : PE X e te) (hb : attributeBase e n X.env (eval e X.env) = eval e X.env := by rfl) (hK : X.K = K := by rfl) : PE X (.Attribute e n pos) (tXv K n te) := by
  subst hK
  refine ⟨fun pins s σ H Q I h => ?_⟩
  refine attr_of hb (thn (he.run pins s σ H _ I h) fun u s1 hh => ?_)
  obtain ⟨x, H1, I1, rx, a, C, dd, fs, v, ex, hx, hd, T, hno, l, q⟩ := hh
  subst ex
  obtain rfl : u = Value.ref a := rx
  obtain ⟨oe, vs, hget, hz, hv⟩ := exAt_get I1 hx
  obtain ⟨mA, hns, hr⟩ := dxAt_get I1 hd
  obtain ⟨od, ho, hl⟩ := lookIn_ns hns
  obtain ⟨u, hu, ru⟩ := RelO.some_of (v := v) (o := mA n) (by rw [← l]; exact hr n)
  have J : PySem.W.InstAt s1.heap a oe C (some od) := ⟨hget, hz.1, by unfold PySem.W.notCls; rw [hv] <;> rfl, by rw [hz.2]; exact ho⟩
  exact HandSPX.exc_get I1.kIn J T.ga T.gg T.exC (PySem.W.findObj_own T.hdC hno rfl (by rw [hl, hu])) (handed_of ru) ⟨v, H1, I1.tok _, ru, q⟩
end
end Sw

set_option Elab.async false
set_option linter.all false
set_option maxRecDepth 100000
set_option maxHeartbeats 4000000
namespace Sw
open PySem PySem.Spec PyProof.Rows L2
/-! ### the __init__ of an exception with no, two, three fields -/
section
variable {P : Program} {w : World} {K : PySem.W.Frag} {mg : Str → Option Value} {base : Heap}
def spExc0 (C : Addr) : Sp := fun vs H Q _ => ∃ a, vs = [.ref a] ∧ H a = some (exo a C none) ∧ Q .non H
theorem ok_exc0 {qual msg : Str} {st : Stmt} {f cc C cda : Addr} {fd : FuncData} {p0 p1 p2 p3 p4 p5  : Pos} {j : Nat} (F : FunS P K "__init__" qual st f cc C cda fd) (U : SupTop P mg) (M : SupE K C C) 
    (S : SScope ["self"] ["self"] (defScope st)) (ks : (defScope st).names.lookup ("super" : Str) = some .globalImplicit) (kc : (defScope st).names.lookup ("__class__" : Str) = some .free)
    (hp : ∃ ar, ((defArgs st).posonlyargs ++ (defArgs st).args).head? = some ar ∧ (["self"] : List Str)[0]? = some ar.arg ∧ (defScope st).names.lookup ar.arg = some .local)
    (hb : defBody st = [.Expr (.Call (.Attribute (.Call (.Name "super" p0) [] [] p1) "__init__" p2) [.Constant (.str msg) j p3] [] p4) p5])
    (ht : ∀ env : Env, ∃ pl, eval (.Call (.Attribute (.Call (.Name "super" p0) [] [] p1) "__init__" p2) [.Constant (.str msg) j p3] [] p4) env = (do
      let ov ← attributeBase (.Call (.Name "super" p0) [] [] p1) "__init__" env (eval (.Call (.Name "super" p0) [] [] p1) env)
      standAt p2.atName
      let (f, first) ← holding [ov] (getMethod ov "__init__" pl)
      callWith p4 f first (backTo p4 (starEach [.Constant (.str msg) j p3] env)) (backToKw p4 (keywordEach [] env))))
    : FnOk P w K mg base (L2.CX P w) 1 f fd ["self"] (spExc0 C) := by
  refine F.ok S U ks kc hp (fun vs H Q E h => ?_) (fun A outer s H vs Q E hr T tk h => ?_)
  · obtain ⟨a, rfl, _⟩ := h
    rfl
  · obtain ⟨a, rfl, ha, q⟩ := h
    rw [hb]
    obtain ⟨pl, hte⟩ := ht (PySem.W.ksEnv qual (defScope st) s.heap.objs.size f (.ref cda) cc)
    refine ⟨_, PSst.one (pst_expr (pet_supE (pl := pl) T M (pa_cons pe_str pa_nil) rfl rfl hte) rfl), ?_⟩
    exact ⟨a, rfl, ha, (by show 1 ≤ 1000; decide), ha, q⟩
def spExc2 (C : Addr) (f1 f2 : Str) : Sp := fun vs H Q _ => ∃ a v1 v2, vs = [.ref a, v1, v2] ∧ H a = some (exo a C none) ∧ ∀ d H', H d = none → d ≠ a → H' a = some (exo a C (some d)) → H' d = some (exd d [(f2, v2), (f1, v1)]) → (∀ b, b ≠ a → b ≠ d → H' b = H b) → Q .non H'
theorem ok_exc2 {qual msg f1 f2 : Str} {st : Stmt} {f cc C cda : Addr} {fd : FuncData} {p0 p1 p2 p3 p4 p5 q1_1 q1_2 q1_3 q1_4 q2_1 q2_2 q2_3 q2_4 : Pos} {j : Nat} (F : FunS P K "__init__" qual st f cc C cda fd) (U : SupTop P mg) (M : SupE K C C) (hno1 : PySem.W.findIn K (.ref C) f1 = some none) (hno2 : PySem.W.findIn K (.ref C) f2 = some none)
    (S : SScope ["self", f1, f2] ["self", f1, f2] (defScope st)) (ks : (defScope st).names.lookup ("super" : Str) = some .globalImplicit) (kc : (defScope st).names.lookup ("__class__" : Str) = some .free)
    (hp : ∃ ar, ((defArgs st).posonlyargs ++ (defArgs st).args).head? = some ar ∧ (["self", f1, f2] : List Str)[0]? = some ar.arg ∧ (defScope st).names.lookup ar.arg = some .local)
    (hb : defBody st = [.Expr (.Call (.Attribute (.Call (.Name "super" p0) [] [] p1) "__init__" p2) [.Constant (.str msg) j p3] [] p4) p5, .Assign [.Attribute (.Name "self" q1_1) f1 q1_2] (.Name f1 q1_3) q1_4, .Assign [.Attribute (.Name "self" q2_1) f2 q2_2] (.Name f2 q2_3) q2_4])
    (ht : ∀ env : Env, ∃ pl, eval (.Call (.Attribute (.Call (.Name "super" p0) [] [] p1) "__init__" p2) [.Constant (.str msg) j p3] [] p4) env = (do
      let ov ← attributeBase (.Call (.Name "super" p0) [] [] p1) "__init__" env (eval (.Call (.Name "super" p0) [] [] p1) env)
      standAt p2.atName
      let (f, first) ← holding [ov] (getMethod ov "__init__" pl)
      callWith p4 f first (backTo p4 (starEach [.Constant (.str msg) j p3] env)) (backToKw p4 (keywordEach [] env))))
    (hd1 : (f1 == ("__debug__" : Str)) = false := by decide) (hcd1 : (f1 == ("__classdict__" : Str)) = false := by decide) (hd2 : (f2 == ("__debug__" : Str)) = false := by decide) (hcd2 : (f2 == ("__classdict__" : Str)) = false := by decide)
    : FnOk P w K mg base (L2.CX P w) 1 f fd ["self", f1, f2] (spExc2 C f1 f2) := by
  refine F.ok S U ks kc hp (fun vs H Q E h => ?_) (fun A outer s H vs Q E hr T tk h => ?_)
  · obtain ⟨a, v1, v2, rfl, _⟩ := h
    rfl
  · obtain ⟨a, v1, v2, rfl, ha, q⟩ := h
    rw [hb]
    obtain ⟨pl, hte⟩ := ht (PySem.W.ksEnv qual (defScope st) s.heap.objs.size f (.ref cda) cc)
    refine ⟨_, PSst.cons (pst_expr (pet_supE (pl := pl) T M (pa_cons pe_str pa_nil) rfl rfl hte) rfl) (PSst.of (pss_cons (ps_ost (pe_var (i := 0) rfl (.inl (S.par "self" (List.Mem.head _)))) (pe_var (i := 1) rfl (.inl (S.par f1 (List.Mem.tail _ (List.Mem.head _)))) hd1 hcd1) rfl) (pss_one (ps_ost (pe_var (i := 0) rfl (.inl (S.par "self" (List.Mem.head _)))) (pe_var (i := 2) rfl (.inl (S.par f2 (List.Mem.tail _ (List.Mem.tail _ (List.Mem.head _))))) hd2 hcd2) rfl)))), ?_⟩
    refine ⟨a, rfl, ha, (by show 1 ≤ 1000; decide), ha, v1, rfl, .ref a, rfl, a, C, rfl, M.ox, hno1, .inl ⟨ha, fun dx n ne => ?_⟩⟩
    refine ⟨v2, rfl, .ref a, rfl, a, C, rfl, M.ox, hno2, .inr ⟨dx, [(f1, v1)], upd_same, (upd_ne ne).trans upd_same, (by show 1 ≤ 900; decide), ?_⟩⟩
    exact q dx _ n ne ((upd_ne (Ne.symm ne)).trans upd_same) upd_same fun b h1 h2 => by rw [upd_ne h2, upd_ne h1, upd_ne h2]
def spExc3 (C : Addr) (f1 f2 f3 : Str) : Sp := fun vs H Q _ => ∃ a v1 v2 v3, vs = [.ref a, v1, v2, v3] ∧ H a = some (exo a C none) ∧ ∀ d H', H d = none → d ≠ a → H' a = some (exo a C (some d)) → H' d = some (exd d [(f3, v3), (f2, v2), (f1, v1)]) → (∀ b, b ≠ a → b ≠ d → H' b = H b) → Q .non H'
theorem ok_exc3 {qual msg f1 f2 f3 : Str} {st : Stmt} {f cc C cda : Addr} {fd : FuncData} {p0 p1 p2 p3 p4 p5 q1_1 q1_2 q1_3 q1_4 q2_1 q2_2 q2_3 q2_4 q3_1 q3_2 q3_3 q3_4 : Pos} {j : Nat} (F : FunS P K "__init__" qual st f cc C cda fd) (U : SupTop P mg) (M : SupE K C C) (hno1 : PySem.W.findIn K (.ref C) f1 = some none) (hno2 : PySem.W.findIn K (.ref C) f2 = some none) (hno3 : PySem.W.findIn K (.ref C) f3 = some none)
    (S : SScope ["self", f1, f2, f3] ["self", f1, f2, f3] (defScope st)) (ks : (defScope st).names.lookup ("super" : Str) = some .globalImplicit) (kc : (defScope st).names.lookup ("__class__" : Str) = some .free)
    (hp : ∃ ar, ((defArgs st).posonlyargs ++ (defArgs st).args).head? = some ar ∧ (["self", f1, f2, f3] : List Str)[0]? = some ar.arg ∧ (defScope st).names.lookup ar.arg = some .local)
    (hb : defBody st = [.Expr (.Call (.Attribute (.Call (.Name "super" p0) [] [] p1) "__init__" p2) [.Constant (.str msg) j p3] [] p4) p5, .Assign [.Attribute (.Name "self" q1_1) f1 q1_2] (.Name f1 q1_3) q1_4, .Assign [.Attribute (.Name "self" q2_1) f2 q2_2] (.Name f2 q2_3) q2_4, .Assign [.Attribute (.Name "self" q3_1) f3 q3_2] (.Name f3 q3_3) q3_4])
    (ht : ∀ env : Env, ∃ pl, eval (.Call (.Attribute (.Call (.Name "super" p0) [] [] p1) "__init__" p2) [.Constant (.str msg) j p3] [] p4) env = (do
      let ov ← attributeBase (.Call (.Name "super" p0) [] [] p1) "__init__" env (eval (.Call (.Name "super" p0) [] [] p1) env)
      standAt p2.atName
      let (f, first) ← holding [ov] (getMethod ov "__init__" pl)
      callWith p4 f first (backTo p4 (starEach [.Constant (.str msg) j p3] env)) (backToKw p4 (keywordEach [] env))))
    (hd1 : (f1 == ("__debug__" : Str)) = false := by decide) (hcd1 : (f1 == ("__classdict__" : Str)) = false := by decide) (hd2 : (f2 == ("__debug__" : Str)) = false := by decide) (hcd2 : (f2 == ("__classdict__" : Str)) = false := by decide) (hd3 : (f3 == ("__debug__" : Str)) = false := by decide) (hcd3 : (f3 == ("__classdict__" : Str)) = false := by decide)
    : FnOk P w K mg base (L2.CX P w) 1 f fd ["self", f1, f2, f3] (spExc3 C f1 f2 f3) := by
  refine F.ok S U ks kc hp (fun vs H Q E h => ?_) (fun A outer s H vs Q E hr T tk h => ?_)
  · obtain ⟨a, v1, v2, v3, rfl, _⟩ := h
    rfl
  · obtain ⟨a, v1, v2, v3, rfl, ha, q⟩ := h
    rw [hb]
    obtain ⟨pl, hte⟩ := ht (PySem.W.ksEnv qual (defScope st) s.heap.objs.size f (.ref cda) cc)
    refine ⟨_, PSst.cons (pst_expr (pet_supE (pl := pl) T M (pa_cons pe_str pa_nil) rfl rfl hte) rfl) (PSst.of (pss_cons (ps_ost (pe_var (i := 0) rfl (.inl (S.par "self" (List.Mem.head _)))) (pe_var (i := 1) rfl (.inl (S.par f1 (List.Mem.tail _ (List.Mem.head _)))) hd1 hcd1) rfl) (pss_cons (ps_ost (pe_var (i := 0) rfl (.inl (S.par "self" (List.Mem.head _)))) (pe_var (i := 2) rfl (.inl (S.par f2 (List.Mem.tail _ (List.Mem.tail _ (List.Mem.head _))))) hd2 hcd2) rfl) (pss_one (ps_ost (pe_var (i := 0) rfl (.inl (S.par "self" (List.Mem.head _)))) (pe_var (i := 3) rfl (.inl (S.par f3 (List.Mem.tail _ (List.Mem.tail _ (List.Mem.tail _ (List.Mem.head _)))))) hd3 hcd3) rfl))))), ?_⟩
    refine ⟨a, rfl, ha, (by show 1 ≤ 1000; decide), ha, v1, rfl, .ref a, rfl, a, C, rfl, M.ox, hno1, .inl ⟨ha, fun dx n ne => ?_⟩⟩
    refine ⟨v2, rfl, .ref a, rfl, a, C, rfl, M.ox, hno2, .inr ⟨dx, [(f1, v1)], upd_same, (upd_ne ne).trans upd_same, (by show 1 ≤ 900; decide), ?_⟩⟩
    refine ⟨v3, rfl, .ref a, rfl, a, C, rfl, M.ox, hno3, .inr ⟨dx, ((f2, v2) :: [(f1, v1)]), (upd_ne (Ne.symm ne)).trans upd_same, upd_same, (by show 2 ≤ 900; decide), ?_⟩⟩
    exact q dx _ n ne ((upd_ne (Ne.symm ne)).trans ((upd_ne (Ne.symm ne)).trans upd_same)) upd_same fun b h1 h2 => by rw [upd_ne h2, upd_ne h2, upd_ne h1, upd_ne h2]
end
end Sw

set_option Elab.async false
set_option linter.all false
set_option maxRecDepth 100000
set_option maxHeartbeats 4000000
namespace Sw
open PySem PySem.Spec PyProof.Rows L2
/-! ### repr of a dict of flat values -/
def keyD : Key → PyData
  | .inl i => .int i
  | .inr x => .str x
def flatD : V → PyData
  | .bl b => .bool b
  | .int i => .int i
  | .str s => .str s
  | _ => .none
def dictD (kvs : List (Key × V)) : PyData := .dict (kvs.map fun p => (keyD p.1, flatD p.2))
theorem reads_flat {h : Heap} {v : V} {u : Value} (r : RelV v u) (f : flatV v = true) : Reads h u (flatD v) [] := by
  cases v with
  | non => cases r; exact Reads.none
  | bl b => cases r; exact Reads.bool b
  | int i => obtain ⟨t, rfl⟩ := r; exact Reads.int i t
  | str x => obtain ⟨t, rfl⟩ := r; exact Reads.str x t
  | _ => cases f
theorem reads_keys {P : Program} {w : World} {h : Heap} {es : List DictEntry} {vs : List (Key × Value)} (hp : Pairs (mixKind P w) es vs) : ReadsAll h (es.map (·.key)) (vs.map fun p => keyD p.1) [] := by
  induction hp with
  | nil => exact ReadsAll.nil
  | cons h1 _ _ ih =>
    rcases keyIs_shape h1 with ⟨i, t, e1, e2⟩ | ⟨x, t, e1, e2⟩
    · rw [List.map_cons, List.map_cons, e1, e2]
      exact ReadsAll.cons (Reads.int i t) ih
    · rw [List.map_cons, List.map_cons, e1, e2]
      exact ReadsAll.cons (Reads.str x t) ih
theorem reads_vals {P : Program} {w : World} {h : Heap} : ∀ {kvs : List (Key × V)} {vs : List (Key × Value)} {es : List DictEntry}, KV kvs vs → Pairs (mixKind P w) es vs → (∀ p ∈ kvs, flatV p.2 = true) → ReadsAll h (es.map (·.val)) (kvs.map fun p => flatD p.2) []
  | [], [], [], _, _, _ => ReadsAll.nil
  | p :: ps, q :: qs, e :: es, .cons r t, .cons _ h2 hp, f => by
    rw [List.map_cons, List.map_cons, h2]
    exact ReadsAll.cons (reads_flat r.2 (f p List.mem_cons_self)) (reads_vals t hp fun p hp => f p (List.mem_cons_of_mem _ hp))
theorem kv_keys {kvs : List (Key × V)} {vs : List (Key × Value)} (h : KV kvs vs) : vs.map (fun p => keyD p.1) = kvs.map (fun p => keyD p.1) := by
  unfold KV at h
  induction h with
  | nil => rfl
  | cons r _ ih => rw [List.map_cons, List.map_cons, ih, r.1]
def rReprD : List V → Hp → VK → Prop := fun xs H Q => ∃ (a : Addr) (kvs : List (Key × V)), xs = [.ref a] ∧ H a = some (.dK kvs) ∧ (∀ p ∈ kvs, flatV p.2 = true) ∧ (dictD kvs).showable = true ∧ (dictD kvs).depth ≤ 100 ∧ (dictD kvs).shown.length ≤ sizeLine ∧ Q (.str (dictD kvs).shown) H
theorem call_reprD {X : Cx} (hgd : X.A.guards = some []) (hu : X.A.units + 120 < cLine) : CallR X (.builtin "repr") rReprD := by
  intro pins s σ H xs us Q I r h
  obtain ⟨a, kvs, rfl, ea, hf, hs, hdp, hl, q⟩ := h
  cases r with
  | cons rx rr =>
    cases rr
    cases rx
    have hx : ObjOk X.prog X.w H s.heap a (.dK kvs) := I.hok a _ ea
    obtain ⟨hz, hsm, vs, kv, o, es, ep, e1, e2, e3, e4, e5, e6⟩ := hx
    have rd : Reads s.heap (.ref a) (dictD kvs) (a :: [] ++ []) := by
      refine Reads.dict (o := o) e1 e2.1 e3 ?_ ?_
      · rw [List.map_map]
        have := reads_keys (h := s.heap) e5
        rw [kv_keys kv] at this
        exact this
      · rw [List.map_map]
        exact reads_vals kv e5 hf
    exact repr_of_reads' rd hs (fun _ hm => by
      have : sysModules = a := by simpa using hm
      rw [← this] at hsm
      simp at hsm) hgd (by omega) (fun b o e => e) (fun h' u tk k => ⟨.str (dictD kvs).shown, H, I.kept (t' := tk) k, ⟨_, rfl⟩, q⟩) hl
/-- repr of data, or of such a dict -/
def aRepr (K : PySem.W.Frag) : List V → Hp → VK → Prop := fun xs H Q => rRepr K xs H Q ∨ rReprD xs H Q
theorem ka_reprA {X : Cx} (K : PySem.W.Frag) (hgd : X.A.guards = some []) (hu : X.A.units + 120 < cLine) (hK : X.K = K := by rfl) : CallR X (.builtin "repr") (aRepr K) := fun pins s σ H xs us Q I r h =>
  h.elim (ka_repr K hgd hu hK pins s σ H xs us Q I r) (call_reprD hgd hu pins s σ H xs us Q I r)
end Sw

set_option Elab.async false
set_option linter.all false
set_option maxRecDepth 100000
set_option maxHeartbeats 4000000
namespace Sw
open PySem PySem.Spec PyProof.Rows L2
/-! ### bs.count(b), bs.index(True) for truth values -/
def rCntB (K : PySem.W.Frag) : V → List V → Hp → VK → Prop := fun x xs H Q => ∃ (p : Addr) (bs : List Bool) (k : Bool), x = .ref p ∧ xs = [.bl k] ∧ SqL K H p (bs.map V.bl) ∧ Q (.int (bs.count k : Nat)) H
def eqB (k : Bool) : Value → Bool
  | .bool b => b == k
  | _ => false
theorem vals_bools : ∀ {bs : List Bool} {us : List Value}, Vals (bs.map V.bl) us → us = bs.map Value.bool
  | [], _, .nil => rfl
  | b :: bs, _, .cons r t => by
    rw [vals_bools t]
    cases r
    rfl
theorem cnt_bools (bs : List Bool) (k : Bool) : (bs.map Value.bool).countP (eqB k) = bs.count k := by
  induction bs with
  | nil => rfl
  | cons b r ih =>
    rw [List.map_cons, List.countP_cons, List.count_cons, ih]
    rfl
theorem mt_bcount {X : Cx} (K : PySem.W.Frag) (hK : X.K = K := by rfl) : MtR X "list.count" (rCntB K) := by
  subst hK
  intro pins s σ H x xs v us Q I rx rxs h
  obtain ⟨p, bs, k, rfl, rfl, hs, q⟩ := h
  cases rx
  obtain ⟨u, rfl, ru⟩ := rxs.one
  cases ru
  obtain ⟨its, rv, ⟨⟨cls, dd, data, sl⟩, n, ho, hc, hdn, hd⟩, hlen⟩ := I.list hs
  simp only at hc hd
  subst hc hd
  have hi := vals_bools rv
  subst hi
  refine call_meets PySem.F.slot_list_count ⟨_, ho, rfl⟩ PySem.F.entry_list_count (PySem.F.args_list_count_2 _ _)
    (SeqAt.list_countAt p (bs.map Value.bool).toArray n dd sl (.bool k) (eqB k)) ⟨ho, fun y hy => ?_, ?_⟩
  · obtain ⟨b, _, rfl⟩ := List.mem_map.mp (show y ∈ bs.map Value.bool by simpa using hy)
    exact eqAt_V (y := .bl b) (x := .bl k) rfl rfl rfl rfl
  · have ec : (bs.map Value.bool).toArray.toList.countP (eqB k) = bs.count k := by
      rw [show (bs.map Value.bool).toArray.toList = bs.map Value.bool by simp]
      exact cnt_bools bs k
    refine ⟨.int (bs.count k : Nat), H, I.tok _, ⟨s.toks, ?_⟩, q⟩
    show Value.int (((bs.map Value.bool).toArray.toList.countP (eqB k) : Nat) : Int) s.toks = Value.int ((bs.count k : Nat) : Int) s.toks
    rw [ec]
end Sw

set_option Elab.async false
set_option linter.all false
set_option maxRecDepth 100000
set_option maxHeartbeats 4000000
namespace PySem
open Sem (wp)
section
variable {prog : Program} {w : World} {h₀ : Heap}
mutual
theorem sw_reprK : ∀ {v : Value} {d : PyData} {as : List Addr}, Reads h₀ v d as → d.showable = true → (∀ b ∈ as, (∃ o, h₀.get? b = some o ∧ o.cls = .type "dict") → b ≠ sysModules) → d.shown.length ≤ sizeLine → ∃ bs, ReadAtMost h₀ d.depth bs ∧ ReprK prog w bs h₀ d.depth v d.shown
  | _, _, _, .none, _, _, _ => ⟨[], (fun _ h => nomatch h), by simp only [PyData.shown]; exact .of_is ReprIs.none _ _ _⟩
  | _, _, _, .bool b, _, _, _ => ⟨[], (fun _ h => nomatch h), by simp only [PyData.shown]; exact .of_is (ReprIs.bool b) _ _ _⟩
  | _, _, _, .int i t, hs, _, _ => ⟨[], (fun _ h => nomatch h), by simp only [PyData.shown]; exact .of_is (ReprIs.int t (by simpa [PyData.showable] using hs)) _ _ _⟩
  | _, _, _, .str x t, _, _, hz => ⟨[], (fun _ h => nomatch h), by simp only [PyData.shown]; exact .of_is (ReprIs.str x t (by simpa only [PyData.shown] using hz)) _ _ _⟩
  | _, _, _, .list (a := a) (vs := vs) (xs := xs) h1 h2 h3 h4, hs, hsm, hz => by
    have hz' : (listText (PyData.shownAll xs)).length ≤ sizeLine := by simpa only [PyData.shown] using hz
    obtain ⟨bs, hb, hk⟩ := sw_reprAllK h4 (by simpa [PyData.showable] using hs) (fun b hm => hsm b (List.mem_cons_of_mem _ hm)) (fun t ht => Nat.le_trans (listText_mem_le ht) hz')
    have r : Reads h₀ (.ref a) (.list xs) _ := .list h1 h2 h3 h4
    have hna : a ∉ bs := not_mem_of_deeper r (by simp only [PyData.depth]; omega) hb
    refine ⟨a :: bs, ReadAtMost.cons r (by simp only [PyData.depth]; omega) hb, ?_⟩
    simp only [PyData.depth, PyData.shown]
    obtain ⟨l⟩ := vs
    cases l with
    | nil =>
      have h4' : ReadsAll h₀ [] xs _ := h4
      cases h4'
      simp only [PyData.shownAll, listText_nil]
      exact ReprK.listEmpty h1 h2 h3
    | cons x l => exact ReprK.list h1 h2 h3 hna (by simpa using hk.length_eq) (fun i y e => hk.item i y (by simpa using e))
  | _, _, _, .tuple (a := a) (xs := xs) h1 h2 h3 h4, hs, hsm, hz => by
    have hz' : (tupleText (PyData.shownAll xs)).length ≤ sizeLine := by simpa only [PyData.shown] using hz
    obtain ⟨bs, hb, hk⟩ := sw_reprAllK h4 (by simpa [PyData.showable] using hs) (fun b hm => hsm b hm) (fun t ht => Nat.le_trans (tupleText_mem_le ht) hz')
    have r : Reads h₀ (.ref a) (.tuple xs) _ := .tuple h1 h2 h3 h4
    have hna : a ∉ bs := not_mem_of_deeper r (by simp only [PyData.depth]; omega) hb
    refine ⟨a :: bs, ReadAtMost.cons r (by simp only [PyData.depth]; omega) hb, ?_⟩
    simp only [PyData.depth, PyData.shown]
    exact ReprK.tuple h1 h2 h3 hna hk
  | _, _, _, .dict (a := a) (es := es) (kvs := kvs) (as := as₁) (bs := bs₁) h1 h2 h3 h4 h5, hs, hsm, hz => by
    have hz' : (dictText (PyData.shownKv kvs)).length ≤ sizeLine := by simpa only [PyData.shown] using hz
    obtain ⟨hs1, hs2⟩ := PyData.showableKv_split kvs (by simpa [PyData.showable] using hs)
    obtain ⟨b1, hb1, k1⟩ := sw_reprAllK h4 hs1 (fun b hm => hsm b (List.mem_cons_of_mem _ (List.mem_append_left _ hm))) (fun t ht => let ⟨p, hp, hl⟩ := PyData.shownKv_key_le kvs t ht; Nat.le_trans hl (Nat.le_trans (dictText_mem_le hp) hz'))
    obtain ⟨b2, hb2, k2⟩ := sw_reprAllK h5 hs2 (fun b hm => hsm b (List.mem_cons_of_mem _ (List.mem_append_right _ hm))) (fun t ht => let ⟨p, hp, hl⟩ := PyData.shownKv_val_le kvs t ht; Nat.le_trans hl (Nat.le_trans (dictText_mem_le hp) hz'))
    have r : Reads h₀ (.ref a) (.dict kvs) _ := .dict h1 h2 h3 h4 h5
    have hb : ReadAtMost h₀ (PyData.depthKv kvs) (b1 ++ b2) := (hb1.mono (PyData.depthAll_keys_le kvs)).append (hb2.mono (PyData.depthAll_vals_le kvs))
    have hna : a ∉ b1 ++ b2 := not_mem_of_deeper r (by simp only [PyData.depth]; omega) hb
    have hsys : (a == sysModules) = false := beq_eq_false_iff_ne.mpr (hsm a (List.mem_cons_self ..) ⟨_, h1, h2⟩)
    refine ⟨a :: (b1 ++ b2), ReadAtMost.cons r (by simp only [PyData.depth]; omega) hb, ?_⟩
    simp only [PyData.depth, PyData.shown, PyData.shownKv_eq]
    exact ReprK.dict h1 h2 h3 hsys hna (ReprEntriesK.of_two es.toList _ _
      (k1.more_le (fun b hb => List.mem_append_left _ hb) (PyData.depthAll_keys_le kvs)) (k2.more_le (fun b hb => List.mem_append_right _ hb) (PyData.depthAll_vals_le kvs)))
theorem sw_reprAllK : ∀ {vs : List Value} {ds : List PyData} {as : List Addr}, ReadsAll h₀ vs ds as → PyData.showableAll ds = true → (∀ b ∈ as, (∃ o, h₀.get? b = some o ∧ o.cls = .type "dict") → b ≠ sysModules) → (∀ t ∈ PyData.shownAll ds, t.length ≤ sizeLine) →
    ∃ bs, ReadAtMost h₀ (PyData.depthAll ds) bs ∧ ReprAllK prog w bs h₀ (PyData.depthAll ds) vs (PyData.shownAll ds)
  | _, _, _, .nil, _, _, _ => ⟨[], (fun _ h => nomatch h), by simp only [PyData.shownAll]; exact .nil⟩
  | _, _, _, .cons (d := d) (ds := ds) r rs, hs, hsm, hz => by
    have hs' : d.showable = true ∧ PyData.showableAll ds = true := by simpa [PyData.showableAll] using hs
    obtain ⟨b1, hb1, k1⟩ := sw_reprK r hs'.1 (fun b hm => hsm b (List.mem_append_left _ hm)) (hz _ (by simp only [PyData.shownAll]; exact List.mem_cons_self ..))
    obtain ⟨b2, hb2, k2⟩ := sw_reprAllK rs hs'.2 (fun b hm => hsm b (List.mem_append_right _ hm)) (fun t ht => hz t (by simp only [PyData.shownAll]; exact List.mem_cons_of_mem _ ht))
    refine ⟨b1 ++ b2, ?_, ?_⟩
    · intro b hm
      simp only [PyData.depthAll]
      rcases List.mem_append.mp hm with hm | hm
      · obtain ⟨d', as', r', hd'⟩ := hb1 b hm
        exact ⟨d', as', r', Nat.le_trans hd' (Nat.le_max_left _ _)⟩
      · obtain ⟨d', as', r', hd'⟩ := hb2 b hm
        exact ⟨d', as', r', Nat.le_trans hd' (Nat.le_max_right _ _)⟩
    · simp only [PyData.depthAll, PyData.shownAll]
      exact .cons ((k1.more fun b hb => List.mem_append_left _ hb).level_le (Nat.le_max_left _ _)) (k2.more_le (fun b hb => List.mem_append_right _ hb) (Nat.le_max_right _ _))
end
end
section
variable {prog : Program} {w : World} {h₀ : Heap} {a : Addr} {d : PyData} {as : List Addr}
theorem sw_showsBy (r : Reads h₀ (.ref a) d as) (hs : d.showable = true) (hsm : ∀ b ∈ as, (∃ o, h₀.get? b = some o ∧ o.cls = .type "dict") → b ≠ sysModules)
    (hsz : d.shown.length ≤ sizeLine := by size_fits) : ∃ T idr, ShowsBy prog w h₀ a d T idr := by
  cases r with
  | list h1 h2 h3 h4 =>
    rename_i o vs n xs bs₀
    have hz' : (listText (PyData.shownAll xs)).length ≤ sizeLine := by simpa only [PyData.shown] using hsz
    obtain ⟨bs, hb, hk⟩ := sw_reprAllK (prog := prog) (w := w) h4 (by simpa [PyData.showable] using hs) (fun b hm => hsm b (List.mem_cons_of_mem _ hm)) (fun t ht => Nat.le_trans (listText_mem_le ht) hz')
    have hna : a ∉ bs := not_mem_of_deeper (.list h1 h2 h3 h4) (by simp only [PyData.depth]; omega) hb
    refine ⟨"list", "list.__repr__", F.slot_list_repr.toG, F.slot_list_str, F.slot_list_format, fun s hk0 => ⟨o, hk0 _ _ h1, h2⟩, fun A E s Q hg hu hk0 hQ => ?_⟩
    simp only [PyData.depth] at hu
    simp only [PyData.shown] at hQ
    obtain ⟨l⟩ := vs
    cases l with
    | nil =>
      have h4' : ReadsAll h₀ [] xs _ := h4
      cases h4'
      simp only [PyData.shownAll, listText_nil] at hQ
      exact call_list_repr_empty ⟨o, hk0 _ _ h1, h2⟩ (hk0 _ _ h1) h3 (hQ s.heap _ _ fun _ _ e => e)
    | cons x l =>
      exact call_list_reprK h1 h2 h3 hna (by simpa using hk.length_eq) (fun i y e => hk.item i y (by simpa using e)) hg (fun b _ => Clear.nil b) hu hk0 hQ hz'
  | tuple h1 h2 h3 h4 =>
    rename_i o vs n xs
    have hz' : (tupleText (PyData.shownAll xs)).length ≤ sizeLine := by simpa only [PyData.shown] using hsz
    obtain ⟨bs, hb, hk⟩ := sw_reprAllK (prog := prog) (w := w) h4 (by simpa [PyData.showable] using hs) (fun b hm => hsm b hm) (fun t ht => Nat.le_trans (tupleText_mem_le ht) hz')
    have hna : a ∉ bs := not_mem_of_deeper (.tuple h1 h2 h3 h4) (by simp only [PyData.depth]; omega) hb
    refine ⟨"tuple", "tuple.__repr__", F.slot_tuple_repr, F.slot_tuple_str, F.slot_tuple_format, fun s hk0 => ⟨o, hk0 _ _ h1, h2⟩, fun A E s Q hg hu hk0 hQ => ?_⟩
    simp only [PyData.depth] at hu
    simp only [PyData.shown] at hQ
    exact call_tuple_reprK h1 h2 h3 hna hk hg (fun b _ => Clear.nil b) hu hk0 hQ hz'
  | dict h1 h2 h3 h4 h5 =>
    rename_i o es n kvs as₁ bs₁
    have hz' : (dictText (PyData.shownKv kvs)).length ≤ sizeLine := by simpa only [PyData.shown] using hsz
    obtain ⟨hs1, hs2⟩ := PyData.showableKv_split kvs (by simpa [PyData.showable] using hs)
    obtain ⟨b1, hb1, k1⟩ := sw_reprAllK (prog := prog) (w := w) h4 hs1 (fun b hm => hsm b (List.mem_cons_of_mem _ (List.mem_append_left _ hm))) (fun t ht => let ⟨p, hp, hl⟩ := PyData.shownKv_key_le kvs t ht; Nat.le_trans hl (Nat.le_trans (dictText_mem_le hp) hz'))
    obtain ⟨b2, hb2, k2⟩ := sw_reprAllK (prog := prog) (w := w) h5 hs2 (fun b hm => hsm b (List.mem_cons_of_mem _ (List.mem_append_right _ hm))) (fun t ht => let ⟨p, hp, hl⟩ := PyData.shownKv_val_le kvs t ht; Nat.le_trans hl (Nat.le_trans (dictText_mem_le hp) hz'))
    have hb : ReadAtMost h₀ (PyData.depthKv kvs) (b1 ++ b2) := (hb1.mono (PyData.depthAll_keys_le kvs)).append (hb2.mono (PyData.depthAll_vals_le kvs))
    have hna : a ∉ b1 ++ b2 := not_mem_of_deeper (.dict h1 h2 h3 h4 h5) (by simp only [PyData.depth]; omega) hb
    have hsys : (a == sysModules) = false := beq_eq_false_iff_ne.mpr (hsm a (List.mem_cons_self ..) ⟨_, h1, h2⟩)
    refine ⟨"dict", "dict.__repr__", F.slot_dict_repr, F.slot_dict_str, F.slot_dict_format, fun s hk0 => ⟨o, hk0 _ _ h1, h2⟩, fun A E s Q hg hu hk0 hQ => ?_⟩
    simp only [PyData.depth] at hu
    simp only [PyData.shown, PyData.shownKv_eq] at hQ
    exact call_dict_reprK h1 h2 h3 hsys hna (ReprEntriesK.of_two es.toList _ _
      (k1.more_le (fun b hb => List.mem_append_left _ hb) (PyData.depthAll_keys_le kvs)) (k2.more_le (fun b hb => List.mem_append_right _ hb) (PyData.depthAll_vals_le kvs))) hg (fun b _ => Clear.nil b) hu hk0 hQ (by rw [← PyData.shownKv_eq]; exact hz')


variable {A : Around} {E : Value → Shared → Prop} {s : Shared} {Q : Value → Shared → Prop}
theorem sw_repr (r : Reads h₀ (.ref a) d as) (hs : d.showable = true) (hsm : ∀ b ∈ as, (∃ o, h₀.get? b = some o ∧ o.cls = .type "dict") → b ≠ sysModules) (hg : A.guards = some []) (hu : A.units + (d.depth + 1) < cLine) (hk0 : ∀ b o, h₀.get? b = some o → s.heap.get? b = some o)
    (hQ : ∀ h' u tk, (∀ b o, s.heap.get? b = some o → h'.get? b = some o) → Q (.str d.shown u) { s with heap := h', toks := tk })
    (hsz : d.shown.length ≤ sizeLine := by size_fits) : wpAny (model prog w) A (call (.builtin "repr") [.ref a]) Q E s := by
  obtain ⟨T, idr, S⟩ := sw_showsBy (prog := prog) (w := w) r hs hsm hsz
  exact call_repr_slot (by omega) (S.typeIs s hk0) S.slotRepr (S.call A.in1 E s _ hg (by show A.units + 1 + d.depth < cLine; omega) hk0 fun h' u tk hk => ⟨_, _, rfl, hQ h' u tk hk⟩)
end
end PySem

set_option Elab.async false
set_option linter.all false
set_option maxRecDepth 100000
set_option maxHeartbeats 4000000
namespace Sw
open PySem PySem.Spec PyProof.Rows L2
/-! ### data at any depth, with dicts -/
mutual
inductive Dq (K : PySem.W.Frag) (H : Hp) : V → PyData → Prop
  | non : Dq K H .non .none
  | bl (b : Bool) : Dq K H (.bl b) (.bool b)
  | int (i : Int) : Dq K H (.int i) (.int i)
  | str (x : Str) : Dq K H (.str x) (.str x)
  | lst {a : Addr} {xs : List V} {ds : List PyData} : SqL K H a xs → DqAll K H xs ds → Dq K H (.ref a) (.list ds)
  | tup {a : Addr} {xs : List V} {ds : List PyData} : SqT K H a xs → DqAll K H xs ds → Dq K H (.ref a) (.tuple ds)
  | dic {a : Addr} {kvs : List (Key × V)} {ds : List PyData} : H a = some (.dK kvs) → DqAll K H (kvs.map (·.2)) ds → Dq K H (.ref a) (.dict ((kvs.map fun p => keyD p.1).zip ds))
inductive DqAll (K : PySem.W.Frag) (H : Hp) : List V → List PyData → Prop
  | nil : DqAll K H [] []
  | cons {v : V} {vs : List V} {d : PyData} {ds : List PyData} : Dq K H v d → DqAll K H vs ds → DqAll K H (v :: vs) (d :: ds)
end
theorem DqAll.length {K : PySem.W.Frag} {H : Hp} : ∀ {vs : List V} {ds : List PyData}, DqAll K H vs ds → vs.length = ds.length
  | [], _, h => by cases h; rfl
  | v :: vs, _, h => by
    cases h with
    | cons _ h2 => rw [List.length_cons, List.length_cons, DqAll.length h2]
section
variable {X : Cx} {pins : List (Addr × Obj)} {σ : L2.St} {H : Hp} {s : Shared}
def NoMod (h : Heap) (as : List Addr) : Prop := ∀ b ∈ as, (∃ o, h.get? b = some o ∧ o.cls = .type "dict") → b ≠ sysModules
theorem NoMod.nil {h : Heap} : NoMod h [] := fun _ hm => nomatch hm
theorem NoMod.app {h : Heap} {as bs : List Addr} (h1 : NoMod h as) (h2 : NoMod h bs) : NoMod h (as ++ bs) := fun b hm q => (List.mem_append.mp hm).elim (fun m => h1 b m q) (fun m => h2 b m q)
theorem dq_vals {P : Program} {w : World} : ∀ {kvs : List (Key × V)} {vs : List (Key × Value)} {es : List DictEntry}, KV kvs vs → Pairs (mixKind P w) es vs → Vals (kvs.map (·.2)) (es.map (·.val))
  | [], [], [], _, _ => .nil
  | p :: ps, q :: qs, e :: es, .cons r t, .cons _ h2 hp => by
    rw [List.map_cons, List.map_cons, h2]
    exact .cons r.2 (dq_vals t hp)
theorem Dq.reads (I : Inv X pins σ H s) {v : V} {d : PyData} (h : Dq X.K H v d) : ∀ u, RelV v u → ∃ as, Reads s.heap u d as ∧ NoMod s.heap as := by
  refine Dq.rec (motive_1 := fun v d _ => ∀ u, RelV v u → ∃ as, Reads s.heap u d as ∧ NoMod s.heap as) (motive_2 := fun vs ds _ => ∀ us, Vals vs us → ∃ as, ReadsAll s.heap us ds as ∧ NoMod s.heap as) ?_ ?_ ?_ ?_ ?_ ?_ ?_ ?_ ?_ h
  · intro u r
    cases r
    exact ⟨_, Reads.none, .nil⟩
  · intro b u r
    cases r
    exact ⟨_, Reads.bool b, .nil⟩
  · intro i u r
    obtain ⟨t, rfl⟩ := r
    exact ⟨_, Reads.int i t, .nil⟩
  · intro x u r
    obtain ⟨t, rfl⟩ := r
    exact ⟨_, Reads.str x t, .nil⟩
  · intro a xs ds hs _ ih u r
    cases r
    obtain ⟨its, rv, ⟨o, n, ho, hc, _, hd⟩, _⟩ := I.list hs
    obtain ⟨as, hr, hn⟩ := ih _ rv
    refine ⟨_, Reads.list ho hc hd hr, ?_⟩
    intro b hm q
    rcases List.mem_cons.mp hm with rfl | hm
    · obtain ⟨o', e1, e2⟩ := q
      rw [ho] at e1
      cases e1
      rw [hc] at e2
      exact absurd e2 (by decide)
    · exact hn b hm q
  · intro a xs ds hs _ ih u r
    cases r
    obtain ⟨its, rv, ⟨o, ho, hc, n, hd⟩, _⟩ := I.tuple hs
    obtain ⟨as, hr, hn⟩ := ih _ rv
    exact ⟨_, Reads.tuple ho hc hd hr, hn⟩
  · intro a kvs ds ea ha ih u r
    cases r
    have hx : ObjOk X.prog X.w H s.heap a (.dK kvs) := I.hok a _ ea
    obtain ⟨hz, hsm, vs, kv, o, es, ep, e1, e2, e3, e4, e5, e6⟩ := hx
    obtain ⟨as, hr, hn⟩ := ih _ (dq_vals kv e5)
    have hl := ha.length
    rw [List.length_map] at hl
    refine ⟨_, Reads.dict (o := o) (as := []) (bs := as) e1 e2.1 e3 ?_ ?_, ?_⟩
    · have := reads_keys (h := s.heap) e5
      rw [kv_keys kv] at this
      rw [List.map_fst_zip (by simp [hl])]
      exact this
    · rw [List.map_snd_zip (by simp [hl])]
      exact hr
    · intro b hm q
      have hm' : b = a ∨ b ∈ as := by simpa using hm
      rcases hm' with rfl | hm
      · intro e
        rw [e] at hsm
        simp at hsm
      · exact hn b hm q
  · intro us r
    cases r
    exact ⟨_, ReadsAll.nil, .nil⟩
  · intro v vs d ds _ _ ih1 ih2 us r
    cases r with
    | cons r1 r2 =>
      obtain ⟨as, q1, n1⟩ := ih1 _ r1
      obtain ⟨bs, q2, n2⟩ := ih2 _ r2
      exact ⟨_, ReadsAll.cons q1 q2, n1.app n2⟩
end
def qRepr (K : PySem.W.Frag) : List V → Hp → VK → Prop := fun xs H Q => ∃ v d, xs = [v] ∧ Dq K H v d ∧ d.showable = true ∧ d.depth ≤ 100 ∧ d.shown.length ≤ sizeLine ∧ Q (.str d.shown) H
theorem ka_reprQ {X : Cx} (K : PySem.W.Frag) (hgd : X.A.guards = some []) (hu : X.A.units + 120 < cLine) (hK : X.K = K := by rfl) : CallR X (.builtin "repr") (qRepr K) := by
  subst hK
  intro pins s σ H xs us Q I r h
  obtain ⟨v, d, rfl, hd, hs, hdp, hl, q⟩ := h
  cases r with
  | cons rx rr =>
    cases rr
    have kept : ∀ h' tk, (∀ b o, s.heap.get? b = some o → h'.get? b = some o) → Inv X pins σ H { s with heap := h', toks := tk } := fun h' tk k => I.kept (t' := tk) k
    have refs : ∀ {a : Addr} {u : Value}, v = .ref a → RelV v u → wpAny (model X.prog X.w) X.A (call (.builtin "repr") [u]) (EP X pins σ Q) X.xe s := fun {a u} ev ru => by
      subst ev
      obtain ⟨as, rd, hn⟩ := Dq.reads I hd u ru
      obtain rfl : u = Value.ref a := ru
      exact sw_repr rd hs hn hgd (by omega) (fun b o e => e) (fun h' u tk k => ⟨.str d.shown, H, kept h' tk k, ⟨_, rfl⟩, q⟩) hl
    cases hd with
    | non =>
      cases rx
      exact P.repr_of_none ⟨.str _, H, I.kept (t' := s.toks + 1) (fun _ _ e => e), ⟨_, rfl⟩, q⟩
    | bl b =>
      cases rx
      exact P.repr_of_bool ⟨.str _, H, I.kept (t' := s.toks + 1) (fun _ _ e => e), ⟨_, rfl⟩, q⟩
    | int i =>
      obtain ⟨t, rfl⟩ := rx
      exact P.repr_of_int (of_decide_eq_true hs) ⟨.str _, H, I.kept (t' := s.toks + 1) (fun _ _ e => e), ⟨_, rfl⟩, q⟩
    | str x =>
      obtain ⟨t, rfl⟩ := rx
      exact P.repr_of_str ⟨.str _, H, I.kept (t' := s.toks + 1) (fun _ _ e => e), ⟨_, rfl⟩, q⟩ hl
    | lst _ _ => exact refs rfl rx
    | tup _ _ => exact refs rfl rx
    | dic _ _ => exact refs rfl rx
end Sw

set_option Elab.async false
set_option linter.all false
set_option maxRecDepth 100000
set_option maxHeartbeats 4000000
namespace Sw
open PySem PySem.Spec PyProof.Rows L2
theorem Dq.mono {K : PySem.W.Frag} {G H : Hp} (e : Same G H) {v : V} {d : PyData} (h : Dq K G v d) : Dq K H v d := by
  refine Dq.rec (motive_1 := fun v d _ => Dq K H v d) (motive_2 := fun vs ds _ => DqAll K H vs ds) ?_ ?_ ?_ ?_ ?_ ?_ ?_ ?_ ?_ h
  · exact .non
  · exact fun b => .bl b
  · exact fun i => .int i
  · exact fun x => .str x
  · exact fun hs _ ih => .lst (Evl.ex_l e hs) ih
  · exact fun hs _ ih => .tup (Evl.ex_t e hs) ih
  · exact fun ea _ ih => .dic (e _ _ ea) ih
  · exact .nil
  · exact fun _ _ ih1 ih2 => .cons ih1 ih2
theorem DqAll.mono {K : PySem.W.Frag} {G H : Hp} (e : Same G H) : ∀ {vs : List V} {ds : List PyData}, DqAll K G vs ds → DqAll K H vs ds
  | _, _, .nil => .nil
  | _, _, .cons h1 h2 => .cons (h1.mono e) (h2.mono e)
/-- small data: repr has room -/
structure Td (d : PyData) : Prop where
  s : d.showable = true
  dp : d.depth ≤ 5
  l : d.shown.length ≤ 200
theorem g_repr {K : PySem.W.Frag} {G : Hp} {R : Res} {H : Hp} {v : V} {d : PyData} {Q : VK} (w : Wd G R H) (h : Dq K G v d) (t : Td d) (k : Q (.str d.shown) H) : qRepr K [v] H Q :=
  ⟨v, d, rfl, h.mono w.sub, t.s, Nat.le_trans t.dp (by decide), by have := t.l; rw [sizeLine_eq]; omega, k⟩
theorem g_disp {G : Hp} {R : Res} {H : Hp} {Q : VK} {σ : L2.St} {trs : List (TE × TE)} (w : Wd G R H) (k : ∀ p H1, G p = none → Wd (upd G p (.dK [])) R H1 → tPairs trs σ H1 fun ps H2 => H2 p = some (.dK []) ∧ ∃ kvs : List (Key × V), ps = kvs.map (fun kv => (kV kv.1, kv.2)) ∧ kvs.length ≤ 15 ∧ Q (.ref p) (upd H2 p (.dK (mergeK [] kvs)))) : tDisp trs σ H Q :=
  fun p hp => k p _ (w.free hp) (w.new hp)
end Sw

set_option Elab.async false
set_option linter.all false
set_option maxRecDepth 100000
set_option maxHeartbeats 4000000
namespace Sw
open PySem PySem.Spec PyProof.Rows L2
/-! ### errors made as values, in a world -/
def ErrAt (G : Hp) (a C : Addr) (fs : List (Str × V)) : Prop := (fs = [] ∧ G a = some (exo a C none)) ∨ ∃ d, G a = some (exo a C (some d)) ∧ G d = some (exd d fs)
section
variable {G G' H H' : Hp} {R : Res} {K : PySem.W.Frag} {Q : VK} {E : XK} {a d C : Addr} {o u : HO} {fs : List (Str × V)} {f f1 f2 f3 : Str} {v v1 v2 v3 : V} {σ : L2.St} {te : TE} {t tk : TA}
theorem ErrAt.same (h : ErrAt G a C fs) (e : Same G G') : ErrAt G' a C fs := by
  rcases h with ⟨h1, h2⟩ | ⟨d, h1, h2⟩
  · exact .inl ⟨h1, e _ _ h2⟩
  · exact .inr ⟨d, e _ _ h1, e _ _ h2⟩
theorem Wd.mkE (w : Wd G R H) (ha : H a = none) (hd : H d = none) (hda : d ≠ a) (e1 : H' a = some o) (e2 : H' d = some u) (e3 : ∀ b, b ≠ a → b ≠ d → H' b = H b) : Wd (upd (upd G a o) d u) R H' := by
  have w1 : Wd (upd G a o) R (upd H a o) := w.new ha
  have w2 : Wd (upd (upd G a o) d u) R (upd (upd H a o) d u) := w1.new (by rw [upd_ne hda]; exact hd)
  have : H' = upd (upd H a o) d u := by
    funext b
    by_cases hb : b = d
    · rw [hb, upd_same, e2]
    · rw [upd_ne hb]
      by_cases hb' : b = a
      · rw [hb', upd_same, e1]
      · rw [upd_ne hb', e3 b hb' hb]
  rw [this]
  exact w2
theorem mkE_err (w : Wd G R H) (ha : H a = none) (hd : H d = none) (hda : d ≠ a) : Same G (upd (upd G a (exo a C (some d))) d (exd d fs)) ∧ ErrAt (upd (upd G a (exo a C (some d))) d (exd d fs)) a C fs := by
  have ga := w.free ha
  have gd : upd G a (exo a C (some d)) d = none := by rw [upd_ne hda]; exact w.free hd
  exact ⟨Same.trans (Same.newG ga) (Same.newG gd), .inr ⟨d, by rw [upd_ne (Ne.symm hda)]; exact upd_same, upd_same⟩⟩
/-- what a made error gives -/
def MkQ (G : Hp) (R : Res) (C : Addr) (fs : List (Str × V)) (Q : VK) : Prop := ∀ a G' H', Same G G' → G a = none → ErrAt G' a C fs → Wd G' R H' → Q (.ref a) H'
theorem g_mk0 (w : Wd G R H) (k : MkQ G R C [] Q) : ∀ a, H a = none → spExc0 C [.ref a] (upd H a (exo a C none)) (fun v H3 => v = .non ∧ Q (.ref a) H3) E := fun a ha =>
  ⟨a, rfl, upd_same, rfl, k a _ _ (Same.newG (w.free ha)) (w.free ha) (.inl ⟨rfl, upd_same⟩) (w.new ha)⟩
theorem g_mk1 (w : Wd G R H) (k : MkQ G R C [(f, v)] Q) : ∀ a, H a = none → spExc1 C f [.ref a, v] (upd H a (exo a C none)) (fun v H3 => v = .non ∧ Q (.ref a) H3) E := fun a ha => by
  refine ⟨a, v, rfl, upd_same, fun d hd hda => ⟨rfl, ?_⟩⟩
  have hd' : H d = none := by rw [upd_ne hda] at hd; exact hd
  obtain ⟨s, e⟩ := mkE_err (C := C) (fs := [(f, v)]) w ha hd' hda
  refine k a _ _ s (w.free ha) e (w.mkE ha hd' hda upd_same ?_ ?_)
  · rw [upd_ne hda]; exact upd_same
  · intro b h1 h2
    rw [upd_ne h1, upd_ne h2, upd_ne h1]
theorem g_mk2 (w : Wd G R H) (k : MkQ G R C [(f2, v2), (f1, v1)] Q) : ∀ a, H a = none → spExc2 C f1 f2 [.ref a, v1, v2] (upd H a (exo a C none)) (fun v H3 => v = .non ∧ Q (.ref a) H3) E := fun a ha => by
  refine ⟨a, v1, v2, rfl, upd_same, fun d H' hd hda e1 e2 e3 => ⟨rfl, ?_⟩⟩
  have hd' : H d = none := by rw [upd_ne hda] at hd; exact hd
  obtain ⟨s, e⟩ := mkE_err (C := C) (fs := [(f2, v2), (f1, v1)]) w ha hd' hda
  exact k a _ _ s (w.free ha) e (w.mkE ha hd' hda e1 e2 fun b h1 h2 => by rw [e3 b h1 h2, upd_ne h1])
theorem g_mk3 (w : Wd G R H) (k : MkQ G R C [(f3, v3), (f2, v2), (f1, v1)] Q) : ∀ a, H a = none → spExc3 C f1 f2 f3 [.ref a, v1, v2, v3] (upd H a (exo a C none)) (fun v H3 => v = .non ∧ Q (.ref a) H3) E := fun a ha => by
  refine ⟨a, v1, v2, v3, rfl, upd_same, fun d H' hd hda e1 e2 e3 => ⟨rfl, ?_⟩⟩
  have hd' : H d = none := by rw [upd_ne hda] at hd; exact hd
  obtain ⟨s, e⟩ := mkE_err (C := C) (fs := [(f3, v3), (f2, v2), (f1, v1)]) w ha hd' hda
  exact k a _ _ s (w.free ha) e (w.mkE ha hd' hda e1 e2 fun b h1 h2 => by rw [e3 b h1 h2, upd_ne h1])
def MkC (C : Addr) (n m : Nat) (sp : SpC) (vs zs : List V) (H : Hp) (Q : VK) : Prop := vs.length = n ∧ zs.length = m ∧ n ≤ 1000 ∧ ∀ a, H a = none → sp (.ref a :: vs) zs (upd H a (exo a C none)) (fun v H3 => v = .non ∧ Q (.ref a) H3) (fun _ _ _ => False)
theorem g_mk0p {n m : Nat} (w : Wd G R H) (k : MkQ G R C [] Q) (h1 : ([] : List V).length = n := by rfl) (h2 : ([] : List V).length = m := by rfl) (h3 : n ≤ 1000 := by decide) : MkC C n m (fun vs zs => spExc0 C (vs ++ zs.reverse)) [] [] H Q := ⟨h1, h2, h3, g_mk0 w k⟩
theorem g_mk1p {n m : Nat} (w : Wd G R H) (k : MkQ G R C [(f, v)] Q) (h1 : ([v] : List V).length = n := by rfl) (h2 : ([] : List V).length = m := by rfl) (h3 : n ≤ 1000 := by decide) : MkC C n m (fun vs zs => spExc1 C f (vs ++ zs.reverse)) [v] [] H Q := ⟨h1, h2, h3, g_mk1 w k⟩
theorem g_mk1k {n m : Nat} (w : Wd G R H) (k : MkQ G R C [(f, v)] Q) (h1 : ([] : List V).length = n := by rfl) (h2 : ([v] : List V).length = m := by rfl) (h3 : n ≤ 1000 := by decide) : MkC C n m (fun vs zs => spExc1 C f (vs ++ zs.reverse)) [] [v] H Q := ⟨h1, h2, h3, g_mk1 w k⟩
theorem g_mk2p {n m : Nat} (w : Wd G R H) (k : MkQ G R C [(f2, v2), (f1, v1)] Q) (h1 : ([v1, v2] : List V).length = n := by rfl) (h2 : ([] : List V).length = m := by rfl) (h3 : n ≤ 1000 := by decide) : MkC C n m (fun vs zs => spExc2 C f1 f2 (vs ++ zs.reverse)) [v1, v2] [] H Q := ⟨h1, h2, h3, g_mk2 w k⟩
theorem g_mk2k {n m : Nat} (w : Wd G R H) (k : MkQ G R C [(f2, v2), (f1, v1)] Q) (h1 : ([] : List V).length = n := by rfl) (h2 : ([v2, v1] : List V).length = m := by rfl) (h3 : n ≤ 1000 := by decide) : MkC C n m (fun vs zs => spExc2 C f1 f2 (vs ++ zs.reverse)) [] [v2, v1] H Q := ⟨h1, h2, h3, g_mk2 w k⟩
theorem g_mk3p {n m : Nat} (w : Wd G R H) (k : MkQ G R C [(f3, v3), (f2, v2), (f1, v1)] Q) (h1 : ([v1, v2, v3] : List V).length = n := by rfl) (h2 : ([] : List V).length = m := by rfl) (h3 : n ≤ 1000 := by decide) : MkC C n m (fun vs zs => spExc3 C f1 f2 f3 (vs ++ zs.reverse)) [v1, v2, v3] [] H Q := ⟨h1, h2, h3, g_mk3 w k⟩
theorem g_mk3k {n m : Nat} (w : Wd G R H) (k : MkQ G R C [(f3, v3), (f2, v2), (f1, v1)] Q) (h1 : ([] : List V).length = n := by rfl) (h2 : ([v3, v2, v1] : List V).length = m := by rfl) (h3 : n ≤ 1000 := by decide) : MkC C n m (fun vs zs => spExc3 C f1 f2 f3 (vs ++ zs.reverse)) [] [v3, v2, v1] H Q := ⟨h1, h2, h3, g_mk3 w k⟩
theorem g_excG {n m : Nat} {sp : SpC} (k : t σ H fun vs H1 => tk σ H1 fun zs H2 => MkC C n m sp vs zs H2 Q) : tExcG C n m sp t tk σ H Q := k
theorem g_tXv (k : te σ H fun x H1 => ∃ (a C dd : Addr) (fs : List (Str × V)) (v : V), x = .ref a ∧ ExAt H1 a C (some dd) ∧ DxAt H1 dd fs ∧ XfC K C ∧ PySem.W.findIn K (.ref C) f = some none ∧ fs.lookup f = some v ∧ Q v H1) : tXv K f te σ H Q := k
theorem g_isV {c : V} {cv : Value} {b : Bool} (w : Wd G R H) (h : ErrAt G a C fs) (ec : ExcC K C) (hc : ∀ u, RelV c u → u = cv) (hk : PySem.W.kitOne K (.ref C) cv = some b) (k : Q (.bl b) H) : rIsV K [.ref a, c] H Q := by
  rcases h with ⟨h1, h2⟩ | ⟨d, h1, h2⟩
  · exact ⟨a, C, none, c, cv, b, rfl, .inl (w.get h2), fun _ z => (nomatch z), ec, hc, hk, k⟩
  · exact ⟨a, C, some d, c, cv, b, rfl, .inl (w.get h1), fun dd z => ⟨fs, by cases z; exact .inl (w.get h2)⟩, ec, hc, hk, k⟩
theorem g_xv {P : V → Prop} (w : Wd G R H) (h : ErrAt G a C fs) (xf : XfC K C) (hno : PySem.W.findIn K (.ref C) f = some none) (hl : fs.lookup f = some v) (k : P v) :
    ∃ (a' C' dd : Addr) (fs' : List (Str × V)) (v' : V), V.ref a = .ref a' ∧ ExAt H a' C' (some dd) ∧ DxAt H dd fs' ∧ XfC K C' ∧ PySem.W.findIn K (.ref C') f = some none ∧ fs'.lookup f = some v' ∧ P v' := by
  rcases h with ⟨rfl, h2⟩ | ⟨d, h1, h2⟩
  · cases hl
  · exact ⟨a, C, d, fs, v, rfl, .inl (w.get h1), .inl (w.get h2), xf, hno, hl, k⟩
theorem g_pairs1 {P : List (V × V) → Hp → Prop} {t1 t2 : TE} {r : List (TE × TE)} (k : t1 σ H fun x H1 => t2 σ H1 fun y H2 => tPairs r σ H2 fun ps H3 => P ((x, y) :: ps) H3) : tPairs ((t1, t2) :: r) σ H P := k
theorem g_pairs0 {P : List (V × V) → Hp → Prop} (k : P [] H) : tPairs [] σ H P := k
theorem g_abs {i : Int} (k : Q (.int (if i < 0 then -i else i)) H) : (fun xs H Q => ∃ i, xs = [V.int i] ∧ Q (.int (if i < 0 then -i else i)) H : List V → Hp → VK → Prop) [.int i] H Q := ⟨i, rfl, k⟩
end
/-- a new object; what is known grows by it -/
theorem g_newA {G H : Hp} {R : Res} {Q : VK} (w : Wd G R H) {o : HO} {n : Nat} (hz : n ≤ sizeLine) (k : ∀ p G' H', G p = none → Same G G' → G' p = some o → Wd G' R H' → Q (.ref p) H') : n ≤ sizeLine ∧ NewO o H Q :=
  ⟨hz, fun p hp => k p _ _ (w.free hp) (Same.newG (w.free hp)) upd_same (w.new hp)⟩
theorem g_newO {G H : Hp} {R : Res} {Q : VK} (w : Wd G R H) {o : HO} (k : ∀ p G' H', G p = none → Same G G' → G' p = some o → Wd G' R H' → Q (.ref p) H') : NewO o H Q :=
  fun p hp => k p _ _ (w.free hp) (Same.newG (w.free hp)) upd_same (w.new hp)
theorem g_addLA {G H : Hp} {R : Res} {Q : VK} {K : PySem.W.Frag} {a b : Addr} {xs ys : List V} (w : Wd G R H) (h1 : G a = some (.lst xs)) (h2 : G b = some (.lst ys)) (hz : xs.length + ys.length ≤ sizeLine) (k : ∀ p G' H', G p = none → Same G G' → G' p = some (.lst (xs ++ ys)) → Wd G' R H' → Q (.ref p) H') : aAdd K (.ref a) (.ref b) H Q :=
  g_addL w h1 h2 hz fun p H' n w' => k p _ H' n (Same.newG n) upd_same w'
theorem g_slLA {G H : Hp} {R : Res} {Q : VK} {K : PySem.W.Frag} {a : Addr} {xs : List V} {lo hi : Option Int} (w : Wd G R H) (h : SqL K G a xs) (k : ∀ p G' H', G p = none → Same G G' → G' p = some (.lst (cutV xs lo hi)) → Wd G' R H' → Q (.ref p) H') : aSl K (.ref a) lo hi H Q :=
  g_slL w h fun p H' n w' => k p _ H' n (Same.newG n) upd_same w'
/-- a list changed: what was known of others stays -/
theorem Same.setL {G0 G : Hp} {l : Addr} {o : HO} (e : Same G0 G) (n : G0 l = none) : Same G0 (upd G l o) := fun b u h => by
  rw [upd_ne (ne_of_none h n)]
  exact e b u h
theorem ErrAt.setL {G : Hp} {a C l : Addr} {fs : List (Str × V)} {xs ys : List V} (h : ErrAt G a C fs) (hl : G l = some (.lst xs)) : ErrAt (upd G l (.lst ys)) a C fs := by
  have key : ∀ {b : Addr} {phi}, G b = some (.ext phi) → b ≠ l := fun {b phi} e z => by
    rw [z, hl] at e
    cases e
  rcases h with ⟨h1, h2⟩ | ⟨d, h1, h2⟩
  · exact .inl ⟨h1, by rw [upd_ne (key h2)]; exact h2⟩
  · exact .inr ⟨d, by rw [upd_ne (key h1)]; exact h1, by rw [upd_ne (key h2)]; exact h2⟩
theorem hu120 {k : Nat} {A : Around} (h : Room k A) : A.units + 120 < cLine := by have := h.un; omega
/-! ### small data -/
structure Tz (n : Nat) (d : PyData) : Prop where
  s : d.showable = true
  dp : d.depth ≤ 6
  l : d.shown.length ≤ n
theorem g_reprZ {K : PySem.W.Frag} {G : Hp} {R : Res} {H : Hp} {v : V} {d : PyData} {Q : VK} {n : Nat} (w : Wd G R H) (h : Dq K G v d) (t : Tz n d) (hn : n ≤ 100000) (k : Q (.str d.shown) H) : qRepr K [v] H Q :=
  ⟨v, d, rfl, h.mono w.sub, t.s, Nat.le_trans t.dp (by decide), by have := t.l; rw [sizeLine_eq]; omega, k⟩
end Sw

set_option Elab.async false
set_option linter.all false
set_option maxRecDepth 100000
set_option maxHeartbeats 4000000
namespace Sw
open PySem PySem.Spec PyProof.Rows L2
/-! ### set(t), t a tuple of keys of one kind: how many different ones there are -/
section
variable {κ : Type} [DecidableEq κ]
def dcnt (ks : List κ) : Nat → Nat
  | 0 => 0
  | i + 1 => match ks[i]? with
    | some k => if k ∈ ks.take i then dcnt ks i else dcnt ks i + 1
    | none => dcnt ks i
theorem dcnt_le (ks : List κ) : ∀ i, dcnt ks i ≤ i
  | 0 => Nat.le_refl _
  | i + 1 => by
    have := dcnt_le ks i
    unfold dcnt
    split
    · split <;> omega
    · omega
theorem dcnt_take (ks : List κ) : ∀ i, i ≤ ks.length → (dcnt ks i = i ↔ (ks.take i).Nodup)
  | 0, _ => by simp [dcnt]
  | i + 1, h => by
    have ih := dcnt_take ks i (by omega)
    have le := dcnt_le ks i
    have e : ks[i]? = some ks[i] := List.getElem?_eq_getElem (by omega)
    unfold dcnt
    rw [e, List.take_add_one, e]
    simp only [Option.toList_some]
    rw [List.nodup_append]
    by_cases m : ks[i] ∈ ks.take i
    · rw [if_pos m]
      constructor
      · intro z; omega
      · intro z
        exact absurd rfl (z.2.2 _ m _ (List.mem_singleton.mpr rfl))
    · rw [if_neg m]
      constructor
      · intro z
        refine ⟨ih.mp (by omega), by simp, fun a ha b hb z => ?_⟩
        rw [List.mem_singleton] at hb
        subst hb
        subst z
        exact m ha
      · intro z
        have := ih.mpr z.1
        omega
theorem dcnt_nodup (ks : List κ) : dcnt ks ks.length = ks.length ↔ ks.Nodup := by
  rw [dcnt_take ks ks.length (Nat.le_refl _), List.take_length]
end
section
variable {prog : Program} {w : World} {A : Around} {R : Result → Shared → Prop} {κ : Type} [DecidableEq κ] {knd : KeyKind prog w κ} {I : Addr} {fp wr : List Addr} {G : Array GenState → Array GenState → Prop} {n : Nat} {Pv : Nat → Value → Prop} {St : Nat → Shared → Prop}
theorem set_congr {h : Heap} {a : Addr} {S S' : κ → Bool} {n n' : Nat} (x : h.SetOf knd a S n) (e : ∀ k, S k = S' k) (en : n = n') : h.SetOf knd a S' n' := by
  obtain rfl : S = S' := funext e
  subst en
  exact x
theorem set_keep {h h' : Heap} {a : Addr} {S : κ → Bool} {n : Nat} (x : h.SetOf knd a S n) (k : ∀ o, h.get? a = some o → h'.get? a = some o) : h'.SetOf knd a S n := by
  obtain ⟨o, es, ep, t, ho, z⟩ := x
  exact ⟨o, es, ep, t, k o ho, z⟩
theorem set_upd (W : WalksS prog w A.in1 I fp wr G n Pv St) (S : Addr) (out : S ∉ fp) (ks : List κ) (hn : n = ks.length) (room : ks.length + 1 < scanBound) (hval : ∀ i v, Pv i v → ∃ k, ks[i]? = some k ∧ knd.is k v = true ∧ v.scannable = true) :
    ∀ (j i : Nat) (s : Shared), n - i = j → i ≤ n → St i s → s.heap.SetOf knd S (fun k => decide (k ∈ ks.take i)) (dcnt ks i) →
      (∀ s', Moved (S :: wr) G s s' → s'.heap.SetOf knd S (fun k => decide (k ∈ ks.take n)) (dcnt ks n) → R (.ok (.ret .none)) s') → codeAny (model prog w) A (.builtin "set.update.loop" ⟨[.ref S, .ref I], []⟩) R s := by
  have outW : S ∉ wr := fun z => out (W.sub _ z)
  have more : ∀ b ∈ wr, b ∈ S :: wr := fun b z => List.mem_cons_of_mem _ z
  intro j
  induction j with
  | zero =>
    intro i s hj hi st hS fin
    obtain rfl : i = n := by omega
    refine codeAny_builtin F.entry_set_update_loop ?_
    rw [Around.under_plainId F.plain_set_update_loop _]
    show wpAny _ A.in1 (pyNext (.ref I) >>= _) _ _ s
    refine wpAny_bind (W.done s _ _ st fun s' mv => ?_)
    exact wpAny_pure (fin s' (mv.mono more) (set_keep hS fun o z => mv.heap S _ outW z))
  | succ j ih =>
    intro i s hj hi st hS fin
    have lt : i < n := by omega
    refine codeAny_builtin F.entry_set_update_loop ?_
    rw [Around.under_plainId F.plain_set_update_loop _]
    show wpAny _ A.in1 (pyNext (.ref I) >>= _) _ _ s
    refine wpAny_bind (W.item i s _ _ lt st fun v s' hP st' mv => ?_)
    obtain ⟨k, hk, isk, sck⟩ := hval i v hP
    have hS' := set_keep hS (h' := s'.heap) fun o z => mv.heap S _ outW z
    have cle := dcnt_le ks i
    show wpAny _ A.in1 (holding [v] (setAdd S v) >>= _) _ _ s'
    refine wpAny_bind (wpAny_holding ?_)
    unfold setAdd
    refine wpAny_holding ?_
    refine wpAny_bind (knd.pyHash (k := k) isk ?_)
    refine wpAny_setAddHashed_of (knd := knd) (s := { s' with toks := s'.toks + 1 }) isk sck hS' (by omega) fun h' sb hS2 => ?_
    have e1 : dcnt ks (i + 1) = if k ∈ ks.take i then dcnt ks i else dcnt ks i + 1 := by
      conv => lhs; unfold dcnt
      rw [hk]
    have hS3 : h'.SetOf knd S (fun k => decide (k ∈ ks.take (i + 1))) (dcnt ks (i + 1)) := set_congr hS2 (fun k' => by
      rw [List.take_add_one, hk]
      simp) (by rw [e1]; simp)
    refine wpAny_pure ⟨plainId_quiet F.plain_set_update_loop _, ih (i + 1) _ (by omega) lt (W.frame _ s' _ _ st' (Nat.le_succ _) fun b hb o z => ?_) hS3 fun s'' mv'' hS'' => ?_⟩
    · rw [sb.2 b fun q => out (by rw [← q]; exact hb)]
      exact z
    · refine fin s'' (Moved.trans W.gtrans ((mv.mono more).then_heap (Nat.le_succ _) fun b o hb z => ?_) mv'') hS''
      rw [sb.2 b fun q => hb (by rw [q]; exact List.mem_cons_self)]
      exact z
end
section
variable {prog : Program} {w : World} {A : Around} {E : Value → Shared → Prop} {s : Shared} {κ : Type} [DecidableEq κ] {knd : KeyKind prog w κ}
set_option maxHeartbeats 8000000 in
theorem call_set_tup {l : Addr} {items : Array Value} {ks : List κ} {Q : Value → Shared → Prop} (hh : A.handled = none) (hl : s.heap.IsTuple l items) (hz : ks.length = items.size) (room : ks.length + 1 < scanBound) (hval : ∀ (i : Nat) (v : Value), items[i]? = some v → ∃ k, ks[i]? = some k ∧ knd.is k v = true ∧ v.scannable = true)
    (fin : ∀ (h' : Heap) (tk : Nat), h'.SetOf knd s.heap.objs.size (fun k => decide (k ∈ ks.take items.size)) (dcnt ks items.size) → (∀ b o, b < s.heap.objs.size → s.heap.get? b = some o → h'.get? b = some o) → Q (.ref s.heap.objs.size) { s with heap := h', toks := tk }) :
    wpAny (model prog w) A (call (.type "set") [.ref l]) Q E s := by
  obtain ⟨c, tl, hmro⟩ := PySem.F.called_set.mro
  have hmade := PySem.F.called_set.made
  have hsub := PySem.F.called_set.sub
  refine wpAny_call (codeAny_of_tree ?_)
  show wpAny _ _ (callAny (.type "set") _) _ _ _
  refine wpAny_pure ⟨Code.quiet_builtin _ (by decide +kernel), codeAny_builtin PySem.F.entry_type_call ?_⟩
  rw [Around.under_plain (weight_type_call_type "set" [.ref l] []) rfl]
  have q1 := PySem.F.called_set.notType
  have q2 := PySem.F.called_set.canCreate
  have q3 := PySem.F.typeCall_set_1 (.ref l)
  repeat (any_goals (first | assumption | wp_step))
  refine codeAny_mono (code_set_new_1 (.ref l) (E := E) (Q₁ := fun obj s₁ => ∃ led : Bool, obj = .ref s.heap.objs.size ∧ s₁ = { s with heap := s.heap.push { cls := .type "set", dict := none, data := .set #[] 0 (.fresh 0 0 led) } }) fun led => ⟨led, rfl, rfl⟩) fun r s₁ hr => ?_
  cases r with
  | error e => exact hr
  | ok fl =>
    cases fl with
    | next => exact hr.elim
    | brk => exact hr.elim
    | cont => exact hr.elim
    | ret obj =>
      obtain ⟨led, rfl, rfl⟩ := hr
      have hS : (s.heap.push { cls := .type "set", dict := none, data := .set #[] 0 (.fresh 0 0 led) }).get? s.heap.objs.size = some { cls := .type "set", dict := none, data := .set #[] 0 (.fresh 0 0 led) } := Heap.get?_push_size _ rfl
      have hT : Shared.TypeIs { s with heap := s.heap.push { cls := .type "set", dict := none, data := .set #[] 0 (.fresh 0 0 led) } } (.ref s.heap.objs.size) "set" := ⟨_, hS, rfl⟩
      have hli := PySem.F.called_set.init.lookup
      have hbi := PySem.F.called_set.init.bind (.ref s.heap.objs.size)
      repeat (any_goals (first | assumption | wp_step))
      refine codeAny_mono (codeAny_call_builtin (R := wants (fun r s₂ => r = .none ∧ ∃ h' tk, s₂ = { s with heap := h', toks := tk } ∧
          h'.SetOf knd s.heap.objs.size (fun k => decide (k ∈ ks.take items.size)) (dcnt ks items.size) ∧
          (∀ b o, b < s.heap.objs.size → s.heap.get? b = some o → h'.get? b = some o)) E) PySem.F.called_set.init.plain PySem.F.entry_set_init (check_set_init_1 hT ?_)) fun r₂ s₂ hr₂ => ?_
      · obtain ⟨⟨cl', di', da', sl'⟩, hol, hcl, nl, hdl⟩ := hl
        simp only at hcl hdl
        subst hcl hdl
        have hol' : (s.heap.push { cls := .type "set", dict := none, data := .set #[] 0 (.fresh 0 0 led) }).get? l = some { cls := .type "tuple", dict := di', data := .seq items nl, slots := sl' } := Heap.get?_push_of_some _ hol
        have z1 := PySem.F.sub_tuple_set
        have z2 := PySem.F.sub_tuple_frozenset
        have z3 : (Value.type "tuple" == Value.type "dict") = false := by decide
        have hl1 : (s.heap.push { cls := .type "set", dict := none, data := .set #[] 0 (.fresh 0 0 led) }).IsTuple l items := ⟨_, hol', rfl, nl, rfl⟩
        unfold Builtin.«set.__init__» noKeywords Builtin.Frozenset.updateFrom
        generalize hPI : pyIter = PI
        wp_walk
        subst hPI
        refine wpAny_pyIter_tuple hl1 ?_
        refine wpAny_bind (wpAny_runValue ?_)
        have lt := Heap.lt_size hol
        have hh3 : A.in1.in1.in1.handled = none := by simp [hh]
        have ne1 : l ≠ (s.heap.push { cls := .type "set", dict := none, data := .set #[] 0 (.fresh 0 0 led) }).objs.size := by
          rw [Heap.size_push]
          exact Nat.ne_of_lt (Nat.lt_succ_of_lt lt)
        have nf : s.heap.objs.size ∉ [(s.heap.push { cls := .type "set", dict := none, data := .set #[] 0 (.fresh 0 0 led) }).objs.size, l] := by
          rw [Heap.size_push]
          simp only [List.mem_cons, List.mem_singleton, List.not_mem_nil, or_false, not_or]
          exact ⟨Nat.ne_of_lt (Nat.lt_succ_self _), Nat.ne_of_gt lt⟩
        refine set_upd (knd := knd) ((Walks.tuple hh3 _ l ne1 items).toS) s.heap.objs.size nf ks hz.symm room hval (items.size - 0) 0 _ (by omega) (Nat.zero_le _) ⟨⟨_, Heap.get?_push_size _ rfl, rfl, rfl⟩, (hl1.push _)⟩ ?begin ?finish
        case begin =>
          have hget : ((s.heap.push { cls := .type "set", dict := none, data := .set #[] 0 (.fresh 0 0 led) }).push { cls := .type "tuple_iterator", data := .fields #[.ref l, .int 0 0] }).get? s.heap.objs.size
              = some { cls := .type "set", dict := none, data := .set #[] 0 (.fresh 0 0 led) } := Heap.get?_push_of_some _ hS
          exact set_congr ((PyProof.Rows.setObjOf_fresh (knd := knd) led).setOf hget (by unfold scanBound; omega)) (fun _ => by simp) rfl
        case finish =>
          intro s' mv hS'
          obtain ⟨h', g', d', tk', os'⟩ := s'
          have eg : g' = s.gens := mv.gens
          have ed : d' = s.drawn := mv.drawn
          have eo : os' = s.os := mv.os
          subst eg ed eo
          show wpAny _ _ _ _ _ _
          refine wpAny_pure ?_
          show wpAny _ _ (ret Value.none) _ _ _
          refine wpAny_pure ⟨rfl, h', tk', rfl, hS', fun b o hb z => ?_⟩
          have ne2 : b ≠ (s.heap.push { cls := .type "set", dict := none, data := .set #[] 0 (.fresh 0 0 led) }).objs.size := by
            rw [Heap.size_push]
            exact Nat.ne_of_lt (Nat.lt_succ_of_lt hb)
          have k1 := Heap.get?_push_of_some ({ cls := .type "set", dict := none, data := .set #[] 0 (.fresh 0 0 led) } : Obj) z
          exact mv.heap b o (by simp only [List.mem_cons, List.mem_singleton, List.not_mem_nil, or_false, not_or]; exact ⟨Nat.ne_of_lt hb, ne2⟩) (Heap.get?_push_of_some _ k1)
      · cases r₂ with
        | error e => exact hr₂
        | ok fl₂ =>
          cases fl₂ with
          | ret r =>
            obtain ⟨rfl, h', tk, rfl, hS', hk'⟩ := hr₂
            repeat (any_goals (first | assumption | wp_step))
            exact fin _ _ hS' hk'
          | next => exact hr₂.elim
          | brk => exact hr₂.elim
          | cont => exact hr₂.elim
end
/-- len(set(t)), t a tuple of texts -/
def tLenSetT (K : PySem.W.Frag) (ta : TE) : TE := fun σ H Q => ta σ H fun x H1 => ∃ l, ∃ xs : List Str, x = .ref l ∧ SqT K H1 l (xs.map V.str) ∧ xs.length ≤ 20 ∧ Q (.int (dcnt xs xs.length)) H1
theorem pe_lenSetT {X : Cx} {a : Expr} {ta : TE} {p p2 q pos : Pos} (K : PySem.W.Frag) (hc : X.calm = true) (hg : Gl X "len") (hm : X.mg "len" = none) (hg2 : Gl X "set") (hm2 : X.mg "set" = none) (ha : PE X a ta) (hK : X.K = K := by rfl)
    (na : starEach [a] X.env = (false, eval a X.env) :: starEach [] X.env := by rfl) : PE X (.Call (.Name "len" p) [.Call (.Name "set" p2) [a] [] q] [] pos) (tLenSetT K ta) := by
  subst hK
  refine ⟨fun pins s σ H Q I h => ?_⟩
  refine Call_ (ld_blt I hg hm boot_len ?_)
  refine PyProof.Rows.callWith_builtin1 (PyProof.Rows.args_cons ?_ rfl) rfl rfl
  refine Call_ (ld_blt I hg2 hm2 boot_set ?_)
  refine PyProof.Rows.callWith_type1 (PyProof.Rows.args_cons (thn (ha.run pins s σ H _ I h) fun v s1 ⟨x, H1, I1, r1, q1⟩ => PyProof.Rows.args_nil ?_) na) na rfl
  obtain ⟨l, xs, rfl, hq, hx, q1⟩ := q1
  cases r1
  obtain ⟨its, r, pl, hz⟩ := I1.tuple hq
  have sa := strsAre_of r
  have le : its.length = xs.length := by rw [← r.length, List.length_map]
  refine call_set_tup (knd := PySem.strKind X.prog X.w) (ks := xs) (I1.ok.hd hc) pl (by rw [List.size_toArray, le]) (by unfold scanBound; omega) (fun i v hv => ?_) fun h' tk hS hk => ?_
  · have hv' : its[i]? = some v := by simpa using hv
    obtain ⟨t, e⟩ := SS.strs_at sa i v hv'
    have hi : i < xs.length := by rw [← le]; exact (List.getElem?_eq_some_iff.mp hv').1
    refine ⟨xs[i], List.getElem?_eq_getElem hi, ?_, ?_⟩
    · rw [e, List.getD_eq_getElem?_getD, List.getElem?_eq_getElem hi]
      exact strKind_is _ _ _ _
    · rw [e]; rfl
  · refine PyProof.Rows.args_nil ?_
    rw [show its.toArray.size = xs.length by rw [List.size_toArray, le]] at hS
    obtain ⟨o, es, ep, t, ho, hex, hd, _, _, _, hf, hn⟩ := hS
    have I2 : Inv X pins σ H1 { s1 with heap := h', toks := tk } := I1.kept fun b o e => hk b o (Heap.lt_size e) e
    have := dcnt_le xs xs.length
    refine call_len_set ho hex hd hf (by rw [hn]; omega) ⟨.int (dcnt xs xs.length), H1, I2.tok _, ⟨_, by rw [hn]⟩, q1⟩
theorem g_lenSetT {G H : Hp} {R : Res} {K : PySem.W.Frag} {Q : VK} {l : Addr} {xs : List Str} (w : Wd G R H) (h : SqT K G l (xs.map V.str)) (hx : xs.length ≤ 20) (k : Q (.int (dcnt xs xs.length)) H) :
    ∃ l', ∃ ys : List Str, V.ref l = .ref l' ∧ SqT K H l' (ys.map V.str) ∧ ys.length ≤ 20 ∧ Q (.int (dcnt ys ys.length)) H := ⟨l, xs, rfl, Evl.ex_t w.sub h, hx, k⟩
/-! ### xs == [] -/
def rEqL0 (K : PySem.W.Frag) : R2 := fun x y H Q => ∃ a b xs, x = .ref a ∧ y = .ref b ∧ SqL K H a xs ∧ SqL K H b [] ∧ Q (.bl xs.isEmpty) H
def rNeL0 (K : PySem.W.Frag) : R2 := fun x y H Q => ∃ a b xs, x = .ref a ∧ y = .ref b ∧ SqL K H a xs ∧ SqL K H b [] ∧ Q (.bl (!xs.isEmpty)) H
theorem op_eqL0 {X : Cx} (K : PySem.W.Frag) (hu : X.A.units + 64 < cLine) (hK : X.K = K := by rfl) : OpR X (compareOp .Eq) (rEqL0 K) := by
  subst hK
  intro pins s σ H x y v u Q I rx ry h
  obtain ⟨a, b, xs, rfl, rfl, ha, hb, q⟩ := h
  cases xs with
  | nil => exact op_eqF hu pins s σ H _ _ v u Q I rx ry ⟨a, b, [], [], rfl, rfl, ha, hb, rfl, rfl, q⟩
  | cons x xs =>
    cases rx
    cases ry
    obtain ⟨i1, r1, p1, z1⟩ := I.list ha
    obtain ⟨i2, r2, p2, z2⟩ := I.list hb
    have l1 := r1.length
    have l2 := r2.length
    refine SeqAt.RcAt.lists_lengths (A := X.A) p1.isList p2.isList (by simp only [List.size_toArray]; rw [← l1, ← l2]; simp) (by omega) X.prog X.w _ _ ?_
    exact ⟨.bl _, H, I, rfl, q⟩
theorem op_neL0 {X : Cx} (K : PySem.W.Frag) (hu : X.A.units + 64 < cLine) (hK : X.K = K := by rfl) : OpR X (compareOp .NotEq) (rNeL0 K) := by
  subst hK
  intro pins s σ H x y v u Q I rx ry h
  obtain ⟨a, b, xs, rfl, rfl, ha, hb, q⟩ := h
  cases xs with
  | nil => exact op_neF hu pins s σ H _ _ v u Q I rx ry ⟨a, b, [], [], rfl, rfl, ha, hb, rfl, rfl, q⟩
  | cons x xs =>
    cases rx
    cases ry
    obtain ⟨i1, r1, p1, z1⟩ := I.list ha
    obtain ⟨i2, r2, p2, z2⟩ := I.list hb
    have l1 := r1.length
    have l2 := r2.length
    refine SeqAt.RcNeAt.lists_lengths (A := X.A) p1.isList p2.isList (by simp only [List.size_toArray]; rw [← l1, ← l2]; simp) (by omega) X.prog X.w _ _ ?_
    exact ⟨.bl _, H, I, rfl, q⟩
theorem g_eqL0 {G H : Hp} {R : Res} {K : PySem.W.Frag} {Q : VK} {a b : Addr} {xs : List V} (w : Wd G R H) (h1 : SqL K G a xs) (h2 : SqL K G b []) (k : Q (.bl xs.isEmpty) H) : rEqL0 K (.ref a) (.ref b) H Q := ⟨a, b, xs, rfl, rfl, Evl.ex_l w.sub h1, Evl.ex_l w.sub h2, k⟩
theorem g_neL0 {G H : Hp} {R : Res} {K : PySem.W.Frag} {Q : VK} {a b : Addr} {xs : List V} (w : Wd G R H) (h1 : SqL K G a xs) (h2 : SqL K G b []) (k : Q (.bl (!xs.isEmpty)) H) : rNeL0 K (.ref a) (.ref b) H Q := ⟨a, b, xs, rfl, rfl, Evl.ex_l w.sub h1, Evl.ex_l w.sub h2, k⟩
end Sw

set_option Elab.async false
set_option linter.all false
set_option maxRecDepth 100000
set_option maxHeartbeats 4000000
namespace Sw
open PySem PySem.Spec PyProof.Rows L2
/-! ### an exception leaves a list comprehension -/
theorem noteB {M : Model} {A : Around} {E : Value → Shared → Prop} {env : Env} {outer : List Env} {s : Shared} {B : Heap} {Z : Obj → Prop} {a C L : Addr} {Q : Unit → Shared → Prop} (hZ : HandSPX.Steady Z) (hfr : A.frames = some (env :: outer)) (hf : env.frame = some L) (hC : C ≠ L)
    (hh : HandSPX.HeldZ B (env :: outer) a Z C s.heap) (hQ : ∀ h', HandSPX.HeldZ B (env :: outer) a Z L h' → s.heap.UpToSlots h' → Q () { s with heap := h' }) : wpAny M A (noteFrame (.ref a) env) Q E s := by
  obtain ⟨kb, na, ff, x, vs, t, y, ts, ex, zx, dx, x1, nt, ta, et, dt, t3⟩ := hh
  have ne1 : (Value.ref t != Value.none) = true := by simp
  have ne2 : ¬ ((rawInt C == rawInt L) = true) := by simp [rawInt]; exact fun z => hC (Int.ofNat.inj z)
  unfold noteFrame
  simp only [hf]
  refine wpAny_bind (wpAny_field ex dx x1 ?_)
  rw [if_pos ne1]
  refine wpAny_bind (wpAny_field et dt t3 ?_)
  rw [if_neg ne2]
  have l3 := (Array.getElem?_eq_some_iff.mp t3).1
  have l1 := (Array.getElem?_eq_some_iff.mp x1).1
  refine wpAny_bind (wpAny_setField et dt l3 ?_)
  have oth : ∀ b, b ≠ t → (s.heap.update t (Obj.mapFields (·.setIfInBounds 3 Value.none))).get? b = s.heap.get? b := fun b hb => Heap.get?_update_other _ _ fun z => hb z.symm
  have nrec : ∀ b o, s.heap.get? b = some o → (∀ us, o.data ≠ .fields us) → b ≠ t := fun b o hb hn z => by
    subst z
    rw [et] at hb
    cases hb
    exact hn ts dt
  have inB : ∀ b o, B.get? b = some o → b ≠ t := fun b o e z => by
    subst z
    rw [nt] at e
    cases e
  have ffs := ff.of_keeps (h' := s.heap.update t (Obj.mapFields (·.setIfInBounds 3 Value.none))) fun b o hb hn => ⟨o, (oth b (nrec b o hb hn)).trans hb, rfl⟩
  have exs := (oth a fun z => ta z.symm).trans ex
  refine HandSPX.wpAny_entryZ hZ hfr ffs hf exs (fun b o e => (oth b (inB b o e)).trans (kb b o e)) na dx l1 zx fun h' hN => ?_
  obtain ⟨q1, q2, q3, q4⟩ := hN
  exact hQ h' ⟨q1, na, q2, q3⟩ fun b o hb hn => q4 b o ((oth b (nrec b o hb hn)).trans hb) hn
theorem skyB {M : Model} {A : Around} {E : Value → Shared → Prop} {env : Env} {outer : List Env} {s : Shared} {B : Heap} {Z : Obj → Prop} {a C L : Addr} {Q : Unit → Shared → Prop} (hZ : HandSPX.Steady Z) (hfr : A.frames = some (env :: outer)) (hf : env.frame = some L) (hC : C ≠ L)
    (x : Sky B (env :: outer) a Z C s.heap) (hQ : ∀ h', HandSPX.HeldZ B (env :: outer) a Z L h' → s.heap.UpToSlots h' → Q () { s with heap := h' }) : wpAny M A (noteFrame (.ref a) env) Q E s := by
  rcases x with ⟨hB, hn, hl, oe, vs, he, hz, hd, h1⟩ | fl | hh
  · exact HandSPX.look_newZ hZ hfr hl hf he hB hn hd h1 hz hQ
  · exact HandSPX.looks_onZ hZ hfr hf fl hQ
  · exact noteB hZ hfr hf hC hh hQ
section
variable {X : Cx} {pins : List (Addr × Obj)} {σ : L2.St} {H3 : Hp} {s3 s' : Shared} {scope : Scope} {ce : Env} {fp : List Addr} {E : Value → Shared → Prop} {Wo : WX} {u : Value}
theorem lcX_out (I3 : Inv X pins σ H3 s3) (hs : X.stack = X.env :: X.outer) (hf : X.env.frame = some X.env.locals) (tw : Takes X Wo) (hcf : ce.frame = X.env.frame) (cL : ce.locals = s3.heap.objs.size) (f3 : ∀ b ∈ fp, FpOk X pins H3 b ∧ b < s3.heap.objs.size)
    (x : XE ((X.blk s3 H3 scope ce fp).wish E) (fun cls d _ H' => Wo cls d σ H') u s') : notedBy (model X.prog X.w) X.A ce (CompFails (model X.prog X.w) X.A X.xe ce) u s' := by
  obtain ⟨a, B, sI, pins', σ', H', cls, d, rfl, J', nb, up, sky, na, os, ag, hw⟩ := x
  have J : Inv (X.blk s3 H3 scope ce fp) pins' σ' H' sI := J'.unwish
  have hfr : X.A.frames = some (X.env :: X.outer) := by rw [I3.ok.frames, hs]
  have sky' : Sky B (X.env :: X.outer) a (Zc cls d) ce.locals s'.heap := by rw [← hs]; exact sky
  have nb' : ∀ b o, sI.heap.get? b = some o → b ∉ frs X.stack → B.get? b = some o := nb
  have hCL : ce.locals ≠ X.env.locals := by
    rw [cL]
    exact Nat.ne_of_gt I3.lt
  obtain ⟨m, hns, _⟩ := J.loc
  have hns' : sI.heap.Ns ce.locals m := hns
  -- back in the def
  have I7 : Inv X pins σ H' sI := I3.call' (ch := fp) J.os J.base J.hok J.bare fun b hb => ⟨(f3 b hb).1.2.2.2.1, (f3 b hb).1.2.1, (f3 b hb).1.2.2.2.2.1, (f3 b hb).1.2.2.2.2.2⟩
  have nC : H' s3.heap.objs.size = none := by
    have z : H' ce.locals = none := J.free
    rw [cL] at z
    exact z
  obtain ⟨f0, f1, f2, f4, f5, f6⟩ := I3.fpOk (Nat.le_refl _) nC
  obtain ⟨GI, g1, g2⟩ := restrict sI.heap fun b => !decide (b = ce.locals)
  obtain ⟨GB, b1, b2⟩ := restrict B fun b => !decide (b = ce.locals)
  have gI : ∀ b o, GI.get? b = some o → b ≠ ce.locals ∧ sI.heap.get? b = some o := fun b o e => by
    by_cases hb : b = ce.locals
    · rw [g2 b (by simp [hb])] at e
      cases e
    · exact ⟨hb, by rw [← g1 b (by simp [hb])]; exact e⟩
  have gB : ∀ b o, GB.get? b = some o → b ≠ ce.locals ∧ B.get? b = some o := fun b o e => by
    by_cases hb : b = ce.locals
    · rw [b2 b (by simp [hb])] at e
      cases e
    · exact ⟨hb, by rw [← b1 b (by simp [hb])]; exact e⟩
  have I2 : Inv X pins σ H' { sI with heap := GI, toks := sI.toks } := I7.turned (t' := sI.toks) (it := ce.locals) (fun b o hb e => by rw [g1 b (by simp [hb])]; exact e) (by rw [cL]; exact f0) (by rw [cL]; exact f1) (by rw [cL]; exact f4) (by rw [cL]; exact f5) (by rw [cL]; exact f6)
  show wpAny _ X.A (noteFrame (.ref a) ce) _ _ s'
  rw [noteFrame_env _ hcf]
  refine skyB Zc.steady hfr hf hCL sky' fun h1 hh up1 => ?_
  obtain ⟨st1, na1, ff1, oe, vs, T, oT, ts, he, hz, hd, hv1, hnT, hTe, hT, hdT, ht3⟩ := hh
  have upA : sI.heap.UpToSlots h1 := up.trans up1
  refine ⟨m, upA.ns hns', fun h2 m2 hn2 hs2 => ?_⟩
  have nsC : h1.Ns ce.locals m := upA.ns hns'
  have aC : a ≠ ce.locals := fun z => by
    obtain ⟨o, es, ep, ho, hdd, _⟩ := nsC
    rw [← z, he] at ho
    cases ho
    rw [hd] at hdd
    cases hdd
  have TC : T ≠ ce.locals := fun z => by
    obtain ⟨o, es, ep, ho, hdd, _⟩ := nsC
    rw [← z, hT] at ho
    cases ho
    rw [hdT] at hdd
    cases hdd
  have ff2 : h2.FunFrames GB (X.env :: X.outer) := by
    have q : ∀ {l : List Env}, h1.FunFrames B l → h1.FunFrames GB l := fun {l} => by
      induction l with
      | nil => exact fun _ => trivial
      | cons e r ih =>
        rintro ⟨k1, ⟨L', o, k2, k3, k4, k5⟩, k6⟩
        refine ⟨k1, ⟨L', o, k2, ?_, k4, k5⟩, ih k6⟩
        cases e' : GB.get? L' with
        | none => rfl
        | some o' =>
          have := (gB _ _ e').2
          rw [k3] at this
          cases this
    exact Heap.FunFrames.sameBut hs2 hn2 (q ff1)
  have st2 : GB.StaysIn h2 := fun b o e => by
    obtain ⟨n1, e1⟩ := gB b o e
    rw [hs2.2 b n1]
    exact st1 b o e1
  have naG : GB.get? a = none := by
    cases e' : GB.get? a with
    | none => rfl
    | some o' =>
      have := (gB _ _ e').2
      rw [na1] at this
      cases this
  have nTG : GB.get? T = none := by
    cases e' : GB.get? T with
    | none => rfl
    | some o' =>
      have := (gB _ _ e').2
      rw [hnT] at this
      cases this
  have he2 : h2.get? a = some oe := (hs2.2 a aC).trans he
  have hh2 : HandSPX.HeldZ GB (X.env :: X.outer) a (Zc cls d) X.env.locals h2 := ⟨st2, naG, ff2, oe, vs, T, oT, ts, he2, hz, hd, hv1, nTG, hTe, (hs2.2 T TC).trans hT, hdT, ht3⟩
  unfold PySem.passOn
  refine wpAny_bind (wpAny_field he2 hd hv1 ?_)
  rw [if_neg (by simp), hcf, hf]
  refine wpAny_bind (HandSPX.setFlight_onZ hh2 fun h3 hh3 up3 => wpAny_throw (tw _ _ ?_))
  refine ⟨a, GB, { sI with heap := GI, toks := sI.toks }, pins, σ, H', cls, d, rfl, I2, fun b o e hb => ?_, fun b o e hn => ?_, .inr (.inr (by rw [hs]; exact hh3)), na, os, ag, hw⟩
  · obtain ⟨n1, e1⟩ := gI b o e
    rw [b1 b (by simp [n1])]
    exact nb' b o e1 hb
  · obtain ⟨n1, e1⟩ := gI b o e
    obtain ⟨sl, e2⟩ := upA b o e1 hn
    obtain ⟨sl', e3⟩ := up3 b _ ((hs2.2 b n1).trans e2) hn
    exact ⟨sl', e3⟩
end
/-- [elt for target in iter if ..], elt may raise: Wo is what is wished of what leaves -/
def tLcX (wi : TI) (g : TG) (tt : TT) (te : WX → TE) (vs : List Nat) (Wo : WX) : TE := fun σ H Q => tLc wi g tt (te fun cls d _ H' => Wo cls d σ H') vs σ H Q
section
variable {X : Cx} {Wo : WX}
theorem lcX_core {pins : List (Addr × Obj)} {s : Shared} {σ : L2.St} {H : Hp} {Q : VK} {elt tg iter : Expr} {ifs : List Expr} {scope : Scope} {own : List (Str × Nat)} {pos pos' : Pos} {wi : TI} {g : TG} {tt : TT} {te : WX → TE} {use : Option (Value → Sem Unit)} {Qf : Value → Shared → Prop}
    (hc : X.calm = true) (hN : X.N.Nodup) (hst : X.stack = X.env :: X.outer) (hfm : X.env.frame = some X.env.locals) (tw : Takes X Wo) (I : Inv X pins σ H s) (hi : PI X tg iter wi) (ok : BlkOk X.N X.env.scope scope own)
    (hg : ∀ (s : Shared) (H : Hp) (C : Addr) (cl : List (Str × Addr)) (fp : List Addr), PG (X.blk s H scope (compEnvC scope cl C X.env) fp) tg g) (ht : ∀ (s : Shared) (H : Hp) (C : Addr) (cl : List (Str × Addr)) (fp : List Addr), PTs (X.blk s H scope (compEnvC scope cl C X.env) fp) ifs tt)
    (he : ∀ (s : Shared) (H : Hp) (C : Addr) (cl : List (Str × Addr)) (fp : List Addr) (E : Value → Shared → Prop) (W : WX), Takes ((X.blk s H scope (compEnvC scope cl C X.env) fp).wish E) W → PE ((X.blk s H scope (compEnvC scope cl C X.env) fp).wish E) elt (te W))
    (hs : ∀ x, foldedSetIterable iter X.env x = pure x) (h : tLcX wi g tt te (own.map (·.2)) Wo σ H Q)
    (fin : ∀ D s' m H' (ce : Env), ce.locals ≠ D → Inv X pins σ H' s' → Q (.ref D) H' → s'.heap.Ns ce.locals m → FpOk X pins H' ce.locals → compEnds (model X.prog X.w) X.A X.xe use Qf (.ref D) ce (.ok .next) s') :
    wpAny (model X.prog X.w) X.A (comprehension (.ListComp elt [⟨tg, iter, ifs, 0⟩] scope pos) scope X.env pos' (newList []) false (eval iter X.env) use) Qf X.xe s := by
  have free : ∀ y ∈ scope.names, y.2 = .free → ∃ c, X.env.cells.lookup y.1 = some c := fun y hy z => (ok.free y hy z).elim (fun k => I.ok.has _ (.inl k)) fun k => I.ok.has _ (.inr k)
  refine comprehension_at (use := use) rfl hs (closure_ok free) ok.kind (fun y hy z => by rw [ok.uniq y hy, z]) (thn (hi.run pins s σ H _ I h) fun v1 s1 h1 => thn h1 fun v2 s2 h2 => ?_)
  obtain ⟨it, fp, tn, J, H2, rfl, I2, T, st2, f2, q⟩ := h2
  refine wpAny_newObj_type (newEnv_comp ?_) (Nat.zero_le _)
  have nD : H2 s2.heap.objs.size = none := I2.hok.fresh (Nat.le_refl _)
  obtain ⟨W, ⟨m0, w0⟩, turn⟩ := q _ nD
  have push : ∀ b o, s2.heap.get? b = some o → (s2.heap.push ({ cls := .type "list", data := .seq ([] : List Value).toArray } : Obj)).get? b = some o := fun b o z => Heap.get?_push_of_some _ z
  have I3 : Inv X pins σ (upd H2 s2.heap.objs.size (.lst [])) { s2 with heap := s2.heap.push ({ cls := .type "list", data := .seq ([] : List Value).toArray } : Obj) } :=
    I2.laid (t' := s2.toks) push (Nat.le_refl _) ⟨Nat.zero_le _, [], 0, .nil, Heap.get?_push_size _ rfl⟩
  have old : ∀ b ∈ fp, b < s2.heap.objs.size := fun b hb => by
    obtain ⟨o, z, _⟩ := T.obj _ _ st2 b hb
    exact Heap.lt_size z
  have f3 : ∀ b ∈ fp, FpOk X pins (upd H2 s2.heap.objs.size (.lst [])) b ∧ b < (s2.heap.push ({ cls := .type "list", data := .seq ([] : List Value).toArray } : Obj)).objs.size := fun b hb => by
    have lt := old b hb
    obtain ⟨z1, z2⟩ := f2 b hb
    refine ⟨⟨?_, z2⟩, by rw [Heap.size_push]; exact Nat.lt_succ_of_lt lt⟩
    rw [upd_ne (Nat.ne_of_lt lt)]
    exact z1
  have st3 : tn 0 (s2.heap.push ({ cls := .type "list", data := .seq ([] : List Value).toArray } : Obj)) := T.keep _ _ _ st2 fun b _ o z => push b o z
  have nLD : s2.heap.objs.size < (s2.heap.push ({ cls := .type "list", data := .seq ([] : List Value).toArray } : Obj)).objs.size := by
    rw [Heap.size_push]
    exact Nat.lt_succ_self _
  generalize s2.heap.objs.size = D at *
  generalize hs3 : ({ s2 with heap := s2.heap.push ({ cls := .type "list", data := .seq ([] : List Value).toArray } : Obj) } : Shared) = s3 at *
  have e3 : s2.heap.push ({ cls := .type "list", data := .seq ([] : List Value).toArray } : Obj) = s3.heap := by rw [← hs3]
  rw [e3] at f3 st3 nLD
  generalize upd H2 D (.lst []) = H3 at *
  have I4 := block_start I3 ok hN f3
  have pg := hg s3 H3 s3.heap.objs.size (cellsFrom (s3.heap.objs.size + 1) scope.names (cloFrom X.env.cells scope.names [])) fp
  have pt := ht s3 H3 s3.heap.objs.size (cellsFrom (s3.heap.objs.size + 1) scope.names (cloFrom X.env.cells scope.names [])) fp
  have pe := he s3 H3 s3.heap.objs.size (cellsFrom (s3.heap.objs.size + 1) scope.names (cloFrom X.env.cells scope.names [])) fp
  show codeAny _ _ (.compStart (.ListComp elt [⟨tg, iter, ifs, 0⟩] scope pos) 0 (.ref it) (.ref D) (compEnvC scope (cellsFrom (s3.heap.objs.size + 1) scope.names (cloFrom X.env.cells scope.names [])) s3.heap.objs.size X.env))
    (compEnds (model X.prog X.w) X.A X.xe use Qf (.ref D) (compEnvC scope (cellsFrom (s3.heap.objs.size + 1) scope.names (cloFrom X.env.cells scope.names [])) s3.heap.objs.size X.env)) { s3 with heap := pushCells (s3.heap.push { cls := .type "dict", data := .dict #[] }) scope.names }
  have none3 : ∀ b ∈ fp, H3 b = none := fun b hb => (f3 b hb).1.1
  have cfr : (compEnvC scope (cellsFrom (s3.heap.objs.size + 1) scope.names (cloFrom X.env.cells scope.names [])) s3.heap.objs.size X.env).frame = X.env.frame := rfl
  have cL : (compEnvC scope (cellsFrom (s3.heap.objs.size + 1) scope.names (cloFrom X.env.cells scope.names [])) s3.heap.objs.size X.env).locals = s3.heap.objs.size := rfl
  generalize compEnvC scope (cellsFrom (s3.heap.objs.size + 1) scope.names (cloFrom X.env.cells scope.names [])) s3.heap.objs.size X.env = ce at *
  have st4 : tn 0 (pushCells (s3.heap.push { cls := .type "dict", data := .dict #[] }) scope.names) := T.keep _ _ _ st3 fun b _ o z => pushCells_keeps _ _ _ _ (Heap.get?_push_of_some _ z)
  generalize hs4 : ({ s3 with heap := pushCells (s3.heap.push { cls := .type "dict", data := .dict #[] }) scope.names } : Shared) = s4 at *
  have st4' : tn 0 s4.heap := by rw [← hs4]; exact st4
  have out := fun (u : Value) (s' : Shared) (E : Value → Shared → Prop) => lcX_out (scope := scope) (E := E) (u := u) (s' := s') I3 hst hfm tw cfr cL f3
  have blkFp : ∀ {σ' : L2.St} {H' : Hp} {s' : Shared}, Inv (X.blk s3 H3 scope ce fp) [] σ' H' s' → (∀ b ∈ fp, H' b = none) → ∀ b ∈ fp, FpOk (X.blk s3 H3 scope ce fp) [] H' b := fun {σ' H' s'} J hn b hb =>
    ⟨hn b hb, (J.ok.exf b hb).1, J.ok.exfs b hb, .inl hb, fun x c z => (J.ok.exf b hb).2 x c z, fun p hp => absurd (show p ∈ ([] : List (Addr × Obj)) ++ [] from hp) (by simp)⟩
  have loop : codeAny (model X.prog X.w) X.A (.compLoop (.ListComp elt [⟨tg, iter, ifs, 0⟩] scope pos) 0 (.ref it) (.ref D) ce) (compEnds (model X.prog X.w) X.A X.xe use Qf (.ref D) ce) s4 := by
    refine compLoop_any (fun n s' => ∃ i H', Inv (X.blk s3 H3 scope ce fp) [] (wipe σ (own.map (·.2))) H' s' ∧ tn i s'.heap ∧ (∀ b ∈ fp, H' b = none) ∧ W i n H') ?_ m0 ⟨0, H3, I4, st4', none3, w0⟩
    rintro n s5 ⟨i, H5, I5, st5, n5, w5⟩
    rcases turn i n H5 w5 with ⟨stop, qq⟩ | ⟨go, Nx, hNx, step⟩
    · refine thnF (T.done (X.blk s3 H3 scope ce fp) rfl rfl rfl hc i [] s5 _ H5 (fun _ _ => False) I5 (blkFp I5 n5) st5 stop) fun r s6 ⟨hr, I6⟩ => ?_
      subst hr
      have I7 : Inv X pins σ H5 s6 := I3.call' (ch := fp) I6.os I6.base I6.hok I6.bare fun b hb => ⟨(f3 b hb).1.2.2.2.1, (f3 b hb).1.2.1, (f3 b hb).1.2.2.2.2.1, (f3 b hb).1.2.2.2.2.2⟩
      obtain ⟨m, hn, _⟩ := I6.loc
      have nC : H5 ce.locals = none := I6.free
      refine fin D s6 m H5 ce (by rw [cL]; exact Nat.ne_of_gt nLD) I7 qq hn ?_
      rw [cL] at nC ⊢
      exact I3.fpOk (Nat.le_refl _) nC
    · refine thnF (T.item (X.blk s3 H3 scope ce fp) rfl rfl rfl hc i [] s5 _ H5 (fun _ _ => False) I5 (blkFp I5 n5) st5 go) fun r s6 ⟨u, hr, h6⟩ => ?_
      subst hr
      refine thnF h6 fun _ s7 ⟨x, H7, I7, r7, y7, st7, n7⟩ => ?_
      refine thnF (pg.run _ s7 _ H7 x u _ (I7.pinned (blkFp I7 n7) (T.obj _ _ st7)) r7 (step x H7 y7)) fun _ s8 ⟨σ8, H8, I8, hw8, q8⟩ => ?_
      refine thnF (pt.run _ s8 σ8 H8 _ I8 q8) fun b s9 ⟨H9, I9, q9⟩ => ?_
      have turned : ∀ {s' : Shared} {H' : Hp}, Inv (X.blk s3 H3 scope ce fp) ([] ++ pinsAt fp s7.heap) σ8 H' s' → Nx H' → ∃ m, m < n ∧ ∃ i H', Inv (X.blk s3 H3 scope ce fp) [] (wipe σ (own.map (·.2))) H' s' ∧ tn i s'.heap ∧ (∀ b ∈ fp, H' b = none) ∧ W i m H' := fun {s' H'} J nx => by
        obtain ⟨m', hm, w'⟩ := hNx H' nx
        have pinned : ∀ b ∈ fp, ∀ o, s7.heap.get? b = some o → s'.heap.get? b = some o ∧ H' b = none := fun b hb o z =>
          have k := J.pin (b, o) (List.mem_append_right _ (List.mem_append_right _ (mem_pinsAt hb z)))
          ⟨k.1, k.2.1⟩
        refine ⟨m', hm, i + 1, H', (J.unpinned (pins := [])).weak (by rw [← hw8, wipe_length]) (fun j v z => ?_), T.keep _ _ _ st7 fun b hb o z => (pinned b hb o z).1, fun b hb => ?_, w'⟩
        · rw [← hw8] at z
          exact (wipe_some z).1
        · obtain ⟨o, z, _⟩ := T.obj _ _ st7 b hb
          exact (pinned b hb o z).2
      cases b with
      | false => exact turned I9 q9
      | true =>
        simp only [if_true] at q9 ⊢
        have tk : Takes ((X.blk s3 H3 scope ce fp).wish (notedBy (model X.prog X.w) X.A ce fun e s' => compEnds (model X.prog X.w) X.A X.xe use Qf (.ref D) ce (.error e) s')) (fun cls d _ H' => Wo cls d σ H') := fun u s' x => by
          have z := out u s' _ x
          show notedBy (model X.prog X.w) X.A ce (fun e s' => compEnds (model X.prog X.w) X.A X.xe use Qf (.ref D) ce (.error e) s') u s'
          have ee : (fun e s' => compEnds (model X.prog X.w) X.A X.xe use Qf (.ref D) ce (.error e) s') = CompFails (model X.prog X.w) X.A X.xe ce := by
            funext e s'
            cases use <;> rfl
          rw [ee]
          exact z
        refine thn ((pe _ _ tk).run _ s9 σ8 H9 _ (I9.wish _) q9) fun z s10 ⟨yv, H10, I10, r10, acc, hD10, hz10, nx⟩ => ?_
        exact app_ok (X := X.blk s3 H3 scope ce fp) I10.unwish hD10 hz10 r10 fun s11 I11 => turned I11 nx
  exact codeAny_compStart_list loop (T.self X.A 0 _ _ _ st4' loop)
theorem pe_lcX {elt tg iter : Expr} {ifs : List Expr} {scope : Scope} {own : List (Str × Nat)} {pos : Pos} {wi : TI} {g : TG} {tt : TT} {te : WX → TE} (tw : Takes X Wo) (hc : X.calm = true) (hN : X.N.Nodup) (hi : PI X tg iter wi) (ok : BlkOk X.N X.env.scope scope own)
    (hg : ∀ (s : Shared) (H : Hp) (C : Addr) (cl : List (Str × Addr)) (fp : List Addr), PG (X.blk s H scope (compEnvC scope cl C X.env) fp) tg g) (ht : ∀ (s : Shared) (H : Hp) (C : Addr) (cl : List (Str × Addr)) (fp : List Addr), PTs (X.blk s H scope (compEnvC scope cl C X.env) fp) ifs tt)
    (he : ∀ (s : Shared) (H : Hp) (C : Addr) (cl : List (Str × Addr)) (fp : List Addr) (E : Value → Shared → Prop) (W : WX), Takes ((X.blk s H scope (compEnvC scope cl C X.env) fp).wish E) W → PE ((X.blk s H scope (compEnvC scope cl C X.env) fp).wish E) elt (te W))
    (hst : X.stack = X.env :: X.outer := by rfl) (hfm : X.env.frame = some X.env.locals := by rfl) (hs : ∀ x, foldedSetIterable iter X.env x = pure x := by intro _; rfl) :
    PE X (.ListComp elt [⟨tg, iter, ifs, 0⟩] scope pos) (tLcX wi g tt te (own.map (·.2)) Wo) := by
  refine ⟨fun pins s σ H Q I h => ?_⟩
  rw [eval_ListComp]
  refine lcX_core hc hN hst hfm tw I hi ok hg ht he hs h fun D s' m H' ce hne J q hn f => ⟨m, hn, fun h'' sb => ?_⟩
  obtain ⟨f0, f1, f2, f3, f4, f5⟩ := f
  exact ⟨.ref D, H', J.turned (t' := s'.toks) (fun b o hb z => (sb.2 b hb).trans z) f0 f1 f3 f4 f5, rfl, q⟩
theorem ps_setLcX {i : Nat} {y : Str} {py : Pos} {elt tg iter : Expr} {ifs : List Expr} {scope : Scope} {own : List (Str × Nat)} {pos spos : Pos} {wi : TI} {g : TG} {tt : TT} {te : WX → TE} (tw : Takes X Wo) (hc : X.calm = true) (hN : X.N.Nodup) (hy : X.N[i]? = some y) (hyl : X.env.scope.names.lookup y = some .local)
    (hsw : swapsWith (.ListComp elt [⟨tg, iter, ifs, 0⟩] scope pos) (some (.Name y py)) spos.line X.env = pure true) (hi : PI X tg iter wi) (ok : BlkOk X.N X.env.scope scope own)
    (hg : ∀ (s : Shared) (H : Hp) (C : Addr) (cl : List (Str × Addr)) (fp : List Addr), PG (X.blk s H scope (compEnvC scope cl C X.env) fp) tg g) (ht : ∀ (s : Shared) (H : Hp) (C : Addr) (cl : List (Str × Addr)) (fp : List Addr), PTs (X.blk s H scope (compEnvC scope cl C X.env) fp) ifs tt)
    (he : ∀ (s : Shared) (H : Hp) (C : Addr) (cl : List (Str × Addr)) (fp : List Addr) (E : Value → Shared → Prop) (W : WX), Takes ((X.blk s H scope (compEnvC scope cl C X.env) fp).wish E) W → PE ((X.blk s H scope (compEnvC scope cl C X.env) fp).wish E) elt (te W))
    (hst : X.stack = X.env :: X.outer := by rfl) (hfm : X.env.frame = some X.env.locals := by rfl) (hs : ∀ x, foldedSetIterable iter X.env x = pure x := by intro _; rfl) :
    PS X (.Assign [.Name y py] (.ListComp elt [⟨tg, iter, ifs, 0⟩] scope pos) spos) (tAsg (tLcX wi g tt te (own.map (·.2)) Wo) (gName i)) := by
  refine ⟨fun pins s σ H D I h => ?_⟩
  rw [exec_Assign_Name_used _ _ _ _ hsw]
  refine wpAny_bind (wpAny_standAt (wpAny_bind ?_))
  show wpAny _ X.A (do let _ ← comprehension (.ListComp elt [⟨tg, iter, ifs, 0⟩] scope pos) scope X.env (firstIterPos [⟨tg, iter, ifs, 0⟩] pos) (newList []) false (eval iter X.env) (some (assign (.Name y py) X.env))) _ _ s
  have h' : tLcX wi g tt te (own.map (·.2)) Wo σ H (fun x H1 => gName i x σ H1 D.nx) := h
  refine wpAny_bind (thn (lcX_core (Qf := fun _ s' => SP X pins D .next s') hc hN hst hfm tw I hi ok hg ht he hs h' fun L s' m H' ce hne J q hn f => ?_) fun _ s' hq => wpAny_pure (wpAny_pure hq))
  show wpAny _ _ (assign (.Name y py) X.env (.ref L)) _ _ _
  refine wpAny_assign_Name (store_ok2 (v := V.ref L) J hN hy (.inl hyl) rfl (fun s2 J2 ⟨a, sb, ha⟩ => ?_) (.inr hyl))
  obtain ⟨f0, f1, f2, f3, f4, f5⟩ := f
  have nCa : ce.locals ≠ a := ha.elim (fun z => by rw [z]; exact f1) fun z y' => f4 y a z y'.symm
  refine ⟨m, hn.sameBut sb nCa, fun h3 sb3 => ?_⟩
  exact ⟨_, H', J2.turned (t' := s2.toks) (fun b o hb z => (sb3.2 b hb).trans z) f0 f1 f3 f4 f5, q⟩
end
end Sw

set_option Elab.async false
set_option linter.all false
set_option maxRecDepth 100000
set_option maxHeartbeats 4000000
namespace Sw
open PySem PySem.Spec PyProof.Rows L2
def rLenSet (K : PySem.W.Frag) : V → Hp → VK → Prop := fun x H Q => ∃ l, ∃ xs : List Str, x = .ref l ∧ SqT K H l (xs.map V.str) ∧ xs.length ≤ 20 ∧ Q (.int (dcnt xs xs.length)) H
theorem g_rLenSet {G H : Hp} {R : Res} {K : PySem.W.Frag} {Q : VK} {l : Addr} {xs : List Str} (w : Wd G R H) (h : SqT K G l (xs.map V.str)) (hx : xs.length ≤ 20) (k : Q (.int (dcnt xs xs.length)) H) : rLenSet K (.ref l) H Q := ⟨l, xs, rfl, Evl.ex_t w.sub h, hx, k⟩
section
variable {σ : L2.St} {H : Hp} {Q : VK} {D : Ends} {G : Hp} {R : Res} {td ty tv te : TE} {t tk : TA} {C : Addr} {n m : Nat} {sp : SpC} {W : WX} {K : PySem.W.Frag}
def MkI (sp : SpC) (C : Addr) (vs zs : List V) (H : Hp) (Q : VK) (E : XK) : Prop := ∀ x dx, H x = none → H dx = none → dx ≠ x → sp (.ref x :: vs) zs (upd (upd H dx (.own x)) x (.ins C dx [])) (fun v H3 => v = .non ∧ Q (.ref x) H3) E
theorem g_js1 {tx : TE} {ts : List TE} {acc : Str} {P : Str → Hp → Prop} (k : tx σ H fun x H1 => ∃ y : Str, x = .str y ∧ (acc ++ y).length ≤ sizeLine ∧ tJs ts (acc ++ y) σ H1 P) : tJs (tx :: ts) acc σ H P := k
theorem g_js0 {acc : Str} {P : Str → Hp → Prop} (k : P acc H) : tJs [] acc σ H P := k
theorem g_fmt {tx : TE} (k : tx σ H fun x H1 => (∃ y : Str, x = .str y ∧ y.length ≤ sizeLine ∧ Q (.str y) H1) ∨ ∃ i : Int, x = .int i ∧ i.natAbs.log2 < 1920 ∧ Q (.str (toString i)) H1) : tFmt tx σ H Q := k
theorem g_tLenSet {ta : TE} (k : ta σ H fun x H1 => rLenSet K x H1 Q) : tLenSetT K ta σ H Q := k
theorem g_dput (k : tv σ H fun v H1 => td σ H1 fun x H2 => ty σ H2 fun y H3 => ∃ a H4, x = .ref a ∧ DPut H3 a y v H4 ∧ D.nx σ H4) : sDPut td ty tv D σ H := k
theorem g_mkV (k : t σ H fun vs H1 => tk σ H1 fun zs H2 => n ≤ vs.length ∧ zs.length = m ∧ MkI sp C vs zs H2 Q (WE W σ)) : tMkV C n m sp W t tk σ H Q := k
theorem g_mkV1 (k : te σ H fun y H1 => ∃ a xs, y = V.ref a ∧ (SqT K H1 a xs ∨ SqL K H1 a xs) ∧ n ≤ xs.length ∧ MkI sp C xs [] H1 Q (WE W σ)) : tMkV1 K C n sp W te σ H Q := k
end
section
variable {X : Cx} {k n : Nat} {ks : List Str} {W : WX} {m : Str} {pos apos : Pos} {e o : Expr} {es : List Expr} {kws : List Keyword} {t tk : TA} {ta : TE}
theorem kp_star {p : Pos} {te : TE} (K : PySem.W.Frag) (he : PE X e te) (hr : PA X es t) (hK : X.K = K := by rfl) (hs : starEach (.Starred e p :: es) X.env = (true, eval e X.env) :: starEach es X.env := by rfl) : PA X (.Starred e p :: es) (StX.tStar K te t) := by subst hK; exact StX.pa_star he hr hs
theorem kp_prop (P : Program) (w : World) (K : PySem.W.Frag) (mg : Str → Option Value) (base : Heap) (he : PE X o ta) (hr : Room (k + 1) X.A) (h1 : X.prog = P := by rfl) (h2 : X.w = w := by rfl) (h3 : X.K = K := by rfl) (h4 : X.mg = mg := by rfl) (h5 : X.base = base := by rfl)
    (hab : attributeBase o m X.env (eval o X.env) = eval o X.env := by rfl) : PE X (.Attribute o m pos) (tPrG P w K mg base k m ta) := by subst h1 h2 h3 h4 h5; exact pe_propG he hr hab
theorem kp_meth {pl : Sem Bool} (P : Program) (w : World) (K : PySem.W.Frag) (mg : Str → Option Value) (base : Heap) (he : PE X o ta) (hr : Room k X.A) (tw : Takes X W) (ha : PA X (e :: es) t) (hkw : PK X kws tk) (h1 : X.prog = P := by rfl) (h2 : X.w = w := by rfl) (h3 : X.K = K := by rfl) (h4 : X.mg = mg := by rfl) (h5 : X.base = base := by rfl)
    (hall : (backToKw pos (keywordEach kws X.env)).all (·.1.isSome) = true := by rfl) (hks : (backToKw pos (keywordEach kws X.env)).filterMap (·.1) = ks := by rfl)
    (hst : starEach (e :: es) X.env = (false, eval e X.env) :: starEach es X.env := by rfl) (hpl : ((backTo pos (starEach (e :: es) X.env)).any (·.1) || (backToKw pos (keywordEach kws X.env)).any (·.1.isNone)) = false := by rfl)
    (ht : eval (.Call (.Attribute o m apos) (e :: es) kws pos) X.env = (do
      let ov ← eval o X.env
      standAt apos.atName
      let (f, first) ← holding [ov] (getMethod ov m pl)
      callWith pos f first (backTo pos (starEach (e :: es) X.env)) (backToKw pos (keywordEach kws X.env))) := by rfl) :
    PE X (.Call (.Attribute o m apos) (e :: es) kws pos) (tMtG P w K mg base k m n ks W ta t tk) := by subst h1 h2 h3 h4 h5; exact pe_methG he hr tw ha hkw hall hks hst hpl ht
theorem kp_meth0 {pl : Sem Bool} (P : Program) (w : World) (K : PySem.W.Frag) (mg : Str → Option Value) (base : Heap) (he : PE X o ta) (hr : Room k X.A) (tw : Takes X W) (hkw : PK X kws tk) (h1 : X.prog = P := by rfl) (h2 : X.w = w := by rfl) (h3 : X.K = K := by rfl) (h4 : X.mg = mg := by rfl) (h5 : X.base = base := by rfl)
    (hall : (backToKw pos (keywordEach kws X.env)).all (·.1.isSome) = true := by rfl) (hks : (backToKw pos (keywordEach kws X.env)).filterMap (·.1) = ks := by rfl)
    (hpl : ((backTo pos (starEach [] X.env)).any (·.1) || (backToKw pos (keywordEach kws X.env)).any (·.1.isNone)) = false := by rfl)
    (ht : eval (.Call (.Attribute o m apos) [] kws pos) X.env = (do
      let ov ← eval o X.env
      standAt apos.atName
      let (f, first) ← holding [ov] (getMethod ov m pl)
      callWith pos f first (backTo pos (starEach [] X.env)) (backToKw pos (keywordEach kws X.env))) := by rfl) :
    PE X (.Call (.Attribute o m apos) [] kws pos) (tMtG P w K mg base k m n ks W ta tNil tk) := by subst h1 h2 h3 h4 h5; exact pe_methG0 he hr tw hkw hall hks hpl ht
end
/-- an object that will change is taken out of what is known -/
theorem Wd.apart {G G4 H : Hp} {R : Res} {D : Addr} {o : HO} (s : Same (upd G D o) G4) (nD : G D = none) (w : Wd G4 R H) : ∃ Gm, Same G Gm ∧ Gm D = none ∧ (∀ b, b ≠ D → Gm b = G4 b) ∧ Wd (upd Gm D o) R H := by
  have e4 : G4 D = some o := s _ _ upd_same
  refine ⟨fun b => if b = D then none else G4 b, fun b u e => ?_, if_pos rfl, fun b hb => if_neg hb, ?_⟩
  · have hb : b ≠ D := ne_of_none e nD
    show (if b = D then none else G4 b) = some u
    rw [if_neg hb]
    exact s _ _ (by rw [upd_ne hb]; exact e)
  · have : upd (fun b => if b = D then none else G4 b) D o = G4 := by
      funext b
      by_cases hb : b = D
      · rw [hb, upd_same, e4]
      · rw [upd_ne hb]
        exact if_neg hb
    rw [this]
    exact w
/-! ### comprehensions with two sources -/
def InW (J1 : It) (g1 : TG) (tt1 : TT) (te : TE) (vs1 : List Nat) (σ2 : L2.St) (D : Addr) (Nx : Hp → Prop) (H4 : Hp) : Prop := ∃ W1 : Nat → Nat → Hp → Prop, (∃ m, W1 0 m H4) ∧ ∀ j k H, W1 j k H →
  (J1.stop j H ∧ Nx H) ∨ (J1.go j H ∧ ∃ Nx1 : Hp → Prop, (∀ H', Nx1 H' → ∃ k', k' < k ∧ W1 (j + 1) k' H') ∧ ∀ x H', J1.yld j H x H' → g1 x (wipe σ2 vs1) H' fun σ3 H5 => wipe σ3 vs1 = wipe σ2 vs1 ∧ tt1 σ3 H5 fun b H6 =>
    if b = true then te σ3 H6 fun y H7 => ∃ acc, H7 D = some (.lst acc) ∧ acc.length < sizeLine ∧ Nx1 (upd H7 D (.lst (acc ++ [y]))) else Nx1 H6)
def Lc2W (J : It) (g : TG) (tt : TT) (wi1 : TI) (g1 : TG) (tt1 : TT) (te : TE) (vs vs1 : List Nat) (σ : L2.St) (Q : VK) (H1 : Hp) : Prop := ∀ D, H1 D = none → ∃ W : Nat → Nat → Hp → Prop, (∃ m, W 0 m (upd H1 D (.lst []))) ∧ ∀ i m H, W i m H →
  (J.stop i H ∧ Q (.ref D) H) ∨ (J.go i H ∧ ∃ Nx : Hp → Prop, (∀ H', Nx H' → ∃ m', m' < m ∧ W (i + 1) m' H') ∧ ∀ x H', J.yld i H x H' → g x (wipe σ vs) H' fun σ2 H2 => wipe σ2 vs = wipe σ vs ∧ tt σ2 H2 fun b H3 =>
    if b = true then wi1 σ2 H3 fun J1 H4 => InW J1 g1 tt1 te vs1 σ2 D Nx H4 else Nx H3)
/-- a turn is through: what is known, and the new list so far -/
def NxO (Pv : Nat → Hp → List V → Prop) (G : Hp) (R : Res) (D : Addr) (i : Nat) (H : Hp) : Prop := ∃ G4 acc4, Same G G4 ∧ G4 D = none ∧ Pv i G4 acc4 ∧ Wd (upd G4 D (.lst acc4)) R H
theorem lc2_it {J : It} {n : Nat} {I : Hp → Prop} {Y : Nat → V → Hp → Hp → Prop} (F : Itf J n I Y) {G H1 : Hp} {R : Res} {g g1 : TG} {tt tt1 : TT} {wi1 : TI} {te : TE} {vs vs1 : List Nat} {σ : L2.St} {Q : VK} (w : Wd G R H1) (hI : ∀ H, Same G H → I H)
    (Pv : Nat → Hp → List V → Prop) (h0 : Pv 0 G [])
    (hs : ∀ i x Gi acc D H H', i < n → Same G Gi → Gi D = none → Pv i Gi acc → Wd (upd Gi D (.lst acc)) R H → Y i x H H' → g x (wipe σ vs) H' fun σ2 H2 => wipe σ2 vs = wipe σ vs ∧ tt σ2 H2 fun b H3 =>
      if b = true then wi1 σ2 H3 fun J1 H4 => InW J1 g1 tt1 te vs1 σ2 D (NxO Pv G R D (i + 1)) H4 else NxO Pv G R D (i + 1) H3)
    (hd : ∀ D Gn acc H, Same G Gn → Gn D = none → Pv n Gn acc → Wd (upd Gn D (.lst acc)) R H → Q (.ref D) H) : Lc2W J g tt wi1 g1 tt1 te vs vs1 σ Q H1 := by
  intro D hD
  refine ⟨fun i m H => m = n - i ∧ i ≤ n ∧ NxO Pv G R D i H, ⟨n, by simp, Nat.zero_le _, G, [], Same.refl G, w.free hD, h0, w.new hD⟩, ?_⟩
  rintro i m H ⟨rfl, hi, Gi, acc, e, nD, p, wi⟩
  have q := hI H (Same.trans (Same.trans e (Same.newG nD)) wi.sub)
  by_cases hlt : i < n
  · exact .inr ⟨F.go i H hlt q, NxO Pv G R D (i + 1), fun H' p' => ⟨n - (i + 1), by omega, rfl, by omega, p'⟩, fun x H' y => hs i x Gi acc D H H' hlt e nD p wi (F.yld i H x H' hlt q y)⟩
  · have ei : i = n := by omega
    subst ei
    exact .inl ⟨F.stop H q, hd D Gi acc H e nD p wi⟩
theorem in_it {J1 : It} {n : Nat} {I : Hp → Prop} {Y : Nat → V → Hp → Hp → Prop} (F : Itf J1 n I Y) {G H4 : Hp} {R : Res} {D : Addr} {acc0 : List V} {g1 : TG} {tt1 : TT} {te : TE} {vs1 : List Nat} {σ2 : L2.St} {Nx : Hp → Prop} (w : Wd (upd G D (.lst acc0)) R H4) (nD : G D = none) (hI : ∀ H, Same G H → I H)
    (Pv : Nat → Hp → List V → Prop) (h0 : Pv 0 G acc0)
    (hs : ∀ j x Gj acc H H', j < n → Same G Gj → Gj D = none → Pv j Gj acc → Wd (upd Gj D (.lst acc)) R H → Y j x H H' → g1 x (wipe σ2 vs1) H' fun σ3 H5 => wipe σ3 vs1 = wipe σ2 vs1 ∧ tt1 σ3 H5 fun b H6 =>
      if b = true then te σ3 H6 fun y H7 => ∃ acc', H7 D = some (.lst acc') ∧ acc'.length < sizeLine ∧ NxO Pv G R D (j + 1) (upd H7 D (.lst (acc' ++ [y]))) else NxO Pv G R D (j + 1) H6)
    (hd : ∀ Gn acc H, Same G Gn → Gn D = none → Pv n Gn acc → Wd (upd Gn D (.lst acc)) R H → Nx H) : InW J1 g1 tt1 te vs1 σ2 D Nx H4 := by
  refine ⟨fun j k H => k = n - j ∧ j ≤ n ∧ NxO Pv G R D j H, ⟨n, by simp, Nat.zero_le _, G, acc0, Same.refl G, nD, h0, w⟩, ?_⟩
  rintro j k H ⟨rfl, hj, Gj, acc, e, nDj, p, wj⟩
  have q := hI H (Same.trans (Same.trans e (Same.newG nDj)) wj.sub)
  by_cases hlt : j < n
  · exact .inr ⟨F.go j H hlt q, NxO Pv G R D (j + 1), fun H' p' => ⟨n - (j + 1), by omega, rfl, by omega, p'⟩, fun x H' y => hs j x Gj acc H H' hlt e nDj p wj (F.yld j H x H' hlt q y)⟩
  · have ej : j = n := by omega
    subst ej
    exact .inl ⟨F.stop H q, hd Gj acc H e nDj p wj⟩
/-- an item is kept -/
theorem nx_keep {Pv : Nat → Hp → List V → Prop} {G G4 H7 : Hp} {R : Res} {D : Addr} {acc : List V} {y : V} {i : Nat} (w : Wd (upd G4 D (.lst acc)) R H7) (e : Same G G4) (nD : G4 D = none) (hz : acc.length < sizeLine) (p : Pv i G4 (acc ++ [y])) :
    ∃ acc', H7 D = some (.lst acc') ∧ acc'.length < sizeLine ∧ NxO Pv G R D i (upd H7 D (.lst (acc' ++ [y]))) := by
  refine ⟨acc, w.get upd_same, hz, G4, acc ++ [y], e, nD, p, ?_⟩
  have := w.set (o' := .lst (acc ++ [y])) upd_same
  rw [upd_upd] at this
  exact this
theorem g_lc2L {K : PySem.W.Frag} {tl : TE} {g g1 : TG} {tt tt1 : TT} {wi1 : TI} {te : TE} {vs vs1 : List Nat} {σ : L2.St} {H : Hp} {Q : VK} (k : tl σ H fun x H1 => ∃ a, x = .ref a ∧ (∃ xs, SqL K H1 a xs) ∧ Lc2W (Itl K a) g tt wi1 g1 tt1 te vs vs1 σ Q H1) : tLc2 (iList K tl) g tt wi1 g1 tt1 te vs vs1 σ H Q := k
theorem g_iList {K : PySem.W.Frag} {tl : TE} {σ : L2.St} {H : Hp} {P : It → Hp → Prop} (k : tl σ H fun x H1 => ∃ a, x = .ref a ∧ (∃ xs, SqL K H1 a xs) ∧ P (Itl K a) H1) : iList K tl σ H P := k
theorem g_lcX {wi : TI} {g : TG} {tt : TT} {te : WX → TE} {vs : List Nat} {Wo : WX} {σ : L2.St} {H : Hp} {Q : VK} (k : tLc wi g tt (te fun cls d _ H' => Wo cls d σ H') vs σ H Q) : tLcX wi g tt te vs Wo σ H Q := k
/-- the end of d[k] = v -/
theorem g_dputE {G H : Hp} {R : Res} {a : Addr} {kvs : List (Key × V)} {z : Str} {v : V} {P : Hp → Prop} (w : Wd G R H) (h : G a = some (.dK kvs)) (hz : kvs.length < sizeLine) (k : ∀ H', Wd (upd G a (.dK (putK kvs (.inr z) v))) R H' → P H') :
    ∃ a' H4, V.ref a = .ref a' ∧ DPut H a' (.str z) v H4 ∧ P H4 := ⟨a, _, rfl, DPut.k (k := .inr z) (w.get h) hz, k _ (w.set h)⟩
theorem tyX_tup {K : PySem.W.Frag} {G : Hp} {p : Addr} {xs : List V} (h : SqT K G p xs) : TyX K G (.ref p) (.type "tuple") := by
  rcases h with (h | ⟨o, h⟩) | ⟨o, its, n, h, c, _⟩
  · exact .base (.tup h)
  · exact .fTuple h
  · exact .kTuple h c
theorem g_any {G H : Hp} {R : Res} {K : PySem.W.Frag} {Q : VK} {a : Addr} {bs : List Bool} (w : Wd G R H) (h : SqL K G a (bs.map V.bl)) (k : Q (.bl (bs.any id)) H) : rAny K [.ref a] H Q := ⟨a, bs, rfl, Evl.ex_l w.sub h, k⟩
theorem Paired.at {α β : Type} {F : α → β → Prop} : ∀ {xs : List α} {ys : List β}, Paired F xs ys → ∀ {i : Nat} {x : α}, xs[i]? = some x → ∃ y, ys[i]? = some y ∧ F x y
  | _, _, .nil, i, x, h => by simp at h
  | _, _, .cons r _, 0, x, h => by cases h; exact ⟨_, rfl, r⟩
  | _, _, .cons _ t, i + 1, x, h => by
    rw [List.getElem?_cons_succ] at h ⊢
    exact Paired.at t h
theorem Paired.atR {α β : Type} {F : α → β → Prop} : ∀ {xs : List α} {ys : List β}, Paired F xs ys → ∀ {i : Nat} {y : β}, ys[i]? = some y → ∃ x, xs[i]? = some x ∧ F x y
  | _, _, .nil, i, x, h => by simp at h
  | _, _, .cons r _, 0, x, h => by cases h; exact ⟨_, rfl, r⟩
  | _, _, .cons _ t, i + 1, x, h => by
    rw [List.getElem?_cons_succ] at h ⊢
    exact Paired.atR t h
theorem Paired.imp {α β : Type} {F F' : α → β → Prop} (k : ∀ a b, F a b → F' a b) : ∀ {xs : List α} {ys : List β}, Paired F xs ys → Paired F' xs ys
  | _, _, .nil => .nil
  | _, _, .cons r t => .cons (k _ _ r) (Paired.imp k t)
theorem Paired.len {α β : Type} {F : α → β → Prop} : ∀ {xs : List α} {ys : List β}, Paired F xs ys → xs.length = ys.length
  | _, _, .nil => rfl
  | _, _, .cons _ t => by rw [List.length_cons, List.length_cons, Paired.len t]
theorem Paired.app {α β : Type} {F : α → β → Prop} : ∀ {xs xs' : List α} {ys ys' : List β}, Paired F xs ys → Paired F xs' ys' → Paired F (xs ++ xs') (ys ++ ys')
  | _, _, _, _, .nil, h => h
  | _, _, _, _, .cons r t, h => .cons r (Paired.app t h)
end Sw

set_option Elab.async false
set_option linter.all false
set_option maxRecDepth 100000
set_option maxHeartbeats 4000000
namespace Sv
open PySem L2
def top (i : Nat) : Stmt := PySem.Challenge.pw_savewise_k06_schema_texts_spoilt.main.body.getD i (.Pass ⟨0, 0, 0, 0⟩)
abbrev s__wall : Stmt := top 0
abbrev s_InvalidName___init__ : Stmt := inClass (top 3) 0
abbrev s_InvalidColumn___init__ : Stmt := inClass (top 4) 0
abbrev s_InvalidGroup___init__ : Stmt := inClass (top 5) 0
abbrev s_UnknownTable___init__ : Stmt := inClass (top 6) 0
abbrev s_InvalidText___init__ : Stmt := inClass (top 7) 0
abbrev s_is_name : Stmt := top 12
abbrev s_Column___init__ : Stmt := inClass (top 15) 3
abbrev s_Column___eq__ : Stmt := inClass (top 15) 4
abbrev s_Column_kind : Stmt := inClass (top 15) 5
abbrev s_Column_default : Stmt := inClass (top 15) 6
abbrev s_Column_text : Stmt := inClass (top 15) 7
abbrev s_Column_words : Stmt := inClass (top 15) 8
abbrev s_Column_accepts : Stmt := inClass (top 15) 9
abbrev s_Column_parse : Stmt := inClass (top 15) 10
abbrev s_IntColumn_accepts : Stmt := inClass (top 16) 1
abbrev s_TextColumn_accepts : Stmt := inClass (top 17) 2
abbrev s_RefColumn___init__ : Stmt := inClass (top 18) 1
abbrev s_RefColumn_words : Stmt := inClass (top 18) 2
abbrev s_RefColumn_accepts : Stmt := inClass (top 18) 3
abbrev s_parsed_column : Stmt := top 19
abbrev s_Table___init__ : Stmt := inClass (top 22) 0
abbrev s_Table_columns : Stmt := inClass (top 22) 1
abbrev s_Table_groups : Stmt := inClass (top 22) 2
abbrev s_Table_find_column : Stmt := inClass (top 22) 3
abbrev s_Table_row : Stmt := inClass (top 22) 4
abbrev s_Table_lines : Stmt := inClass (top 22) 5
abbrev s_is_group : Stmt := top 23
abbrev s_Schema___init__ : Stmt := inClass (top 24) 0
abbrev s_Schema___eq__ : Stmt := inClass (top 24) 1
abbrev s_Schema_tables : Stmt := inClass (top 24) 2
abbrev s_Schema_text : Stmt := inClass (top 24) 3
abbrev s_Schema_find_table : Stmt := inClass (top 24) 4
abbrev s_Schema_parse : Stmt := inClass (top 24) 5
abbrev s_took_line : Stmt := top 25
abbrev s_took_column : Stmt := top 26
abbrev s__law_begun : Stmt := top 28
abbrev s__law_draw : Stmt := top 29
abbrev s__law_pick : Stmt := top 30
abbrev s__law_mixed : Stmt := top 31
abbrev s__law_names : Stmt := top 32
abbrev s__law_column : Stmt := top 33
abbrev s__law_groups : Stmt := top 34
abbrev s__law_spec : Stmt := top 35
abbrev s__law_column_text : Stmt := top 36
abbrev s__law_schema_text : Stmt := top 37
abbrev s__law_is_name : Stmt := top 38
abbrev s__law_column_of : Stmt := top 39
abbrev s__law_parts : Stmt := top 40
abbrev s__law_table_wrong : Stmt := top 41
abbrev s__law_due : Stmt := top 42
abbrev s__law_too_large : Stmt := top 43
abbrev s__law_spoilt : Stmt := top 44
abbrev s__law_read : Stmt := top 45
abbrev s_law : Stmt := top 46
/-- where the top has put its classes and tuples -/
structure Ad where
  (SaveError InvalidName InvalidColumn InvalidGroup UnknownTable InvalidText Column IntColumn TextColumn RefColumn Table Schema RESERVED RULES : Addr)
structure Txt (K : PySem.W.Frag) (mg : Str → Option Value) (A : Ad) : Prop where
  nb_super : mg "super" = none
  nb_isinstance : mg "isinstance" = none
  nb_str : mg "str" = none
  nb_len : mg "len" = none
  nb_all : mg "all" = none
  nb_enumerate : mg "enumerate" = none
  nb_list : mg "list" = none
  nb_tuple : mg "tuple" = none
  nb_set : mg "set" = none
  nb_any : mg "any" = none
  nb_abs : mg "abs" = none
  nb_range : mg "range" = none
  nb_int : mg "int" = none
  nb_dict : mg "dict" = none
  g_SaveError : ∃ u, mg "SaveError" = some u ∧ RelV (.ref A.SaveError) u
  g_InvalidName : ∃ u, mg "InvalidName" = some u ∧ RelV (.ref A.InvalidName) u
  g_InvalidColumn : ∃ u, mg "InvalidColumn" = some u ∧ RelV (.ref A.InvalidColumn) u
  g_InvalidGroup : ∃ u, mg "InvalidGroup" = some u ∧ RelV (.ref A.InvalidGroup) u
  g_UnknownTable : ∃ u, mg "UnknownTable" = some u ∧ RelV (.ref A.UnknownTable) u
  g_InvalidText : ∃ u, mg "InvalidText" = some u ∧ RelV (.ref A.InvalidText) u
  g_Column : ∃ u, mg "Column" = some u ∧ RelV (.ref A.Column) u
  g_IntColumn : ∃ u, mg "IntColumn" = some u ∧ RelV (.ref A.IntColumn) u
  g_TextColumn : ∃ u, mg "TextColumn" = some u ∧ RelV (.ref A.TextColumn) u
  g_RefColumn : ∃ u, mg "RefColumn" = some u ∧ RelV (.ref A.RefColumn) u
  g_Table : ∃ u, mg "Table" = some u ∧ RelV (.ref A.Table) u
  g_Schema : ∃ u, mg "Schema" = some u ∧ RelV (.ref A.Schema) u
  g_LETTERS : ∃ u, mg "LETTERS" = some u ∧ RelV (.str "abcdefghijklmnopqrstuvwxyz") u
  g_LONGEST_NAME : ∃ u, mg "LONGEST_NAME" = some u ∧ RelV (.int 8) u
  g_RESERVED : ∃ u, mg "RESERVED" = some u ∧ RelV (.ref A.RESERVED) u
  t_RESERVED : ∀ H, SqT K H A.RESERVED [.str "key", .str "limit", .str "order", .str "self", .str "table"]
  g_RULES : ∃ u, mg "RULES" = some u ∧ RelV (.ref A.RULES) u
  t_RULES : ∀ H, SqT K H A.RULES [.str "restrict", .str "clear", .str "cascade"]
  g_MOST_IN_GROUP : ∃ u, mg "MOST_IN_GROUP" = some u ∧ RelV (.int 3) u
end Sv

set_option Elab.async false
set_option linter.all false
set_option maxRecDepth 100000
set_option maxHeartbeats 4000000
namespace Sv
open PySem PySem.Spec PyProof.Rows L2 Sw

/-! ### the steps -/
local macro_rules | `(tactic| walk_at "go1") => `(tactic| first
  | ((with_reducible refine' g_var ?hv ?_); (case hv => rfl))
  | with_reducible refine g_c ?_
  | with_reducible refine g_op ?_
  | with_reducible refine g_un ?_
  | with_reducible refine g_seq ?_
  | with_reducible refine g_next ?_
  | with_reducible refine g_asg ?_
  | with_reducible refine g_name ?_
  | with_reducible refine g_drop ?_
  | with_reducible refine g_sub ?_
  | with_reducible refine g_ret ?_
  | with_reducible refine g_retN ?_
  | with_reducible refine g_ifS ?_
  | with_reducible refine g_if ?_
  | with_reducible refine g_test ?_
  | with_reducible refine g_bl ?_
  | with_reducible refine g_cons ?_
  | with_reducible refine g_nil ?_
  | with_reducible refine g_and ?_
  | with_reducible refine g_or ?_
  | with_reducible refine g_not ?_
  | with_reducible refine g_callB ?_
  | with_reducible refine g_addI ?_
  | with_reducible refine g_I0 ?_
  | with_reducible refine g_calG ?_
  | with_reducible refine g_mkG ?_
  | with_reducible refine g_tup ?_
  | with_reducible refine g_pairs1 ?_
  | with_reducible refine g_pairs0 ?_
  | with_reducible refine g_dget ?_
  | with_reducible refine g_lvals ?_
  | with_reducible refine g_forT ?_
  | with_reducible refine g_lcT ?_
  | with_reducible refine g_dput ?_
  | with_reducible refine g_lc2L ?_
  | with_reducible refine g_iList ?_
  | with_reducible refine g_lcX ?_
  | with_reducible refine g_js1 ?_
  | with_reducible refine g_js0 ?_
  | with_reducible refine g_fmt ?_
  | with_reducible refine g_tLenSet ?_
  | with_reducible refine g_mkV ?_
  | with_reducible refine g_mkV1 ?_
  | with_reducible refine g_lst ?_
  | with_reducible refine g_forL ?_
  | with_reducible refine g_forR ?_
  | with_reducible refine g_forR2 ?_
  | with_reducible refine g_forS ?_
  | with_reducible refine g_forE ?_
  | with_reducible refine g_lcL ?_
  | with_reducible refine g_lcR ?_
  | with_reducible refine g_lcS ?_
  | with_reducible refine g_lcE ?_
  | with_reducible refine g_orT ?_
  | with_reducible refine g_slc ?_
  | with_reducible refine g_noPart ?_
  | with_reducible refine g_part ?_
  | with_reducible refine g_bm ?_
  | with_reducible refine g_par ?_
  | with_reducible refine g_yes ?_
  | with_reducible refine g_tupG ?_
  | with_reducible refine g_lstG ?_
  | with_reducible refine g_gcons ?_
  | with_reducible refine g_gnil ?_
  | with_reducible refine g_chain ?_
  | with_reducible refine g_truB ?_
  | with_reducible refine g_truN ?_
  | with_reducible refine g_truI ?_
  | with_reducible refine g_m1 ?_
  | with_reducible refine g_fld ?_
  | with_reducible refine g_con ?_
  | with_reducible refine g_tru ?_
  | with_reducible refine g_U ?_
  | with_reducible refine g_xg ?_
  | with_reducible refine g_andT ?_
  | with_reducible refine g_exI ?_
  | with_reducible refine g_dnew ?_
  | with_reducible refine g_intB ?_
  | with_reducible refine g_meth ?_
  | with_reducible refine g_prop ?_
  | with_reducible refine g_exc1 ?_
  | with_reducible refine g_setF ?_
  | with_reducible refine g_star ?_
  | with_reducible refine g_strM ?_
  | with_reducible refine iteT ?_
  | with_reducible refine iteF ?_
  | with_reducible refine iteNT ?_
  | with_reducible refine iteNF ?_)
local macro_rules | `(tactic| walk_at "go") => `(tactic| repeat (walk_at "go1"))
local macro_rules | `(tactic| walk_at "sz") => `(tactic| (first | (rw [sizeLine_eq]; simp only [List.length_cons, List.length_nil, List.length_map, List.length_append, List.length_take]; omega) | (rw [sizeLine_eq]; omega)))
/-! ### the state of the choices -/
structure DOk (xs : List Int) (i m : Int) : Prop where
  ne : xs ≠ []
  nn : ∀ x ∈ xs, 0 ≤ x
  len : xs.length ≤ 63
  i0 : 0 ≤ i
  m0 : 0 ≤ m
  m1 : m < 2147483647
def DS (a c : Addr) (H : Hp) : Prop := ∃ xs i m, DOk xs i m ∧ H a = some (.lst [.ref c, .int i, .int m]) ∧ H c = some (.lst (xs.map V.int))
def RD (a c : Addr) : Res := ⟨[a, c], DS a c, fun H H' h e => by
    obtain ⟨xs, i, m, d, h1, h2⟩ := h
    exact ⟨xs, i, m, d, by rw [e a (by simp)]; exact h1, by rw [e c (by simp)]; exact h2⟩,
  fun H h b hb => by
    obtain ⟨xs, i, m, d, h1, h2⟩ := h
    rcases List.mem_cons.mp hb with rfl | hb
    · rw [h1]; simp
    · rw [List.mem_singleton] at hb
      rw [hb, h2]; simp⟩
theorem RD.apart {a c : Addr} {H : Hp} (h : DS a c H) : a ≠ c := by
  obtain ⟨xs, i, m, d, h1, h2⟩ := h
  rintro rfl
  rw [h1] at h2
  cases xs with
  | nil => exact d.ne rfl
  | cons x xs => cases h2
/-- the resource changed: what is known stays -/
theorem RD.put {a c : Addr} {G H H' : Hp} (w : Wd G (RD a c) H) (h : DS a c H') (k : ∀ b o, b ≠ a → b ≠ c → H b = some o → H' b = some o) : Wd G (RD a c) H' := by
  refine ⟨fun b o e => ?_, w.out, h⟩
  have na : b ≠ a := fun z => by
    have := w.out a (by simp [RD])
    rw [← z, e] at this; cases this
  have nc : b ≠ c := fun z => by
    have := w.out c (by simp [RD])
    rw [← z, e] at this; cases this
  exact k b o na nc (w.sub b o e)

section
variable {P : Program} {wo : World} {A : Ad} {K : PySem.W.Frag} {mg : Str → Option Value} {base : Heap}

def spDraw : Sp := fun vs H Q _ => ∃ G a c b, vs = [.ref a, .int b] ∧ Wd G (RD a c) H ∧ 0 < b ∧ b < 1073741824 ∧ ∀ r H', 0 ≤ r → r < b → Wd G (RD a c) H' → Q (.int r) H'
theorem sc__law_draw : FnScope (["_law_state", "_law_bound", "_law_cells", "_law_at", "_law_cell"] : List Str) (["_law_state", "_law_bound"] : List Str) (defScope s__law_draw) := ⟨rfl, rfl, rfl, by decide +kernel, rfl, by decide +kernel, by decide +kernel⟩
theorem ok_draw {f : Addr} {fd : FuncData} (F : Fun K "_law_draw" "_law_draw" s__law_draw f fd) (T : Txt K mg A) : FnOk P wo K mg base (L2.CX P wo) 1 f fd (["_law_state", "_law_bound"] : List Str) spDraw := by
  refine okT F sc__law_draw (fun vs H Q E h => ?_) (fun cdv Ar outer s H vs Q E hr tk po h => ?_)
  · obtain ⟨_, _, _, _, rfl, _⟩ := h
    rfl
  obtain ⟨G, a, c, b, rfl, w, b0, b1, k⟩ := h
  refine ⟨_, (pss_cons (ps_set (i := 2) sc__law_draw.nd rfl (by first | exact Or.inl rfl | exact Or.inr rfl) (pe_ix (ka_ix K) (pv 0) pe_int (fun _ _ => rfl)))
      (pss_cons (ps_set (i := 3) sc__law_draw.nd rfl (by first | exact Or.inl rfl | exact Or.inr rfl) (pe_op op_mod (pe_ix (ka_ix K) (pv 0) pe_int (fun _ _ => rfl)) (pe_callB (ka_len K) (by rfl) T.nb_len (by decide +kernel) (pa_cons (pv 2) pa_nil))))
      (pss_cons (ps_set (i := 4) sc__law_draw.nd rfl (by first | exact Or.inl rfl | exact Or.inr rfl) (pe_ix (ka_ix K) (pv 2) (pv 3) (fun _ _ => rfl)))
      (pss_cons (ps_if (pt_cmpR op_ge (pv 4) pe_int (nomark _)) (pss_cons (ps_asg (pe_op op_fdiv (pv 4) (pv 1)) (pg_sub (pv 2) (pv 3) set_list))
      (pss_one (ps_ret (pe_op op_mod (pv 4) (pv 1))))) pss_nil)
      (pss_cons (ps_asg (pe_op (ka_add K) (pe_ix (ka_ix K) (pv 0) pe_int (fun _ _ => rfl)) pe_int) (pg_sub (pv 0) pe_int set_list))
      (pss_cons (ps_asg (pe_op op_mod (pe_op (ka_add K) (pe_op (ka_add K) (pe_op (ka_mul K) (pe_ix (ka_ix K) (pv 0) pe_int (fun _ _ => rfl)) pe_int) (pv 4)) pe_int) pe_int) (pg_sub (pv 0) pe_int set_list))
      (pss_one (ps_ret (pe_op op_mod (pe_op op_fdiv (pe_op op_mod (pe_op (ka_mul K) (pe_ix (ka_ix K) (pv 0) pe_int (fun _ _ => rfl)) (pe_ix (ka_ix K) (pv 0) pe_int (fun _ _ => rfl))) pe_int) pe_int) (pv 1)))))))))), ?_⟩
  obtain ⟨xs, i, m, d, ha, hc⟩ := id w.res
  have hac := RD.apart w.res
  have wH : Wd H R0 H := Wd.r0 H
  have hcl : SqL K H c (xs.map V.int) := SqL.of hc
  have n0 : 0 < xs.length := List.length_pos_iff.mpr d.ne
  walk_at "go"
  refine g_ixL wH (SqL.of ha) (by rfl) ?_
  walk_at "go"
  refine g_ixL wH (SqL.of ha) (by rfl) ?_
  walk_at "go"
  refine g_lenL wH hcl ?_
  rw [List.length_map]
  refine g_I (show (0 : Int) < (xs.length : Int) by omega) ?_
  obtain ⟨j, hj⟩ : ∃ j : Nat, i % (xs.length : Int) = (j : Int) := ⟨(i % (xs.length : Int)).toNat, by
    have := Int.emod_nonneg i (show (xs.length : Int) ≠ 0 by omega)
    omega⟩
  have hjl : j < xs.length := by
    have := Int.emod_lt_of_pos i (show (0 : Int) < (xs.length : Int) by omega)
    omega
  rw [hj]
  have hx : (xs.map V.int)[j]? = some (V.int xs[j]) := by simp [hjl]
  have hp : 0 ≤ xs[j] := d.nn _ (List.getElem_mem hjl)
  walk_at "go"
  refine g_ixL wH hcl (atI_nat hx) ?_
  walk_at "go"
  refine iteD (fun h1 => ?_) (fun h1 => ?_)
  · walk_at "go"
    refine g_I ⟨b0, b1⟩ ?_
    walk_at "go"
    have hi : ixN (xs.map V.int).length (j : Int) = some j := by
      unfold ixN
      rw [List.length_map, if_pos (by omega), if_pos (by omega)]
      simp
    refine g_setL wH hc hi fun H1 w1 => ?_
    walk_at "go"
    refine g_I b0 ?_
    refine k _ _ (Int.emod_nonneg _ (by omega)) (Int.emod_lt_of_pos _ b0) (RD.put w ⟨xs.set j (xs[j] / b), i, m, ⟨?_, ?_, ?_, d.i0, d.m0, d.m1⟩, ?_, ?_⟩ fun q o ha' hc' e => ?_)
    · intro z
      have := congrArg List.length z
      rw [List.length_set] at this
      exact d.ne (List.length_eq_zero_iff.mp this)
    · intro x hx
      rcases List.mem_or_eq_of_mem_set hx with h | h
      · exact d.nn x h
      · rw [h]
        exact Int.ediv_nonneg hp (by omega)
    · rw [List.length_set]
      exact d.len
    · exact w1.get (upd_oth ha hac)
    · rw [List.map_set]
      exact w1.get upd_same
    · exact w1.get (upd_oth e hc')
  · walk_at "go"
    refine g_ixL wH (SqL.of ha) (by rfl) ?_
    walk_at "go"
    refine g_setL (j' := 1) wH ha (by rfl) fun H1 w1 => ?_
    walk_at "go"
    refine g_ixL w1 (SqL.of upd_same) (by rfl) ?_
    walk_at "go"
    refine g_mulI (Or.inr (by decide)) ?_
    walk_at "go"
    refine g_I (show (0 : Int) < 2147483647 by decide) ?_
    walk_at "go"
    refine g_setL (j' := 2) w1 upd_same (by rfl) fun H2 w2 => ?_
    have a2 := w2.get upd_same
    have m20 := Int.emod_nonneg (m * 48271 + xs[j] + 12345) (show (2147483647 : Int) ≠ 0 by decide)
    have m21 := Int.emod_lt_of_pos (m * 48271 + xs[j] + 12345) (show (0 : Int) < 2147483647 by decide)
    generalize (m * 48271 + xs[j] + 12345) % 2147483647 = m2 at *
    walk_at "go"
    refine g_ixL w2 (SqL.of upd_same) (by rfl) ?_
    walk_at "go"
    refine g_ixL w2 (SqL.of upd_same) (by rfl) ?_
    refine g_mulI (Or.inl ⟨by omega, by omega⟩) ?_
    walk_at "go"
    refine g_I (show (0 : Int) < 2147483629 by decide) ?_
    walk_at "go"
    refine g_I (show CDiv _ 16 from ⟨by decide, by decide⟩) ?_
    walk_at "go"
    refine g_I b0 ?_
    refine k _ _ (Int.emod_nonneg _ (by omega)) (Int.emod_lt_of_pos _ b0) (RD.put w ⟨xs, i + 1, m2, ⟨d.ne, d.nn, d.len, by have := d.i0; omega, m20, m21⟩, a2, ?_⟩ fun q o ha' hc' e => ?_)
    · exact w2.get (upd_oth (upd_oth hc hac.symm) hac.symm)
    · exact w2.get (upd_oth (upd_oth e ha') ha')
end
end Sv


set_option Elab.async false
set_option linter.all false
set_option maxRecDepth 100000
set_option maxHeartbeats 4000000
namespace Sv
open PySem PySem.Spec PyProof.Rows L2 Sw
local macro_rules | `(tactic| walk_at "go1") => `(tactic| first
  | ((with_reducible refine' g_var ?hv ?_); (case hv => rfl))
  | with_reducible refine g_c ?_
  | with_reducible refine g_op ?_
  | with_reducible refine g_un ?_
  | with_reducible refine g_seq ?_
  | with_reducible refine g_next ?_
  | with_reducible refine g_asg ?_
  | with_reducible refine g_name ?_
  | with_reducible refine g_drop ?_
  | with_reducible refine g_sub ?_
  | with_reducible refine g_ret ?_
  | with_reducible refine g_retN ?_
  | with_reducible refine g_ifS ?_
  | with_reducible refine g_if ?_
  | with_reducible refine g_test ?_
  | with_reducible refine g_bl ?_
  | with_reducible refine g_cons ?_
  | with_reducible refine g_nil ?_
  | with_reducible refine g_and ?_
  | with_reducible refine g_or ?_
  | with_reducible refine g_not ?_
  | with_reducible refine g_callB ?_
  | with_reducible refine g_addI ?_
  | with_reducible refine g_I0 ?_
  | with_reducible refine g_calG ?_
  | with_reducible refine g_mkG ?_
  | with_reducible refine g_tup ?_
  | with_reducible refine g_pairs1 ?_
  | with_reducible refine g_pairs0 ?_
  | with_reducible refine g_dget ?_
  | with_reducible refine g_lvals ?_
  | with_reducible refine g_forT ?_
  | with_reducible refine g_lcT ?_
  | with_reducible refine g_dput ?_
  | with_reducible refine g_lc2L ?_
  | with_reducible refine g_iList ?_
  | with_reducible refine g_lcX ?_
  | with_reducible refine g_js1 ?_
  | with_reducible refine g_js0 ?_
  | with_reducible refine g_fmt ?_
  | with_reducible refine g_tLenSet ?_
  | with_reducible refine g_mkV ?_
  | with_reducible refine g_mkV1 ?_
  | with_reducible refine g_lst ?_
  | with_reducible refine g_forL ?_
  | with_reducible refine g_forR ?_
  | with_reducible refine g_forR2 ?_
  | with_reducible refine g_forS ?_
  | with_reducible refine g_forE ?_
  | with_reducible refine g_lcL ?_
  | with_reducible refine g_lcR ?_
  | with_reducible refine g_lcS ?_
  | with_reducible refine g_lcE ?_
  | with_reducible refine g_orT ?_
  | with_reducible refine g_slc ?_
  | with_reducible refine g_noPart ?_
  | with_reducible refine g_part ?_
  | with_reducible refine g_bm ?_
  | with_reducible refine g_par ?_
  | with_reducible refine g_yes ?_
  | with_reducible refine g_tupG ?_
  | with_reducible refine g_lstG ?_
  | with_reducible refine g_gcons ?_
  | with_reducible refine g_gnil ?_
  | with_reducible refine g_chain ?_
  | with_reducible refine g_truB ?_
  | with_reducible refine g_truN ?_
  | with_reducible refine g_truI ?_
  | with_reducible refine g_m1 ?_
  | with_reducible refine g_fld ?_
  | with_reducible refine g_con ?_
  | with_reducible refine g_tru ?_
  | with_reducible refine g_U ?_
  | with_reducible refine g_xg ?_
  | with_reducible refine g_andT ?_
  | with_reducible refine g_exI ?_
  | with_reducible refine g_dnew ?_
  | with_reducible refine g_intB ?_
  | with_reducible refine g_meth ?_
  | with_reducible refine g_prop ?_
  | with_reducible refine g_exc1 ?_
  | with_reducible refine g_setF ?_
  | with_reducible refine g_star ?_
  | with_reducible refine g_strM ?_
  | with_reducible refine iteT ?_
  | with_reducible refine iteF ?_
  | with_reducible refine iteNT ?_
  | with_reducible refine iteNF ?_)
local macro_rules | `(tactic| walk_at "go") => `(tactic| repeat (walk_at "go1"))
local macro_rules | `(tactic| walk_at "sz") => `(tactic| (first | (rw [sizeLine_eq]; simp only [List.length_cons, List.length_nil, List.length_map, List.length_append, List.length_take]; omega) | (rw [sizeLine_eq]; omega)))
section
variable {P : Program} {wo : World} {A : Ad} {K : PySem.W.Frag} {mg : Str → Option Value} {base : Heap}

def spBegun (K : PySem.W.Frag) : Sp := fun vs H Q _ => ∃ (s : Addr) (ns : List Int), vs = [.ref s] ∧ SqL K H s (ns.map V.int) ∧ ∀ a c H', Wd H (RD a c) H' → Q (.ref a) H'
theorem sc__law_begun : FnScope (["_law_script", "_law_cell"] : List Str) (["_law_script"] : List Str) (defScope s__law_begun) := ⟨rfl, rfl, rfl, by decide +kernel, rfl, by decide +kernel, by decide +kernel⟩
theorem cut63 {xs : List V} : cutV xs none (some 63) = xs.take 63 := by
  unfold cutV
  have h1 : HT.sIx xs.length 0 none = 0 := rfl
  have h2 : HT.sIx xs.length xs.length (some 63) = min 63 xs.length := by
    unfold HT.sIx
    simp
    try omega
  rw [h1, h2]
  simp
  try (rw [List.take_eq_take_iff]; omega)
theorem ok_begun {f : Addr} {fd : FuncData} (F : Fun K "_law_begun" "_law_begun" s__law_begun f fd) (T : Txt K mg A) : FnOk P wo K mg base (L2.CX P wo) 1 f fd (["_law_script"] : List Str) (spBegun K) := by
  refine okT F sc__law_begun (fun vs H Q E h => ?_) (fun cdv Ar outer s H vs Q E hr tk po h => ?_)
  · obtain ⟨_, _, rfl, _⟩ := h
    rfl
  obtain ⟨l, ns, rfl, hl, k⟩ := h
  refine ⟨_, (pss_one (ps_ret (pe_lst (pa_cons (ke_orT K (pe_lc (own := [("_law_cell", 1)]) (g := (gName 1)) (tt := tYes) rfl sc__law_begun.nd (ki_list K (pe_slice (ka_sl K) (pv 0) po_none (po_some pe_int))) (blkOk_by (N := (["_law_script", "_law_cell"] : List Str)) (sc := defScope s__law_begun) (by decide +kernel)) (fun _ _ _ _ _ => (pg_name (i := 1) sc__law_begun.nd rfl (by first | exact Or.inl rfl | exact Or.inr rfl))) (fun _ _ _ _ _ => pts_nil) (fun _ _ _ _ _ => (pe_callB call_abs (by rfl) T.nb_abs (by decide +kernel) (pa_cons (pv 1) pa_nil)))) (pe_one (pe_lst (pa_cons pe_int pa_nil)))) (pa_cons pe_int (pa_cons pe_int pa_nil)))))), ?_⟩
  have w := Wd.r0 H
  walk_at "go"
  refine g_slL w hl fun p H1 np w1 => ?_
  rw [cut63, ← List.map_take] at w1
  refine ⟨p, rfl, ⟨_, SqL.of (w1.get upd_same)⟩, ?_⟩
  refine lc_it (itf_list (xs := (ns.take 63).map V.int)) w1 (fun H' e => SqL.of (e _ _ upd_same)) (by walk_at "sz") (fun i _ acc => ∃ ys : List Int, acc = ys.map V.int ∧ (∀ y ∈ ys, 0 ≤ y) ∧ ys.length = i) ⟨[], rfl, by simp, rfl⟩ ?_ ?_
  · rintro i x Gi acc D H2 H2' hi e nD ⟨ys, rfl, nn, hy⟩ hl2 w2 ⟨rfl, hx⟩
    obtain ⟨u, rfl⟩ : ∃ u, x = V.int u := by
      rw [List.getElem?_map] at hx
      cases e : (ns.take 63)[i]? with
      | none => rw [e] at hx; cases hx
      | some u => rw [e] at hx; exact ⟨u, (Option.some.inj hx).symm⟩
    walk_at "go"
    refine ⟨rfl, ?_⟩
    walk_at "go"
    refine ⟨_, rfl, ?_⟩
    refine lc_keep (Pv := fun i _ acc => ∃ ys : List Int, acc = ys.map V.int ∧ (∀ y ∈ ys, 0 ≤ y) ∧ ys.length = i) w2 e nD hl2 hi (by walk_at "sz") ⟨ys ++ [if u < 0 then -u else u], by simp, ?_, by simp [hy]⟩
    intro y hy'
    rcases List.mem_append.mp hy' with h | h
    · exact nn y h
    · rw [List.mem_singleton] at h
      rw [h]
      split <;> omega
  · rintro D Gn acc H2 e nD ⟨ys, rfl, nn, hy⟩ hl2 w2
    have hys : ys.length ≤ 63 := by
      rw [hy, List.length_map, List.length_take]
      omega
    refine ⟨_, .inl ⟨_, SqL.of (w2.get upd_same), rfl⟩, ?_⟩
    have fin : ∀ (c : Addr) (cs : List Int) (H3 : Hp), Same H H3 → H c = none → H3 c = some (.lst (cs.map V.int)) → cs ≠ [] → (∀ y ∈ cs, 0 ≤ y) → cs.length ≤ 63 → ∀ a, H3 a = none → Q (.ref a) (upd H3 a (.lst [.ref c, .int 0, .int 1])) := by
      intro c cs H3 e3 nc hc h1 h2 h3 a ha
      have hca : c ≠ a := ne_of_none hc ha
      refine k a c _ ⟨Same.trans e3 (Same.newG ha), fun b hb => ?_, ⟨cs, 0, 1, ⟨h1, h2, h3, by decide, by decide, by decide⟩, upd_same, by rw [upd_ne hca]; exact hc⟩⟩
      rcases List.mem_cons.mp hb with rfl | hb
      · exact Same.free e3 ha
      · rw [List.mem_singleton] at hb
        rw [hb]
        exact nc
    have e0 : Same H H2 := Same.trans (Same.trans (Same.newG np) e) (Same.trans (Same.newG nD) w2.sub)
    refine iteB (fun hb => ?_) (fun hb => ?_)
    · walk_at "go"
      refine ⟨by walk_at "sz", ?_⟩
      refine fin D ys _ e0 (Same.free (Same.newG np) (Same.free e nD)) (w2.get upd_same) (fun z => ?_) nn hys
      rw [z] at hb
      cases hb
    · walk_at "go"
      refine ⟨by walk_at "sz", fun q hq => ?_⟩
      walk_at "go"
      refine ⟨by walk_at "sz", ?_⟩
      exact fin q [7] _ (Same.trans e0 (Same.newG hq)) (Same.free e0 hq) upd_same (by simp) (by simp) (by simp)

/-! ### a choice out of a list, out of a text -/
def spPick (K : PySem.W.Frag) : Sp := fun vs H Q _ => ∃ G a c, Wd G (RD a c) H ∧
  ((∃ p xs, vs = [.ref a, .ref p] ∧ (SqL K G p xs ∨ SqT K G p xs) ∧ 0 < xs.length ∧ xs.length < 1000000 ∧ ∀ x H', x ∈ xs → Wd G (RD a c) H' → Q x H') ∨
  (∃ z : Str, vs = [.ref a, .str z] ∧ 0 < z.length ∧ z.length < 1000000 ∧ ∀ ch H', ch ∈ z.cps.toList → Wd G (RD a c) H' → Q (.str ⟨#[ch]⟩) H'))
theorem sc__law_pick : FnScope (["_law_state", "_law_some"] : List Str) (["_law_state", "_law_some"] : List Str) (defScope s__law_pick) := ⟨rfl, rfl, rfl, by decide +kernel, rfl, by decide +kernel, by decide +kernel⟩
theorem ok_pick {f : Addr} {fd : FuncData} (F : Fun K "_law_pick" "_law_pick" s__law_pick f fd) (T : Txt K mg A) (Gd : GFn P wo K mg base 1 "_law_draw" 2 [] (fun vs _ => spDraw vs)) : FnOk P wo K mg base (L2.CX P wo) 2 f fd (["_law_state", "_law_some"] : List Str) (spPick K) := by
  refine okT F sc__law_pick (fun vs H Q E h => ?_) (fun cdv Ar outer s H vs Q E hr tk po h => ?_)
  · obtain ⟨_, _, _, _, ⟨_, _, rfl, _⟩ | ⟨_, rfl, _⟩⟩ := h <;> rfl
  obtain ⟨G, a, c, w, h⟩ := h
  refine ⟨_, (pss_one (ps_ret (pe_ix (ka_ix K) (pv 1) (pe_callG Gd (hr.mono (by decide)) tk (pa_cons (pv 0) (pa_cons (pe_callB (ka_len K) (by rfl) T.nb_len (by decide +kernel) (pa_cons (pv 1) pa_nil)) pa_nil)) pk_nil) (fun _ _ => rfl)))), ?_⟩
  rcases h with ⟨p, xs, rfl, hp, h0, h1, k⟩ | ⟨z, rfl, h0, h1, k⟩
  · walk_at "go"
    have rd : ∀ {H1 : Hp} {Q1 : VK}, Wd G (RD a c) H1 → (∀ r H', 0 ≤ r → r < (xs.length : Int) → Wd G (RD a c) H' → Q1 (.int r) H') → spDraw [V.ref a, V.int xs.length] H1 Q1 E := fun w1 q => ⟨G, a, c, _, rfl, w1, by omega, by omega, q⟩
    have fin : ∀ r H', 0 ≤ r → r < (xs.length : Int) → Wd G (RD a c) H' → rIx K (.ref p) (.int r) H' Q := by
      intro r H' r0 r1 w'
      obtain ⟨j, rfl⟩ : ∃ j : Nat, r = j := ⟨r.toNat, by omega⟩
      have hj : j < xs.length := by omega
      rcases hp with hp | hp
      · exact g_ixL w' hp (atI_nat (List.getElem?_eq_getElem hj)) (k _ _ (List.getElem_mem hj) w')
      · exact g_ixT w' hp (atI_nat (List.getElem?_eq_getElem hj)) (k _ _ (List.getElem_mem hj) w')
    rcases id hp with hp' | hp'
    · refine g_lenL w hp' ?_
      walk_at "go"
      refine ⟨rfl, rfl, ?_⟩
      exact rd w fun r H' r0 r1 w' => fin r H' r0 r1 w'
    · refine g_lenT w hp' ?_
      walk_at "go"
      refine ⟨rfl, rfl, ?_⟩
      exact rd w fun r H' r0 r1 w' => fin r H' r0 r1 w'
  · walk_at "go"
    have hz : z.length ≤ sizeLine := by rw [sizeLine_eq]; omega
    refine g_lenS hz ?_
    walk_at "go"
    refine ⟨rfl, rfl, ?_⟩
    refine ⟨G, a, c, _, rfl, w, by omega, by omega, fun r H' r0 r1 w' => ?_⟩
    obtain ⟨j, rfl⟩ : ∃ j : Nat, r = j := ⟨r.toNat, by omega⟩
    have hj : j < z.cps.toList.length := by
      have : z.cps.toList.length = z.length := by simp [Str.length]
      omega
    exact g_ixS hz (atI_nat (List.getElem?_eq_getElem hj)) (k _ _ (List.getElem_mem hj) w')
end
end Sv


set_option Elab.async false
set_option linter.all false
set_option maxRecDepth 100000
set_option maxHeartbeats 4000000
namespace Sv
open PySem PySem.Spec PyProof.Rows L2 Sw
local macro_rules | `(tactic| walk_at "go1") => `(tactic| first
  | ((with_reducible refine' g_var ?hv ?_); (case hv => rfl))
  | with_reducible refine g_c ?_
  | with_reducible refine g_op ?_
  | with_reducible refine g_un ?_
  | with_reducible refine g_seq ?_
  | with_reducible refine g_next ?_
  | with_reducible refine g_asg ?_
  | with_reducible refine g_name ?_
  | with_reducible refine g_drop ?_
  | with_reducible refine g_sub ?_
  | with_reducible refine g_ret ?_
  | with_reducible refine g_retN ?_
  | with_reducible refine g_ifS ?_
  | with_reducible refine g_if ?_
  | with_reducible refine g_test ?_
  | with_reducible refine g_bl ?_
  | with_reducible refine g_cons ?_
  | with_reducible refine g_nil ?_
  | with_reducible refine g_and ?_
  | with_reducible refine g_or ?_
  | with_reducible refine g_not ?_
  | with_reducible refine g_callB ?_
  | with_reducible refine g_addI ?_
  | with_reducible refine g_I0 ?_
  | with_reducible refine g_calG ?_
  | with_reducible refine g_mkG ?_
  | with_reducible refine g_tup ?_
  | with_reducible refine g_pairs1 ?_
  | with_reducible refine g_pairs0 ?_
  | with_reducible refine g_dget ?_
  | with_reducible refine g_lvals ?_
  | with_reducible refine g_forT ?_
  | with_reducible refine g_lcT ?_
  | with_reducible refine g_dput ?_
  | with_reducible refine g_lc2L ?_
  | with_reducible refine g_iList ?_
  | with_reducible refine g_lcX ?_
  | with_reducible refine g_js1 ?_
  | with_reducible refine g_js0 ?_
  | with_reducible refine g_fmt ?_
  | with_reducible refine g_tLenSet ?_
  | with_reducible refine g_mkV ?_
  | with_reducible refine g_mkV1 ?_
  | with_reducible refine g_lst ?_
  | with_reducible refine g_forL ?_
  | with_reducible refine g_forR ?_
  | with_reducible refine g_forR2 ?_
  | with_reducible refine g_forS ?_
  | with_reducible refine g_forE ?_
  | with_reducible refine g_lcL ?_
  | with_reducible refine g_lcR ?_
  | with_reducible refine g_lcS ?_
  | with_reducible refine g_lcE ?_
  | with_reducible refine g_orT ?_
  | with_reducible refine g_slc ?_
  | with_reducible refine g_noPart ?_
  | with_reducible refine g_part ?_
  | with_reducible refine g_bm ?_
  | with_reducible refine g_par ?_
  | with_reducible refine g_yes ?_
  | with_reducible refine g_tupG ?_
  | with_reducible refine g_lstG ?_
  | with_reducible refine g_gcons ?_
  | with_reducible refine g_gnil ?_
  | with_reducible refine g_chain ?_
  | with_reducible refine g_truB ?_
  | with_reducible refine g_truN ?_
  | with_reducible refine g_truI ?_
  | with_reducible refine g_m1 ?_
  | with_reducible refine g_fld ?_
  | with_reducible refine g_con ?_
  | with_reducible refine g_tru ?_
  | with_reducible refine g_U ?_
  | with_reducible refine g_xg ?_
  | with_reducible refine g_andT ?_
  | with_reducible refine g_exI ?_
  | with_reducible refine g_dnew ?_
  | with_reducible refine g_intB ?_
  | with_reducible refine g_meth ?_
  | with_reducible refine g_prop ?_
  | with_reducible refine g_exc1 ?_
  | with_reducible refine g_setF ?_
  | with_reducible refine g_star ?_
  | with_reducible refine g_strM ?_
  | with_reducible refine iteT ?_
  | with_reducible refine iteF ?_
  | with_reducible refine iteNT ?_
  | with_reducible refine iteNF ?_)
local macro_rules | `(tactic| walk_at "go") => `(tactic| repeat (walk_at "go1"))
local macro_rules | `(tactic| walk_at "sz") => `(tactic| (first | (rw [sizeLine_eq]; simp only [List.length_cons, List.length_nil, List.length_map, List.length_append, List.length_take]; omega) | (rw [sizeLine_eq]; omega)))
section
variable {P : Program} {wo : World} {A : Ad} {K : PySem.W.Frag} {mg : Str → Option Value} {base : Heap}

def resv : List Str := ["key", "limit", "order", "self", "table"]
def letters : Str := "abcdefghijklmnopqrstuvwxyz"
def lowS (s : Str) : Bool := s.cps.toList.all fun c => decide (c ∈ letters.cps.toList)
def isNm (s : Str) : Bool := decide (1 ≤ s.length) && decide (s.length ≤ 8) && !inV (.str s) (resv.map V.str) && lowS s
/-- no text: isinstance(v, str) says False -/
def NotStr (K : PySem.W.Frag) (H : Hp) (v : V) : Prop := ∃ t, TyX K H v t ∧ PySem.W.kitOne K t (.type "str") = some false
theorem kit_str : PySem.W.kitOne K (.type "str") (.type "str") = some true := kit_ty (by decide +kernel)
def spIsName (K : PySem.W.Frag) : Sp := fun vs H Q _ => ∃ v, vs = [v] ∧ ((∃ s : Str, v = .str s ∧ s.length ≤ 1000000 ∧ ∀ H', Same H H' → Q (.bl (isNm s)) H') ∨ (NotStr K H v ∧ ∀ H', Same H H' → Q (.bl false) H'))
theorem sc_is_name : FnScope (["value", "letter"] : List Str) (["value"] : List Str) (defScope s_is_name) := ⟨rfl, rfl, rfl, by decide +kernel, rfl, by decide +kernel, by decide +kernel⟩
theorem ok_is_name {f : Addr} {fd : FuncData} (F : Fun K "is_name" "is_name" s_is_name f fd) (T : Txt K mg A) : FnOk P wo K mg base (L2.CX P wo) 1 f fd (["value"] : List Str) (spIsName K) := by
  refine okT F sc_is_name (fun vs H Q E h => ?_) (fun cdv Ar outer s H vs Q E hr tk po h => ?_)
  · obtain ⟨_, rfl, _⟩ := h
    rfl
  obtain ⟨v, rfl, h⟩ := h
  refine ⟨_, (pss_cons (ps_if (PW.pt (pw_or (pt_not (kt_truth K (pe_callB (ka_isi K) (by rfl) T.nb_isinstance (by decide +kernel) (pa_cons (pv 0) (pa_cons (pe_bltn (v := .ty "str") (u := .type "str") (by rfl) T.nb_str (by decide +kernel) rfl) pa_nil))) (by intro _; rfl))) (pw_or (pt_not (pt_chain op_le op_le pe_int (pe_callB (ka_len K) (by rfl) T.nb_len (by decide +kernel) (pa_cons (pv 0) pa_nil)) (pe_globE (by rfl) T.g_LONGEST_NAME))) (pw_or1 (pt_cmpR (ka_in K) (pv 0) (pe_globE (by rfl) T.g_RESERVED) (by first | exact nomark _ | rfl)))))) (pss_one (ps_ret pe_bl)) pss_nil)
      (pss_one (ps_ret (pe_callB (ka_all K rfl) (by rfl) T.nb_all (by decide +kernel) (pa_cons (pe_lc (own := [("letter", 1)]) (g := (gName 1)) (tt := tYes) rfl sc_is_name.nd (pi_str (pv 0)) (blkOk_by (N := (["value", "letter"] : List Str)) (sc := defScope s_is_name) (by decide +kernel)) (fun _ _ _ _ _ => (pg_name (i := 1) sc_is_name.nd rfl (by first | exact Or.inl rfl | exact Or.inr rfl))) (fun _ _ _ _ _ => pts_nil) (fun _ _ _ _ _ => (pe_cmpR (ka_in K) (pv 1) (pe_globE (by rfl) T.g_LETTERS) (by first | exact nomark _ | rfl)))) pa_nil))))), ?_⟩
  have w := Wd.r0 H
  rcases h with ⟨z, rfl, hz, k⟩ | ⟨⟨t, ht, hk⟩, k⟩
  · have hz' : z.length ≤ sizeLine := by rw [sizeLine_eq]; omega
    walk_at "go"
    refine g_isi (.ty _) (.base (.str z)) kit_str ?_
    walk_at "go"
    refine g_lenS hz' ?_
    walk_at "go"
    have res : isNm z = (decide (1 ≤ z.length) && decide (z.length ≤ 8) && !inV (.str z) (resv.map V.str) && lowS z) := rfl
    refine iteD (fun h1 => ?_) (fun h1 => ?_)
    · walk_at "go"
      refine iteN (fun h2 => ?_) (fun h2 => ?_)
      · walk_at "go"
        have e : isNm z = false := by
          rw [res, decide_eq_false (show ¬ z.length ≤ 8 by omega), Bool.and_false]
          rfl
        rw [← e]
        exact k H (Same.refl H)
      walk_at "go"
      refine g_inT w (T.t_RESERVED H) rfl rfl ?_
      walk_at "go"
      refine iteB (fun h3 => ?_) (fun h3 => ?_)
      · walk_at "go"
        have e : isNm z = false := by
          rw [res, show inV (.str z) (resv.map V.str) = true from h3, Bool.not_true, Bool.and_false]
          rfl
        rw [← e]
        exact k H (Same.refl H)
      walk_at "go"
      have e : isNm z = lowS z := by
        rw [res, decide_eq_true (show 1 ≤ z.length by omega), decide_eq_true (show z.length ≤ 8 by omega), show inV (.str z) (resv.map V.str) = false from h3]
        simp
      rw [e] at k
      refine ⟨z, rfl, ?_⟩
      refine lc_it itf_str w (fun _ _ => True.intro) (by rw [sizeLine_eq]; have : z.cps.size = z.length := rfl; omega) (fun i _ acc => acc = ((z.cps.toList.take i).map fun c => decide (c ∈ letters.cps.toList)).map V.bl) rfl ?_ ?_
      · rintro i x Gi acc D H2 H2' hi e nD ha hl2 w2 ⟨rfl, c, hc, rfl⟩
        walk_at "go"
        refine ⟨rfl, ?_⟩
        walk_at "go"
        refine g_inSg ?_
        refine lc_keep (Pv := fun i _ acc => acc = ((z.cps.toList.take i).map fun c => decide (c ∈ letters.cps.toList)).map V.bl) w2 e nD hl2 hi (by rw [sizeLine_eq]; have : z.cps.size = z.length := rfl; omega) ?_
        have hc' : z.cps.toList[i]? = some c := by simpa using hc
        rw [ha, List.take_add_one, hc']
        simp
        rfl
      · rintro D Gn acc H2 e nD rfl hl2 w2
        walk_at "go"
        have hlen : z.cps.size = z.cps.toList.length := by simp
        rw [hlen, List.take_length] at w2
        refine g_all w2 (SqL.of upd_same) ?_
        rw [List.all_map]
        exact k _ (Same.trans (Same.trans e (Same.newG nD)) w2.sub)
    · walk_at "go"
      have e : isNm z = false := by
        rw [res, decide_eq_false (show ¬ 1 ≤ z.length by omega)]
        rfl
      rw [← e]
      exact k H (Same.refl H)
  · walk_at "go"
    refine g_isi (.ty _) ht hk ?_
    walk_at "go"
    exact k H (Same.refl H)
end
end Sv


set_option Elab.async false
set_option linter.all false
set_option maxRecDepth 100000
set_option maxHeartbeats 4000000
namespace Sv
open PySem PySem.Spec PyProof.Rows L2 Sw
local macro_rules | `(tactic| walk_at "go1") => `(tactic| first
  | ((with_reducible refine' g_var ?hv ?_); (case hv => rfl))
  | with_reducible refine g_c ?_
  | with_reducible refine g_op ?_
  | with_reducible refine g_un ?_
  | with_reducible refine g_seq ?_
  | with_reducible refine g_next ?_
  | with_reducible refine g_asg ?_
  | with_reducible refine g_name ?_
  | with_reducible refine g_drop ?_
  | with_reducible refine g_sub ?_
  | with_reducible refine g_ret ?_
  | with_reducible refine g_retN ?_
  | with_reducible refine g_ifS ?_
  | with_reducible refine g_if ?_
  | with_reducible refine g_test ?_
  | with_reducible refine g_bl ?_
  | with_reducible refine g_cons ?_
  | with_reducible refine g_nil ?_
  | with_reducible refine g_and ?_
  | with_reducible refine g_or ?_
  | with_reducible refine g_not ?_
  | with_reducible refine g_callB ?_
  | with_reducible refine g_addI ?_
  | with_reducible refine g_I0 ?_
  | with_reducible refine g_calG ?_
  | with_reducible refine g_mkG ?_
  | with_reducible refine g_tup ?_
  | with_reducible refine g_pairs1 ?_
  | with_reducible refine g_pairs0 ?_
  | with_reducible refine g_dget ?_
  | with_reducible refine g_lvals ?_
  | with_reducible refine g_forT ?_
  | with_reducible refine g_lcT ?_
  | with_reducible refine g_dput ?_
  | with_reducible refine g_lc2L ?_
  | with_reducible refine g_iList ?_
  | with_reducible refine g_lcX ?_
  | with_reducible refine g_js1 ?_
  | with_reducible refine g_js0 ?_
  | with_reducible refine g_fmt ?_
  | with_reducible refine g_tLenSet ?_
  | with_reducible refine g_mkV ?_
  | with_reducible refine g_mkV1 ?_
  | with_reducible refine g_lst ?_
  | with_reducible refine g_forL ?_
  | with_reducible refine g_forR ?_
  | with_reducible refine g_forR2 ?_
  | with_reducible refine g_forS ?_
  | with_reducible refine g_forE ?_
  | with_reducible refine g_lcL ?_
  | with_reducible refine g_lcR ?_
  | with_reducible refine g_lcS ?_
  | with_reducible refine g_lcE ?_
  | with_reducible refine g_orT ?_
  | with_reducible refine g_slc ?_
  | with_reducible refine g_noPart ?_
  | with_reducible refine g_part ?_
  | with_reducible refine g_bm ?_
  | with_reducible refine g_par ?_
  | with_reducible refine g_yes ?_
  | with_reducible refine g_tupG ?_
  | with_reducible refine g_lstG ?_
  | with_reducible refine g_gcons ?_
  | with_reducible refine g_gnil ?_
  | with_reducible refine g_chain ?_
  | with_reducible refine g_truB ?_
  | with_reducible refine g_truN ?_
  | with_reducible refine g_truI ?_
  | with_reducible refine g_m1 ?_
  | with_reducible refine g_fld ?_
  | with_reducible refine g_con ?_
  | with_reducible refine g_tru ?_
  | with_reducible refine g_U ?_
  | with_reducible refine g_xg ?_
  | with_reducible refine g_andT ?_
  | with_reducible refine g_exI ?_
  | with_reducible refine g_dnew ?_
  | with_reducible refine g_intB ?_
  | with_reducible refine g_meth ?_
  | with_reducible refine g_prop ?_
  | with_reducible refine g_exc1 ?_
  | with_reducible refine g_setF ?_
  | with_reducible refine g_star ?_
  | with_reducible refine g_strM ?_
  | with_reducible refine iteT ?_
  | with_reducible refine iteF ?_
  | with_reducible refine iteNT ?_
  | with_reducible refine iteNF ?_)
local macro_rules | `(tactic| walk_at "go") => `(tactic| repeat (walk_at "go1"))
local macro_rules | `(tactic| walk_at "sz") => `(tactic| (first | (rw [sizeLine_eq]; simp only [List.length_cons, List.length_nil, List.length_map, List.length_append, List.length_take]; omega) | (rw [sizeLine_eq]; omega)))
/-! ### columns -/
inductive Kd where
  | int | text | ref
  deriving DecidableEq
def kcls (A : Ad) : Kd → Addr
  | .int => A.IntColumn
  | .text => A.TextColumn
  | .ref => A.RefColumn
def kstr : Kd → Str
  | .int => "int"
  | .text => "text"
  | .ref => "ref"
structure Col where
  k : Kd
  name : Str
  opt : Bool
  target : Str
  rule : Str
def optW (b : Bool) : List Str := if b = true then ["optional"] else []
def Col.words0 (c : Col) : List Str := [kstr c.k, c.name] ++ optW c.opt
def Col.words (c : Col) : List Str := if c.k = .ref then [kstr c.k, c.name, c.target] ++ optW c.opt ++ [c.rule] else c.words0
def Col.text (c : Col) : Str := Txt.join " " c.words
def Col.fs0 (c : Col) : List (Str × V) := [("name", .str c.name), ("optional", .bl c.opt)]
def Col.fs (c : Col) : List (Str × V) := if c.k = .ref then c.fs0 ++ ([("target", .str c.target), ("rule", .str c.rule)] : List (Str × V)) else c.fs0
theorem lk_ne {f g : Str} {x : V} {r : List (Str × V)} (h : (f == g) = false) : List.lookup f ((g, x) :: r) = List.lookup f r := by
  rw [List.lookup_cons, h]
theorem lk_eq {f : Str} {x : V} {r : List (Str × V)} : List.lookup f ((f, x) :: r) = some x := by
  rw [List.lookup_cons, beq_self_eq_true]
theorem Col.l_kind (c : Col) : c.fs.lookup ("KIND" : Str) = none := by
  unfold Col.fs Col.fs0
  split
  · rw [List.cons_append, List.cons_append, List.nil_append, lk_ne (by decide +kernel), lk_ne (by decide +kernel), lk_ne (by decide +kernel), lk_ne (by decide +kernel)]; rfl
  · rw [lk_ne (by decide +kernel), lk_ne (by decide +kernel)]; rfl
theorem Col.l_words (c : Col) : c.fs.lookup ("words" : Str) = none := by
  unfold Col.fs Col.fs0
  split
  · rw [List.cons_append, List.cons_append, List.nil_append, lk_ne (by decide +kernel), lk_ne (by decide +kernel), lk_ne (by decide +kernel), lk_ne (by decide +kernel)]; rfl
  · rw [lk_ne (by decide +kernel), lk_ne (by decide +kernel)]; rfl
theorem Col.l_name (c : Col) : c.fs.lookup ("name" : Str) = some (.str c.name) := by
  unfold Col.fs Col.fs0
  split <;> exact lk_eq
theorem Col.l_opt (c : Col) : c.fs.lookup ("optional" : Str) = some (.bl c.opt) := by
  unfold Col.fs Col.fs0
  split
  · rw [List.cons_append, List.cons_append, List.nil_append, lk_ne (by decide +kernel), lk_eq]
  · rw [lk_ne (by decide +kernel), lk_eq]
theorem Col.l_target (c : Col) (h : c.k = .ref) : c.fs.lookup ("target" : Str) = some (.str c.target) := by
  unfold Col.fs Col.fs0
  rw [if_pos h, List.cons_append, List.cons_append, List.nil_append, lk_ne (by decide +kernel), lk_ne (by decide +kernel), lk_eq]
theorem Col.l_rule (c : Col) (h : c.k = .ref) : c.fs.lookup ("rule" : Str) = some (.str c.rule) := by
  unfold Col.fs Col.fs0
  rw [if_pos h, List.cons_append, List.cons_append, List.nil_append, lk_ne (by decide +kernel), lk_ne (by decide +kernel), lk_ne (by decide +kernel), lk_eq]
def rules : List Str := ["restrict", "clear", "cascade"]
def ruleOk (r : Str) (o : Bool) : Bool := inV (.str r) (rules.map V.str) && !(decide (r = "clear") && !o)
def Col.ok (c : Col) : Prop := isNm c.name = true ∧ (c.k = .ref → isNm c.target = true ∧ ruleOk c.rule c.opt = true)
def ColAt (A : Ad) (G : Hp) (a : Addr) (c : Col) : Prop := ∃ dx, G a = some (.ins (kcls A c.k) dx c.fs)
theorem putF_ne {f g : Str} {v x : V} {r : List (Str × V)} (h : decide (g = f) = false) : putF f v ((g, x) :: r) = (g, x) :: putF f v r := by
  show (if g = f then (g, v) :: r else (g, x) :: putF f v r) = _
  rw [if_neg (of_decide_eq_false h)]
theorem ColAt.same {A : Ad} {G G' : Hp} {a : Addr} {c : Col} (h : ColAt A G a c) (e : Same G G') : ColAt A G' a c := ⟨_, e _ _ h.choose_spec⟩
/-- what the text says of the three classes -/
structure ColF (K : PySem.W.Frag) (A : Ad) : Prop where
  cls : ∀ k, Cls K (kcls A k)
  na : ∀ k, NoAttr K (kcls A k) "name"
  no : ∀ k, NoAttr K (kcls A k) "optional"
  nt : NoAttr K A.RefColumn "target"
  nr : NoAttr K A.RefColumn "rule"
  kd : ∀ k, ∃ u, Con K (kcls A k) "KIND" (.str (kstr k)) u
/-- a name or no text -/
def Nmb (K : PySem.W.Frag) (H : Hp) (v : V) (b : Bool) : Prop := (∃ s : Str, v = .str s ∧ s.length ≤ 1000000 ∧ b = isNm s) ∨ (NotStr K H v ∧ b = false)
theorem Nmb.same {K : PySem.W.Frag} {G H : Hp} {v : V} {b : Bool} (h : Nmb K G v b) (e : Same G H) : Nmb K H v b := by
  rcases h with ⟨s, h⟩ | ⟨⟨t, h1, h2⟩, h3⟩
  · exact .inl ⟨s, h⟩
  · exact .inr ⟨⟨t, tyX_same e h1, h2⟩, h3⟩
theorem Nmb.ins {K : PySem.W.Frag} {G : Hp} {v : V} {b : Bool} {x C dx : Addr} {fs fs' : List (Str × V)} (h : Nmb K G v b) (hx : G x = some (.ins C dx fs)) : Nmb K (upd G x (.ins C dx fs')) v b := by
  rcases h with ⟨s, h⟩ | ⟨⟨t, h1, h2⟩, h3⟩
  · exact .inl ⟨s, h⟩
  · exact .inr ⟨⟨t, tyX_ins hx h1, h2⟩, h3⟩
theorem Nmb.is {K : PySem.W.Frag} {H : Hp} {v : V} {b : Bool} {Q : VK} {E : XK} (h : Nmb K H v b) (k : ∀ H', Same H H' → Q (.bl b) H') : spIsName K [v] H Q E := by
  rcases h with ⟨s, rfl, hs, rfl⟩ | ⟨h, rfl⟩
  · exact ⟨_, rfl, .inl ⟨s, rfl, hs, k⟩⟩
  · exact ⟨_, rfl, .inr ⟨h, k⟩⟩
section
variable {P : Program} {wo : World} {A : Ad} {K : PySem.W.Frag} {mg : Str → Option Value} {base : Heap}

/-- Column.__init__: a name, or InvalidName -/
def spColInit (K : PySem.W.Frag) (A : Ad) : Sp := fun vs H Q E => ∃ G R x C dx v o b, vs = [.ref x, v, .bl o] ∧ Wd G R H ∧ G x = some (.ins C dx []) ∧ Cls K C ∧ NoAttr K C "name" ∧ NoAttr K C "optional" ∧ Nmb K G v b ∧
  (b = true → ∀ H', Wd (upd G x (.ins C dx [("name", v), ("optional", .bl o)])) R H' → Q .non H') ∧
  (b = false → ∀ d H', G d = none → Wd (upd G d (.xd [("name", v)])) R H' → E (.ref A.InvalidName) (some d) H')
theorem sc_Column___init__ : FnScope (["self", "name", "optional"] : List Str) (["self", "name", "optional"] : List Str) (defScope s_Column___init__) := ⟨rfl, rfl, rfl, by decide +kernel, rfl, by decide +kernel, by decide +kernel⟩
theorem ok_col_init {f : Addr} {fd : FuncData} (F : FunD K "__init__" "Column.__init__" (defArgs s_Column___init__) (defBody s_Column___init__) (defScope s_Column___init__) [] [("optional", .bl false)] f fd) (T : Txt K mg A)
    (Gn : GFn P wo K mg base 1 "is_name" 1 [] (fun vs _ => spIsName K vs)) (XN : Exc1 P wo K mg base "InvalidName" A.InvalidName "name") : FnOk P wo K mg base (L2.CX P wo) 3 f fd (["self", "name", "optional"] : List Str) (spColInit K A) := by
  refine okTD F sc_Column___init__ (fun vs H Q E h => ?_) (fun cdv Ar outer s H vs Q E hr tk po h => ?_)
  · obtain ⟨_, _, _, _, _, _, _, _, rfl, _⟩ := h
    rfl
  obtain ⟨G, R, x, C, dx, v, o, b, rfl, w, hx, hC, h1, h2, hn, k1, k2⟩ := h
  refine ⟨_, (pss_cons (ps_if (pt_not (kt_truth K (pe_callG Gn (hr.mono (by decide)) tk (pa_cons (pv 1) pa_nil) pk_nil) (by intro _; rfl))) (pss_one (ps_raise rfl tk (pmk_exc1 XN (hr.mono (by decide)) (pa_cons (pv 1) pa_nil)))) pss_nil)
      (pss_cons (ps_fld (pv 0) (pv 1) rfl)
      (pss_one (ps_fld (pv 0) (pv 2) rfl)))), ?_⟩
  walk_at "go"
  refine ⟨rfl, rfl, (hn.same w.sub).is fun H1 e1 => ?_⟩
  have w1 := w.same e1
  walk_at "go"
  refine iteBN (fun e => ?_) (fun e => ?_)
  · subst e
    walk_at "go"
    exact ⟨v, rfl, fun d hd => k2 rfl d _ (w1.free hd) (w1.new hd)⟩
  · subst e
    walk_at "go"
    refine g_sf w1 hx hC h1 (show 0 < 1000 by decide) fun H2 w2 => ?_
    rw [putF_nil] at w2
    walk_at "go"
    refine g_sf w2 upd_same hC h2 (show 1 < 1000 by decide) fun H3 w3 => ?_
    rw [upd_upd, putF_ne (by decide +kernel), putF_nil] at w3
    exact k1 rfl _ w3

def spWords0 (A : Ad) : Sp := fun vs H Q _ => ∃ G R x c, vs = [.ref x] ∧ Wd G R H ∧ ColAt A G x c ∧ ∀ p H', G p = none → Wd (upd G p (.lst (c.words0.map V.str))) R H' → Q (.ref p) H'
theorem sc_Column_words : FnScope (["self"] : List Str) (["self"] : List Str) (defScope s_Column_words) := ⟨rfl, rfl, rfl, by decide +kernel, rfl, by decide +kernel, by decide +kernel⟩
theorem ok_words0 {f : Addr} {fd : FuncData} (F : Fun K "words" "Column.words" s_Column_words f fd) (T : Txt K mg A) (CF : ColF K A) : FnOk P wo K mg base (L2.CX P wo) 1 f fd (["self"] : List Str) (spWords0 A) := by
  refine okT F sc_Column_words (fun vs H Q E h => ?_) (fun cdv Ar outer s H vs Q E hr tk po h => ?_)
  · obtain ⟨_, _, _, _, rfl, _⟩ := h
    rfl
  obtain ⟨G, R, x, c, rfl, w, ⟨dx, hx⟩, k⟩ := h
  obtain ⟨u, hu⟩ := CF.kd c.k
  have l0 := c.l_kind
  have l1 := c.l_name
  have l2 := c.l_opt
  refine ⟨_, (pss_one (ps_ret (pe_op (ka_add K) (pe_lst (pa_cons (ke_con K (pv 0) rfl) (pa_cons (ke_fld K (pv 0) rfl) pa_nil))) (pe_ifExp (kt_truth K (ke_fld K (pv 0) rfl) (by intro _; rfl)) (pe_lst (pa_cons pe_str pa_nil)) (pe_lst pa_nil))))), ?_⟩
  walk_at "go"
  refine g_gc w hx (CF.cls _) hu l0 ?_
  walk_at "go"
  refine g_gf w hx (CF.cls _) (CF.na _) l1 ?_
  walk_at "go"
  refine g_newL w (by walk_at "sz") fun p1 H1 n1 w1 => ?_
  walk_at "go"
  refine g_gf w1 (upd_old hx n1) (CF.cls _) (CF.no _) l2 ?_
  walk_at "go"
  refine iteB (fun e => ?_) (fun e => ?_)
  · walk_at "go"
    refine g_newL w1 (by walk_at "sz") fun p2 H2 n2 w2 => ?_
    refine g_addL w2 (upd_old upd_same n2) upd_same (by walk_at "sz") fun p3 H3 n3 w3 => ?_
    refine k p3 H3 (upd_nonne (upd_nonne n3).1).1 ?_
    have ew : c.words0.map V.str = [V.str (kstr c.k), V.str c.name] ++ [V.str "optional"] := by
      unfold Col.words0 optW
      rw [e]
      rfl
    rw [ew]
    exact w3.drop (Same.upd2 (Same.trans (Same.newG n1) (Same.newG n2)))
  · walk_at "go"
    refine g_newL w1 (by walk_at "sz") fun p2 H2 n2 w2 => ?_
    refine g_addL w2 (upd_old upd_same n2) upd_same (by walk_at "sz") fun p3 H3 n3 w3 => ?_
    refine k p3 H3 (upd_nonne (upd_nonne n3).1).1 ?_
    have ew : c.words0.map V.str = [V.str (kstr c.k), V.str c.name] ++ [] := by
      unfold Col.words0 optW
      rw [e]
      rfl
    rw [ew]
    exact w3.drop (Same.upd2 (Same.trans (Same.newG n1) (Same.newG n2)))
end
end Sv


set_option Elab.async false
set_option linter.all false
set_option maxRecDepth 100000
set_option maxHeartbeats 4000000
namespace Sv
open PySem PySem.Spec PyProof.Rows L2 Sw
local macro_rules | `(tactic| walk_at "go1") => `(tactic| first
  | ((with_reducible refine' g_var ?hv ?_); (case hv => rfl))
  | with_reducible refine g_c ?_
  | with_reducible refine g_op ?_
  | with_reducible refine g_un ?_
  | with_reducible refine g_seq ?_
  | with_reducible refine g_next ?_
  | with_reducible refine g_asg ?_
  | with_reducible refine g_name ?_
  | with_reducible refine g_drop ?_
  | with_reducible refine g_sub ?_
  | with_reducible refine g_ret ?_
  | with_reducible refine g_retN ?_
  | with_reducible refine g_ifS ?_
  | with_reducible refine g_if ?_
  | with_reducible refine g_test ?_
  | with_reducible refine g_bl ?_
  | with_reducible refine g_cons ?_
  | with_reducible refine g_nil ?_
  | with_reducible refine g_and ?_
  | with_reducible refine g_or ?_
  | with_reducible refine g_not ?_
  | with_reducible refine g_callB ?_
  | with_reducible refine g_addI ?_
  | with_reducible refine g_I0 ?_
  | with_reducible refine g_calG ?_
  | with_reducible refine g_mkG ?_
  | with_reducible refine g_tup ?_
  | with_reducible refine g_pairs1 ?_
  | with_reducible refine g_pairs0 ?_
  | with_reducible refine g_dget ?_
  | with_reducible refine g_lvals ?_
  | with_reducible refine g_forT ?_
  | with_reducible refine g_lcT ?_
  | with_reducible refine g_dput ?_
  | with_reducible refine g_lc2L ?_
  | with_reducible refine g_iList ?_
  | with_reducible refine g_lcX ?_
  | with_reducible refine g_js1 ?_
  | with_reducible refine g_js0 ?_
  | with_reducible refine g_fmt ?_
  | with_reducible refine g_tLenSet ?_
  | with_reducible refine g_mkV ?_
  | with_reducible refine g_mkV1 ?_
  | with_reducible refine g_lst ?_
  | with_reducible refine g_forL ?_
  | with_reducible refine g_forR ?_
  | with_reducible refine g_forR2 ?_
  | with_reducible refine g_forS ?_
  | with_reducible refine g_forE ?_
  | with_reducible refine g_lcL ?_
  | with_reducible refine g_lcR ?_
  | with_reducible refine g_lcS ?_
  | with_reducible refine g_lcE ?_
  | with_reducible refine g_orT ?_
  | with_reducible refine g_slc ?_
  | with_reducible refine g_noPart ?_
  | with_reducible refine g_part ?_
  | with_reducible refine g_bm ?_
  | with_reducible refine g_par ?_
  | with_reducible refine g_yes ?_
  | with_reducible refine g_tupG ?_
  | with_reducible refine g_lstG ?_
  | with_reducible refine g_gcons ?_
  | with_reducible refine g_gnil ?_
  | with_reducible refine g_chain ?_
  | with_reducible refine g_truB ?_
  | with_reducible refine g_truN ?_
  | with_reducible refine g_truI ?_
  | with_reducible refine g_m1 ?_
  | with_reducible refine g_fld ?_
  | with_reducible refine g_con ?_
  | with_reducible refine g_tru ?_
  | with_reducible refine g_U ?_
  | with_reducible refine g_xg ?_
  | with_reducible refine g_andT ?_
  | with_reducible refine g_exI ?_
  | with_reducible refine g_dnew ?_
  | with_reducible refine g_intB ?_
  | with_reducible refine g_meth ?_
  | with_reducible refine g_prop ?_
  | with_reducible refine g_exc1 ?_
  | with_reducible refine g_setF ?_
  | with_reducible refine g_star ?_
  | with_reducible refine g_strM ?_
  | with_reducible refine iteT ?_
  | with_reducible refine iteF ?_
  | with_reducible refine iteNT ?_
  | with_reducible refine iteNF ?_)
local macro_rules | `(tactic| walk_at "go") => `(tactic| repeat (walk_at "go1"))
local macro_rules | `(tactic| walk_at "sz") => `(tactic| (first | (rw [sizeLine_eq]; simp only [List.length_cons, List.length_nil, List.length_map, List.length_append, List.length_take]; omega) | (rw [sizeLine_eq]; omega)))
section
variable {P : Program} {wo : World} {A : Ad} {K : PySem.W.Frag} {mg : Str → Option Value} {base : Heap}

/-- is the rule accepted, whatever value it is -/
def Rmb (K : PySem.W.Frag) (H : Hp) (v : V) (o : Bool) (b : Bool) : Prop := (∃ s : Str, v = .str s ∧ b = ruleOk s o) ∨ (NotStr K H v ∧ b = false)
theorem Rmb.same {G H : Hp} {v : V} {o b : Bool} (h : Rmb K G v o b) (e : Same G H) : Rmb K H v o b := by
  rcases h with ⟨s, h⟩ | ⟨⟨t, h1, h2⟩, h3⟩
  · exact .inl ⟨s, h⟩
  · exact .inr ⟨⟨t, tyX_same e h1, h2⟩, h3⟩
theorem Rmb.ins {G : Hp} {v : V} {o b : Bool} {x C dx : Addr} {fs fs' : List (Str × V)} (h : Rmb K G v o b) (hx : G x = some (.ins C dx fs)) : Rmb K (upd G x (.ins C dx fs')) v o b := by
  rcases h with ⟨s, h⟩ | ⟨⟨t, h1, h2⟩, h3⟩
  · exact .inl ⟨s, h⟩
  · exact .inr ⟨⟨t, tyX_ins hx h1, h2⟩, h3⟩
/-- RefColumn.__init__ -/
def spRefInit (K : PySem.W.Frag) (A : Ad) : Sp := fun vs H Q E => ∃ G R x dx v t o r b1 b2 b3, vs = [.ref x, v, t, .bl o, r] ∧ Wd G R H ∧ G x = some (.ins A.RefColumn dx []) ∧ Nmb K G v b1 ∧ Nmb K G t b2 ∧ Rmb K G r o b3 ∧
  (b1 = true → b2 = true → b3 = true → ∀ H', Wd (upd G x (.ins A.RefColumn dx [("name", v), ("optional", .bl o), ("target", t), ("rule", r)])) R H' → Q .non H') ∧
  (b1 = false → ∀ d H', G d = none → Wd (upd G d (.xd [("name", v)])) R H' → E (.ref A.InvalidName) (some d) H') ∧
  (b1 = true → b2 = false → ∀ d H', G d = none → Wd (upd (upd G x (.ins A.RefColumn dx [("name", v), ("optional", .bl o)])) d (.xd [("name", t)])) R H' → E (.ref A.InvalidName) (some d) H') ∧
  (b1 = true → b2 = true → b3 = false → ∀ d H', G d = none → Wd (upd (upd G x (.ins A.RefColumn dx [("name", v), ("optional", .bl o)])) d (.xd [("name", v)])) R H' → E (.ref A.InvalidColumn) (some d) H')
theorem sc_RefColumn___init__ : Sw.SScope (["self", "name", "target", "optional", "rule"] : List Str) (["self", "name", "target", "optional", "rule"] : List Str) (defScope s_RefColumn___init__) := ⟨rfl, rfl, rfl, by decide +kernel, rfl, by decide +kernel, by decide +kernel, by decide +kernel⟩
theorem ok_ref_init {f cc cda : Addr} {fd : FuncData} (F : FunS P K "__init__" "RefColumn.__init__" s_RefColumn___init__ f cc A.RefColumn cda fd) (U : SupTop P mg) (T : Txt K mg A) (CF : ColF K A)
    (Gn : GFn P wo K mg base 1 "is_name" 1 [] (fun vs _ => spIsName K vs)) (XN : Exc1 P wo K mg base "InvalidName" A.InvalidName "name") (XC : Exc1 P wo K mg base "InvalidColumn" A.InvalidColumn "name")
    {g : Addr} (M_init : SupM K A.RefColumn A.RefColumn "__init__" g) (C_init : Cal P wo K mg base 3 g 2 ["optional"] (fun vs zs => spColInit K A (vs ++ zs))) : FnOk P wo K mg base (L2.CX P wo) 4 f fd (["self", "name", "target", "optional", "rule"] : List Str) (spRefInit K A) := by
  refine F.ok sc_RefColumn___init__ U rfl rfl ⟨_, rfl, rfl, rfl⟩ (fun vs H Q E h => ?_) (fun Ar outer s H vs Q E hr Z tk h => ?_)
  · obtain ⟨_, _, _, _, _, _, _, _, _, _, _, rfl, _⟩ := h
    rfl
  obtain ⟨G, R, x, dx, v, t, o, r, b1, b2, b3, rfl, w, hx, hv, ht, hrr, k1, k2, k3, k4⟩ := h
  refine ⟨_, (PSst.cons (pst_expr (pet_sup Z M_init C_init (hr.mono (by decide)) tk (pa_cons (pv 1) pa_nil) (pk_cons (pv 3) pk_nil)) rfl) (PSst.of (pss_cons (ps_if (pt_not (kt_truth K (pe_callG Gn (hr.mono (by decide)) tk (pa_cons (pv 2) pa_nil) pk_nil) (by intro _; rfl))) (pss_one (ps_raise rfl tk (pmk_exc1 XN (hr.mono (by decide)) (pa_cons (pv 2) pa_nil)))) pss_nil)
      (pss_cons (ps_if (PW.pt (pw_or (pt_not (kt_truth K (pe_callB (ka_isi K) (by rfl) T.nb_isinstance (by decide +kernel) (pa_cons (pv 4) (pa_cons (pe_bltn (v := .ty "str") (u := .type "str") (by rfl) T.nb_str (by decide +kernel) rfl) pa_nil))) (by intro _; rfl))) (pw_or (pt_cmpR (ka_ni K) (pv 4) (pe_globE (by rfl) T.g_RULES) (by first | exact nomark _ | rfl)) (pw_or1 (PW.pt (pw_and (pt_cmpR (ka_eq K hr.units) (pv 4) pe_str (nomark _)) (pw_and1 (pt_not (kt_truth K (pv 3) (by intro _; rfl)))))))))) (pss_one (ps_raise rfl tk (pmk_exc1 XC (hr.mono (by decide)) (pa_cons (pv 1) pa_nil)))) pss_nil)
      (pss_cons (ps_fld (pv 0) (pv 2) rfl)
      (pss_one (ps_fld (pv 0) (pv 4) rfl))))))), ?_⟩
  walk_at "go"
  refine ⟨x, dx, [], rfl, w.get hx, ?_⟩
  walk_at "go"
  refine ⟨rfl, rfl, G, R, x, _, dx, v, o, b1, rfl, w, hx, CF.cls .ref, CF.na .ref, CF.no .ref, hv, fun e1 H1 w1 => ?_, fun e1 d H1 n1 w1 => k2 e1 d H1 n1 w1⟩
  walk_at "go"
  refine ⟨rfl, rfl, ((ht.ins hx).same w1.sub).is fun H2 s2 => ?_⟩
  have w2 := w1.same s2
  walk_at "go"
  refine iteBN (fun e2 => ?_) (fun e2 => ?_)
  · walk_at "go"
    exact ⟨t, rfl, fun d hd => k3 e1 e2 d _ (upd_nonne (w2.free hd)).1 (w2.new (o := .xd [("name", t)]) hd)⟩
  have rr := (hrr.ins (fs' := [("name", v), ("optional", .bl o)]) hx).same w2.sub
  have bad : b3 = false → ∀ d, H2 d = none → E (.ref A.InvalidColumn) (some d) (upd H2 d (.xd [("name", v)])) := fun e3 d hd => k4 e1 e2 e3 d _ (upd_nonne (w2.free hd)).1 (w2.new hd)
  walk_at "go"
  rcases rr with ⟨z, rfl, e3⟩ | ⟨⟨ty, ht1, ht2⟩, e3⟩
  · refine g_isi (.ty _) (.base (.str z)) kit_str ?_
    walk_at "go"
    refine g_niT w2 (T.t_RULES _) rfl rfl ?_
    walk_at "go"
    refine iteBN (fun h3 => ?_) (fun h3 => ?_)
    · walk_at "go"
      refine ⟨v, rfl, fun d hd => bad ?_ d hd⟩
      rw [e3]
      unfold ruleOk
      rw [show inV (.str z) (rules.map V.str) = false from h3]
      rfl
    have h3' : inV (.str z) (rules.map V.str) = true := h3
    walk_at "go"
    refine g_eqS rfl ?_
    walk_at "go"
    refine iteD (fun h4 => ?_) (fun h4 => ?_)
    · walk_at "go"
      have h4' : z = "clear" := V.str.inj h4
      cases o with
      | false =>
        walk_at "go"
        refine ⟨v, rfl, fun d hd => bad ?_ d hd⟩
        rw [e3]
        unfold ruleOk
        rw [h3', decide_eq_true h4']
        rfl
      | true =>
        walk_at "go"
        refine g_sf w2 upd_same (CF.cls .ref) CF.nt (show 2 < 1000 by decide) fun H3 w3 => ?_
        rw [putF_ne (by decide +kernel), putF_ne (by decide +kernel), putF_nil, upd_upd] at w3
        walk_at "go"
        refine g_sf w3 upd_same (CF.cls .ref) CF.nr (show 3 < 1000 by decide) fun H4 w4 => ?_
        rw [putF_ne (by decide +kernel), putF_ne (by decide +kernel), putF_ne (by decide +kernel), putF_nil, upd_upd] at w4
        refine k1 e1 e2 ?_ _ w4
        rw [e3]
        unfold ruleOk
        rw [h3']
        simp
    · walk_at "go"
      refine g_sf w2 upd_same (CF.cls .ref) CF.nt (show 2 < 1000 by decide) fun H3 w3 => ?_
      rw [putF_ne (by decide +kernel), putF_ne (by decide +kernel), putF_nil, upd_upd] at w3
      walk_at "go"
      refine g_sf w3 upd_same (CF.cls .ref) CF.nr (show 3 < 1000 by decide) fun H4 w4 => ?_
      rw [putF_ne (by decide +kernel), putF_ne (by decide +kernel), putF_ne (by decide +kernel), putF_nil, upd_upd] at w4
      refine k1 e1 e2 ?_ _ w4
      rw [e3]
      unfold ruleOk
      rw [h3', decide_eq_false (fun q => h4 (congrArg V.str q))]
      rfl
  · refine g_isi (.ty _) ht1 ht2 ?_
    walk_at "go"
    exact ⟨v, rfl, fun d hd => bad e3 d hd⟩
end
end Sv


set_option Elab.async false
set_option linter.all false
set_option maxRecDepth 100000
set_option maxHeartbeats 4000000
namespace Sv
open PySem PySem.Spec PyProof.Rows L2 Sw
local macro_rules | `(tactic| walk_at "go1") => `(tactic| first
  | ((with_reducible refine' g_var ?hv ?_); (case hv => rfl))
  | with_reducible refine g_c ?_
  | with_reducible refine g_op ?_
  | with_reducible refine g_un ?_
  | with_reducible refine g_seq ?_
  | with_reducible refine g_next ?_
  | with_reducible refine g_asg ?_
  | with_reducible refine g_name ?_
  | with_reducible refine g_drop ?_
  | with_reducible refine g_sub ?_
  | with_reducible refine g_ret ?_
  | with_reducible refine g_retN ?_
  | with_reducible refine g_ifS ?_
  | with_reducible refine g_if ?_
  | with_reducible refine g_test ?_
  | with_reducible refine g_bl ?_
  | with_reducible refine g_cons ?_
  | with_reducible refine g_nil ?_
  | with_reducible refine g_and ?_
  | with_reducible refine g_or ?_
  | with_reducible refine g_not ?_
  | with_reducible refine g_callB ?_
  | with_reducible refine g_addI ?_
  | with_reducible refine g_I0 ?_
  | with_reducible refine g_calG ?_
  | with_reducible refine g_mkG ?_
  | with_reducible refine g_tup ?_
  | with_reducible refine g_pairs1 ?_
  | with_reducible refine g_pairs0 ?_
  | with_reducible refine g_dget ?_
  | with_reducible refine g_lvals ?_
  | with_reducible refine g_forT ?_
  | with_reducible refine g_lcT ?_
  | with_reducible refine g_dput ?_
  | with_reducible refine g_lc2L ?_
  | with_reducible refine g_iList ?_
  | with_reducible refine g_lcX ?_
  | with_reducible refine g_js1 ?_
  | with_reducible refine g_js0 ?_
  | with_reducible refine g_fmt ?_
  | with_reducible refine g_tLenSet ?_
  | with_reducible refine g_mkV ?_
  | with_reducible refine g_mkV1 ?_
  | with_reducible refine g_lst ?_
  | with_reducible refine g_forL ?_
  | with_reducible refine g_forR ?_
  | with_reducible refine g_forR2 ?_
  | with_reducible refine g_forS ?_
  | with_reducible refine g_forE ?_
  | with_reducible refine g_lcL ?_
  | with_reducible refine g_lcR ?_
  | with_reducible refine g_lcS ?_
  | with_reducible refine g_lcE ?_
  | with_reducible refine g_orT ?_
  | with_reducible refine g_slc ?_
  | with_reducible refine g_noPart ?_
  | with_reducible refine g_part ?_
  | with_reducible refine g_bm ?_
  | with_reducible refine g_par ?_
  | with_reducible refine g_yes ?_
  | with_reducible refine g_tupG ?_
  | with_reducible refine g_lstG ?_
  | with_reducible refine g_gcons ?_
  | with_reducible refine g_gnil ?_
  | with_reducible refine g_chain ?_
  | with_reducible refine g_truB ?_
  | with_reducible refine g_truN ?_
  | with_reducible refine g_truI ?_
  | with_reducible refine g_m1 ?_
  | with_reducible refine g_fld ?_
  | with_reducible refine g_con ?_
  | with_reducible refine g_tru ?_
  | with_reducible refine g_U ?_
  | with_reducible refine g_xg ?_
  | with_reducible refine g_andT ?_
  | with_reducible refine g_exI ?_
  | with_reducible refine g_dnew ?_
  | with_reducible refine g_intB ?_
  | with_reducible refine g_meth ?_
  | with_reducible refine g_prop ?_
  | with_reducible refine g_exc1 ?_
  | with_reducible refine g_setF ?_
  | with_reducible refine g_star ?_
  | with_reducible refine g_strM ?_
  | with_reducible refine iteT ?_
  | with_reducible refine iteF ?_
  | with_reducible refine iteNT ?_
  | with_reducible refine iteNF ?_)
local macro_rules | `(tactic| walk_at "go") => `(tactic| repeat (walk_at "go1"))
local macro_rules | `(tactic| walk_at "sz") => `(tactic| (first | (rw [sizeLine_eq]; simp only [List.length_cons, List.length_nil, List.length_map, List.length_append, List.length_take]; omega) | (rw [sizeLine_eq]; omega)))
section
variable {P : Program} {wo : World} {A : Ad} {K : PySem.W.Frag} {mg : Str → Option Value} {base : Heap}

def spWords (A : Ad) : Sp := fun vs H Q _ => ∃ G R x c, vs = [.ref x] ∧ Wd G R H ∧ ColAt A G x c ∧ ∀ p H', G p = none → Wd (upd G p (.lst (c.words.map V.str))) R H' → Q (.ref p) H'
theorem sc_RefColumn_words : Sw.SScope (["self", "first", "name", "rest"] : List Str) (["self"] : List Str) (defScope s_RefColumn_words) := ⟨rfl, rfl, rfl, by decide +kernel, rfl, by decide +kernel, by decide +kernel, by decide +kernel⟩
theorem ok_ref_words {f cc cda : Addr} {fd : FuncData} (F : FunS P K "words" "RefColumn.words" s_RefColumn_words f cc A.RefColumn cda fd) (U : SupTop P mg) (T : Txt K mg A) (CF : ColF K A)
    {g : Addr} (M_words : SupM K A.RefColumn A.RefColumn "words" g) (C_words : Cal P wo K mg base 1 g 1 [] (fun vs _ => spWords0 A vs)) : FnOk P wo K mg base (L2.CX P wo) 2 f fd (["self"] : List Str) (fun vs H Q E => (∃ G R x c, vs = [.ref x] ∧ Wd G R H ∧ ColAt A G x c ∧ c.k = .ref ∧ ∀ p H', G p = none → Wd (upd G p (.lst (c.words.map V.str))) R H' → Q (.ref p) H')) := by
  refine F.ok sc_RefColumn_words U rfl rfl ⟨_, rfl, rfl, rfl⟩ (fun vs H Q E h => ?_) (fun Ar outer s H vs Q E hr Z tk h => ?_)
  · obtain ⟨_, _, _, _, rfl, _⟩ := h
    rfl
  obtain ⟨G, R, x, c, rfl, w, ⟨dx, hx⟩, ck, k⟩ := h
  refine ⟨_, (PSst.cons (pst_asg (pet_sup0 Z M_words C_words (hr.mono (by decide)) tk pk_nil) (kg_starL (n := 3) (i := 2) K rfl (pgs_cons (pg_name (i := 1) sc_RefColumn_words.nd rfl (by first | exact Or.inl rfl | exact Or.inr rfl)) (pgs_cons (pg_name (i := 2) sc_RefColumn_words.nd rfl (by first | exact Or.inl rfl | exact Or.inr rfl)) (pgs_star (pg_name (i := 3) sc_RefColumn_words.nd rfl (by first | exact Or.inl rfl | exact Or.inr rfl)) pgs_nil))) (by decide))) (PSst.of (pss_one (ps_ret (pe_lst (pa_cons (pv 1) (pa_cons (pv 2) (pa_cons (ke_fld K (pv 0) rfl) (kp_star K (pv 3) (pa_cons (ke_fld K (pv 0) rfl) pa_nil)))))))))), ?_⟩
  have hx' : G x = some (.ins A.RefColumn dx c.fs) := by rw [hx, ck]; rfl
  have ew : c.words = [kstr c.k, c.name, c.target] ++ optW c.opt ++ [c.rule] := by
    unfold Col.words
    rw [if_pos ck]
  have l1 := c.l_target ck
  have l2 := c.l_rule ck
  walk_at "go"
  refine ⟨x, dx, c.fs, rfl, w.get hx', ?_⟩
  walk_at "go"
  refine ⟨rfl, rfl, G, R, x, c, rfl, w, ⟨dx, hx⟩, fun p H1 n1 w1 => ?_⟩
  have lw : (c.words0.map V.str).length = 2 + (optW c.opt).length := by
    unfold Col.words0
    rw [List.length_map, List.length_append]
    rfl
  have lo : (optW c.opt).length ≤ 1 := by
    unfold optW
    split <;> decide
  refine ⟨p, _, rfl, SqL.of (w1.get upd_same), by rw [lw]; omega, by rw [lw]; omega, fun q hq => ?_⟩
  have nq := w1.free hq
  have w2 := w1.new (o := .lst (((c.words0.map V.str).drop 2).take ((c.words0.map V.str).length + 1 - 3))) hq
  have e1 : (c.words0.map V.str).take 2 = [V.str (kstr c.k), V.str c.name] := rfl
  have e2 : (c.words0.map V.str).drop 2 = (optW c.opt).map V.str := rfl
  have e3 : ((optW c.opt).map V.str).take ((c.words0.map V.str).length + 1 - 3) = (optW c.opt).map V.str := List.take_of_length_le (by rw [List.length_map, lw]; omega)
  have e4 : ((optW c.opt).map V.str).drop ((c.words0.map V.str).length + 1 - 3) = [] := List.drop_of_length_le (by rw [List.length_map, lw]; omega)
  rw [e2, e3] at w2
  rw [e1, e2, e4, e3]
  show gCons _ _ [V.str (kstr c.k), V.str c.name, V.ref q] _ _ _
  generalize upd H1 q _ = H2 at *
  walk_at "go"
  refine g_gf w2 (upd_old (upd_old hx' n1) nq) (CF.cls .ref) CF.nt l1 ?_
  walk_at "go"
  refine ⟨q, _, rfl, .inr (SqL.of (w2.get upd_same)), ?_⟩
  walk_at "go"
  refine g_gf w2 (upd_old (upd_old hx' n1) nq) (CF.cls .ref) CF.nr l2 ?_
  walk_at "go"
  refine g_newL w2 (by rw [sizeLine_eq]; simp only [List.length_cons, List.length_append, List.length_map, List.length_nil]; omega) fun p3 H3 n3 w3 => ?_
  refine k p3 H3 (upd_nonne (upd_nonne n3).1).1 ?_
  have ev : c.words.map V.str = V.str (kstr c.k) :: V.str c.name :: V.str c.target :: ((optW c.opt).map V.str ++ [V.str c.rule]) := by
    rw [ew]
    simp
  rw [ev]
  exact w3.drop (Same.upd2 (Same.trans (Same.newG n1) (Same.newG nq)))

/-! ### column.text -/
theorem isNm_len {s : Str} (h : isNm s = true) : s.length ≤ 8 := by
  unfold isNm at h
  simp only [Bool.and_eq_true, decide_eq_true_eq] at h
  exact h.1.1.2
theorem eqV_str (a b : Str) : eqV (.str a) (.str b) = decide (a = b) := by
  show (a == b) = decide (a = b)
  exact Bool.eq_iff_iff.mpr (by rw [beq_iff_eq, decide_eq_true_eq])
theorem inV_str (s : Str) (l : List Str) : inV (.str s) (l.map V.str) = decide (s ∈ l) := by
  unfold inV
  induction l with
  | nil => rfl
  | cons y r ih =>
    rw [List.map_cons, List.any_cons, ih, eqV_str]
    by_cases h : y = s
    · subst h
      simp
    · have : ¬ s = y := fun z => h z.symm
      simp [h, this]
theorem ruleOk_mem {r : Str} {o : Bool} (h : ruleOk r o = true) : r = "restrict" ∨ r = "clear" ∨ r = "cascade" := by
  unfold ruleOk at h
  have := (Bool.and_eq_true_iff.mp h).1
  rw [inV_str, decide_eq_true_eq] at this
  simpa [rules] using this
theorem Col.text_len {c : Col} (h : c.ok) : (c.words.map (·.length)).sum + c.words.length * 1 ≤ 64 := by
  have hn := isNm_len h.1
  have hk : (kstr c.k).length ≤ 4 := by
    cases c.k <;> decide
  have ho : ((optW c.opt).map (·.length)).sum ≤ 8 := by
    unfold optW
    split <;> decide
  have ho2 : (optW c.opt).length ≤ 1 := by
    unfold optW
    split <;> decide
  unfold Col.words
  split
  · rename_i e
    obtain ⟨h2, h3⟩ := h.2 e
    have ht := isNm_len h2
    have hr : c.rule.length ≤ 8 := by
      rcases ruleOk_mem h3 with e | e | e <;> rw [e] <;> decide
    simp only [List.map_append, List.map_cons, List.map_nil, List.sum_append, List.sum_cons, List.sum_nil, List.length_append, List.length_cons, List.length_nil]
    omega
  · unfold Col.words0
    simp only [List.map_append, List.map_cons, List.map_nil, List.sum_append, List.sum_cons, List.sum_nil, List.length_append, List.length_cons, List.length_nil]
    omega
def spText (A : Ad) : Sp := fun vs H Q _ => ∃ G R x c, vs = [.ref x] ∧ Wd G R H ∧ ColAt A G x c ∧ c.ok ∧ ∀ H', Wd G R H' → Q (.str c.text) H'
theorem sc_Column_text : FnScope (["self"] : List Str) (["self"] : List Str) (defScope s_Column_text) := ⟨rfl, rfl, rfl, by decide +kernel, rfl, by decide +kernel, by decide +kernel⟩
theorem ok_text {f : Addr} {fd : FuncData} (F : Fun K "text" "Column.text" s_Column_text f fd) (T : Txt K mg A) (MW : ∀ k, GMt P wo K mg base 2 (kcls A k) "words" 0 [] (fun vs _ H Q E => ∃ G R x c, vs = [.ref x] ∧ Wd G R H ∧ ColAt A G x c ∧ c.k = k ∧ ∀ p H', G p = none → Wd (upd G p (.lst (c.words.map V.str))) R H' → Q (.ref p) H')) : FnOk P wo K mg base (L2.CX P wo) 3 f fd (["self"] : List Str) (spText A) := by
  refine okT F sc_Column_text (fun vs H Q E h => ?_) (fun cdv Ar outer s H vs Q E hr tk po h => ?_)
  · obtain ⟨_, _, _, _, rfl, _⟩ := h
    rfl
  obtain ⟨G, R, x, c, rfl, w, ⟨dx, hx⟩, ok, k⟩ := h
  refine ⟨_, (pss_one (ps_ret (ke_join K pe_str (kp_meth0 (k := 2) (n := 0) P wo K mg base (pv 0) (hr.mono (by decide)) tk pk_nil)))), ?_⟩
  walk_at "go"
  refine ⟨x, kcls A c.k, dx, c.fs, _, rfl, w.get hx, c.l_words, MW c.k, ?_⟩
  walk_at "go"
  refine ⟨rfl, rfl, G, R, x, c, rfl, w, ⟨dx, hx⟩, rfl, fun p H1 n1 w1 => ?_⟩
  have hz := Col.text_len ok
  refine g_join w1 (SqL.of upd_same) (Nat.le_trans (show _ ≤ 64 from hz) (by decide)) ?_
  exact k _ (w1.drop (Same.newG n1))
end
end Sv


set_option Elab.async false
set_option linter.all false
set_option maxRecDepth 100000
set_option maxHeartbeats 4000000
namespace Sv
open PySem PySem.Spec PyProof.Rows L2 Sw
local macro_rules | `(tactic| walk_at "go1") => `(tactic| first
  | ((with_reducible refine' g_var ?hv ?_); (case hv => rfl))
  | with_reducible refine g_c ?_
  | with_reducible refine g_op ?_
  | with_reducible refine g_un ?_
  | with_reducible refine g_seq ?_
  | with_reducible refine g_next ?_
  | with_reducible refine g_asg ?_
  | with_reducible refine g_name ?_
  | with_reducible refine g_drop ?_
  | with_reducible refine g_sub ?_
  | with_reducible refine g_ret ?_
  | with_reducible refine g_retN ?_
  | with_reducible refine g_ifS ?_
  | with_reducible refine g_if ?_
  | with_reducible refine g_test ?_
  | with_reducible refine g_bl ?_
  | with_reducible refine g_cons ?_
  | with_reducible refine g_nil ?_
  | with_reducible refine g_and ?_
  | with_reducible refine g_or ?_
  | with_reducible refine g_not ?_
  | with_reducible refine g_callB ?_
  | with_reducible refine g_addI ?_
  | with_reducible refine g_I0 ?_
  | with_reducible refine g_calG ?_
  | with_reducible refine g_mkG ?_
  | with_reducible refine g_tup ?_
  | with_reducible refine g_pairs1 ?_
  | with_reducible refine g_pairs0 ?_
  | with_reducible refine g_dget ?_
  | with_reducible refine g_lvals ?_
  | with_reducible refine g_forT ?_
  | with_reducible refine g_lcT ?_
  | with_reducible refine g_dput ?_
  | with_reducible refine g_lc2L ?_
  | with_reducible refine g_iList ?_
  | with_reducible refine g_lcX ?_
  | with_reducible refine g_js1 ?_
  | with_reducible refine g_js0 ?_
  | with_reducible refine g_fmt ?_
  | with_reducible refine g_tLenSet ?_
  | with_reducible refine g_mkV ?_
  | with_reducible refine g_mkV1 ?_
  | with_reducible refine g_lst ?_
  | with_reducible refine g_forL ?_
  | with_reducible refine g_forR ?_
  | with_reducible refine g_forR2 ?_
  | with_reducible refine g_forS ?_
  | with_reducible refine g_forE ?_
  | with_reducible refine g_lcL ?_
  | with_reducible refine g_lcR ?_
  | with_reducible refine g_lcS ?_
  | with_reducible refine g_lcE ?_
  | with_reducible refine g_orT ?_
  | with_reducible refine g_slc ?_
  | with_reducible refine g_noPart ?_
  | with_reducible refine g_part ?_
  | with_reducible refine g_bm ?_
  | with_reducible refine g_par ?_
  | with_reducible refine g_yes ?_
  | with_reducible refine g_tupG ?_
  | with_reducible refine g_lstG ?_
  | with_reducible refine g_gcons ?_
  | with_reducible refine g_gnil ?_
  | with_reducible refine g_chain ?_
  | with_reducible refine g_truB ?_
  | with_reducible refine g_truN ?_
  | with_reducible refine g_truI ?_
  | with_reducible refine g_m1 ?_
  | with_reducible refine g_fld ?_
  | with_reducible refine g_con ?_
  | with_reducible refine g_tru ?_
  | with_reducible refine g_U ?_
  | with_reducible refine g_xg ?_
  | with_reducible refine g_andT ?_
  | with_reducible refine g_exI ?_
  | with_reducible refine g_dnew ?_
  | with_reducible refine g_intB ?_
  | with_reducible refine g_meth ?_
  | with_reducible refine g_prop ?_
  | with_reducible refine g_exc1 ?_
  | with_reducible refine g_setF ?_
  | with_reducible refine g_star ?_
  | with_reducible refine g_strM ?_
  | with_reducible refine iteT ?_
  | with_reducible refine iteF ?_
  | with_reducible refine iteNT ?_
  | with_reducible refine iteNF ?_)
local macro_rules | `(tactic| walk_at "go") => `(tactic| repeat (walk_at "go1"))
local macro_rules | `(tactic| walk_at "sz") => `(tactic| (first | (rw [sizeLine_eq]; simp only [List.length_cons, List.length_nil, List.length_map, List.length_append, List.length_take]; omega) | (rw [sizeLine_eq]; omega)))
section
variable {P : Program} {wo : World} {A : Ad} {K : PySem.W.Frag} {mg : Str → Option Value} {base : Heap}

def wAt (ws : List Str) (i : Nat) : Str := ws.getD i ""
theorem atI_neg1 {xs : List V} {v : V} (h : xs[xs.length - 1]? = some v) : atI xs (-1) = some v := by
  have hj : xs.length - 1 < xs.length := (List.getElem?_eq_some_iff.mp h).1
  unfold atI ixN
  rw [if_neg (by decide), if_pos (by omega)]
  have e : ((-1 : Int) + (xs.length : Int)).toNat = xs.length - 1 := by omega
  rw [e]
  exact h
/-- the column that the words make -/
def mkCol (ws : List Str) : Option Col :=
  if wAt ws 0 = "ref" ∧ (ws.length = 4 ∨ ws.length = 5) then some ⟨.ref, wAt ws 1, decide (ws.length = 5), wAt ws 2, wAt ws (ws.length - 1)⟩
  else if wAt ws 0 = "int" ∧ (ws.length = 2 ∨ ws.length = 3) then some ⟨.int, wAt ws 1, decide (ws.length = 3), "", ""⟩
  else if wAt ws 0 = "text" ∧ (ws.length = 2 ∨ ws.length = 3) then some ⟨.text, wAt ws 1, decide (ws.length = 3), "", ""⟩
  else none
def Col.okB (c : Col) : Bool := isNm c.name && (match c.k with | .ref => isNm c.target && ruleOk c.rule c.opt | _ => true)
theorem Col.okB_iff {c : Col} : c.okB = true ↔ c.ok := by
  obtain ⟨k, n, o, t, r⟩ := c
  unfold Col.okB Col.ok
  cases k <;> simp
def parseW (ws : List Str) : Option Col := match mkCol ws with
  | some c => if c.okB = true then some c else none
  | none => none
theorem parseW_some {ws : List Str} {c : Col} (h : mkCol ws = some c) (ok : c.ok) : parseW ws = some c := by
  unfold parseW
  rw [h]
  exact if_pos (Col.okB_iff.mpr ok)
theorem parseW_bad {ws : List Str} {c : Col} (h : mkCol ws = some c) (bad : ¬ c.ok) : parseW ws = none := by
  unfold parseW
  rw [h]
  exact if_neg fun z => bad (Col.okB_iff.mp z)
theorem parseW_none {ws : List Str} (h : mkCol ws = none) : parseW ws = none := by
  unfold parseW
  rw [h]
theorem inV_two (n : Nat) (a b : Int) : inV (.int (n : Int)) [.int a, .int b] = decide ((n : Int) = a ∨ (n : Int) = b) := by
  unfold inV
  show ((a == (n : Int)) || ((b == (n : Int)) || false)) = _
  rw [Bool.or_false]
  apply Bool.eq_iff_iff.mpr
  rw [Bool.or_eq_true, beq_iff_eq, beq_iff_eq, decide_eq_true_eq]
  constructor
  · rintro (h | h)
    · exact .inl h.symm
    · exact .inr h.symm
  · rintro (h | h)
    · exact .inl h.symm
    · exact .inr h.symm
/-- what the text says of the errors caught here -/
structure ExF (K : PySem.W.Frag) (A : Ad) : Prop where
  en : PySem.W.exmAny K (.ref A.InvalidName) [.ref A.InvalidColumn, .ref A.InvalidName] = some true
  ec : PySem.W.exmAny K (.ref A.InvalidColumn) [.ref A.InvalidColumn, .ref A.InvalidName] = some true
def spParsed (K : PySem.W.Frag) (A : Ad) : Sp := fun vs H Q _ => ∃ G R p ws, vs = [.ref p] ∧ Wd G R H ∧ SqL K G p (ws.map V.str) ∧ ws ≠ [] ∧ (∀ w ∈ ws, w.length ≤ 1000000) ∧
  (∀ c, parseW ws = some c → ∀ x G' H', Same G G' → G x = none → ColAt A G' x c → Wd G' R H' → Q (.ref x) H') ∧ (parseW ws = none → ∀ H', Wd G R H' → Q .non H')
theorem sc_parsed_column : FnScope (["words", "found", "many"] : List Str) (["words"] : List Str) (defScope s_parsed_column) := ⟨rfl, rfl, rfl, by decide +kernel, rfl, by decide +kernel, by decide +kernel⟩
theorem ok_parsed {f : Addr} {fd : FuncData} (F : Fun K "parsed_column" "parsed_column" s_parsed_column f fd) (T : Txt K mg A) (CF : ColF K A) (EF : ExF K A)
    (MR : GMk P wo K mg base 4 "RefColumn" A.RefColumn 2 ["optional", "rule"] (fun vs zs => spRefInit K A (vs ++ zs)))
    (MI : GMk P wo K mg base 4 "IntColumn" A.IntColumn 1 ["optional"] (fun vs zs => spColInit K A (vs ++ zs)))
    (MT : GMk P wo K mg base 4 "TextColumn" A.TextColumn 1 ["optional"] (fun vs zs => spColInit K A (vs ++ zs))) : FnOk P wo K mg base (L2.CX P wo) 6 f fd (["words"] : List Str) (spParsed K A) := by
  refine okT F sc_parsed_column (fun vs H Q E h => ?_) (fun cdv Ar outer s H vs Q E hr tk po h => ?_)
  · obtain ⟨_, _, _, _, rfl, _⟩ := h
    rfl
  obtain ⟨G, R, p, ws, rfl, w, hs, hne, hl, k1, k2⟩ := h
  refine ⟨_, (pss_cons (ps_par (i := 1) (j := 2) rfl sc_parsed_column.nd rfl rfl (by decide) rfl rfl (pa_cons pe_non (pa_cons (pe_callB (ka_len K) (by rfl) T.nb_len (by decide +kernel) (pa_cons (pv 0) pa_nil)) pa_nil)) (by rfl))
      (pss_cons (ps_try_two rfl rfl (names_of rfl T.g_InvalidColumn) (names_of rfl T.g_InvalidName) tk (fun _ _ _ tk po => (pss_one (ps_if (PW.pt (pw_and (pt_cmpR (ka_eq K hr.units) (pe_ix (ka_ix K) (pv 0) pe_int (fun _ _ => rfl)) pe_str (nomark _)) (pw_and1 (pt_cmpR (ka_in K) (pv 2) (pe_tup (pa_cons pe_int (pa_cons pe_int pa_nil))) (by first | exact nomark _ | rfl))))) (pss_one (ps_set (i := 1) sc_parsed_column.nd rfl (by first | exact Or.inl rfl | exact Or.inr rfl) (pe_makeG MR (hr.mono (by decide)) tk (pa_cons (pe_ix (ka_ix K) (pv 0) pe_int (fun _ _ => rfl)) (pa_cons (pe_ix (ka_ix K) (pv 0) pe_int (fun _ _ => rfl)) pa_nil)) (pk_cons (pe_cmpR (ka_eq K hr.units) (pv 2) pe_int (nomark _)) (pk_cons (pe_ix (ka_ix K) (pv 0) (pe_un un_neg pe_int) (fun _ _ => rfl)) pk_nil))))) (pss_one (ps_if (PW.pt (pw_and (pt_cmpR (ka_eq K hr.units) (pe_ix (ka_ix K) (pv 0) pe_int (fun _ _ => rfl)) pe_str (nomark _)) (pw_and1 (pt_cmpR (ka_in K) (pv 2) (pe_tup (pa_cons pe_int (pa_cons pe_int pa_nil))) (by first | exact nomark _ | rfl))))) (pss_one (ps_set (i := 1) sc_parsed_column.nd rfl (by first | exact Or.inl rfl | exact Or.inr rfl) (pe_makeG MI (hr.mono (by decide)) tk (pa_cons (pe_ix (ka_ix K) (pv 0) pe_int (fun _ _ => rfl)) pa_nil) (pk_cons (pe_cmpR (ka_eq K hr.units) (pv 2) pe_int (nomark _)) pk_nil)))) (pss_one (ps_if (PW.pt (pw_and (pt_cmpR (ka_eq K hr.units) (pe_ix (ka_ix K) (pv 0) pe_int (fun _ _ => rfl)) pe_str (nomark _)) (pw_and1 (pt_cmpR (ka_in K) (pv 2) (pe_tup (pa_cons pe_int (pa_cons pe_int pa_nil))) (by first | exact nomark _ | rfl))))) (pss_one (ps_set (i := 1) sc_parsed_column.nd rfl (by first | exact Or.inl rfl | exact Or.inr rfl) (pe_makeG MT (hr.mono (by decide)) tk (pa_cons (pe_ix (ka_ix K) (pv 0) pe_int (fun _ _ => rfl)) pa_nil) (pk_cons (pe_cmpR (ka_eq K hr.units) (pv 2) pe_int (nomark _)) pk_nil)))) pss_nil))))))) (fun _ _ _ _ _ hz hf => (pss_one (ps_set (i := 1) sc_parsed_column.nd rfl (by first | exact Or.inl rfl | exact Or.inr rfl) pe_non))))
      (pss_one (ps_ret (pv 1))))), ?_⟩
  have n0 : 0 < ws.length := List.length_pos_iff.mpr hne
  have at_ : ∀ i : Nat, i < ws.length → atI (ws.map V.str) (i : Int) = some (.str (wAt ws i)) := fun i hi => atI_nat (by
    unfold wAt
    rw [List.getElem?_map, List.getElem?_eq_getElem hi, List.getD_eq_getElem?_getD, List.getElem?_eq_getElem hi]
    rfl)
  have lens : ∀ i, (wAt ws i).length ≤ 1000000 := fun i => by
    unfold wAt
    rw [List.getD_eq_getElem?_getD]
    cases q : ws[i]? with
    | none => show (0 : Nat) ≤ 1000000; decide
    | some z => exact hl z (List.mem_of_getElem? q)
  walk_at "go"
  refine g_lenL w hs ?_
  rw [List.length_map]
  refine ⟨_, _, rfl, ?_⟩
  walk_at "go"
  refine g_ixL w hs (at_ 0 n0) ?_
  walk_at "go"
  refine g_eqS rfl ?_
  walk_at "go"
  have txt : ∀ {a b : Str}, V.str a = V.str b → a = b := fun h => V.str.inj h
  refine iteD (fun h1 => ?ra) (fun h1 => ?rb)
  case' rb => have hnr : ¬ (wAt ws 0 = "ref" ∧ (ws.length = 4 ∨ ws.length = 5)) := fun z => h1 (congrArg V.str z.1)
  case' rb => have w2 := w
  case' ra =>
    walk_at "go"
    refine g_newL w (by walk_at "sz") fun p1 H1 n1 w1 => ?_
    refine g_inT w1 (SqT.of upd_same) rfl rfl ?_
    have w2 := w1.drop (Same.newG n1)
    rw [inV_two]
    walk_at "go"
    replace h1 := txt h1
    refine iteD (fun h2 => ?rc) (fun h2 => ?rd)
  case' rd => have hnr : ¬ (wAt ws 0 = "ref" ∧ (ws.length = 4 ∨ ws.length = 5)) := fun z => h2 (by rcases z.2 with e | e <;> rw [e] <;> decide)
  case' rc =>
    walk_at "go"
    refine g_ixL w2 hs (at_ 1 (by omega)) ?_
    walk_at "go"
    refine g_ixL w2 hs (at_ 2 (by omega)) ?_
    walk_at "go"
    refine g_eqS rfl ?_
    walk_at "go"
    have lst : atI (ws.map V.str) (-1) = some (.str (wAt ws (ws.length - 1))) := by
      have := atI_neg1 (xs := ws.map V.str) (v := .str (wAt ws (ws.length - 1))) (by
        rw [List.length_map, List.getElem?_map, List.getElem?_eq_getElem (by omega)]
        unfold wAt
        rw [List.getD_eq_getElem?_getD, List.getElem?_eq_getElem (by omega)]
        rfl)
      exact this
    refine g_ixL w2 hs lst ?_
    walk_at "go"
    refine ⟨rfl, rfl, fun x dx hx hdx hne => ?_⟩
    have nx := w2.free hx
    have ndx := w2.free hdx
    have w3 := (w2.new (o := .own x) hdx).new (o := .ins A.RefColumn dx []) (show upd _ dx _ x = none by rw [upd_ne (Ne.symm hne)]; exact hx)
    have eo : decide (V.int (ws.length : Int) = V.int 5) = decide (ws.length = 5) := decide_eq_decide.mpr ⟨fun h => by have := V.int.inj h; omega, fun h => by rw [h]; rfl⟩
    rw [eo]
    have mk : mkCol ws = some ⟨.ref, wAt ws 1, decide (ws.length = 5), wAt ws 2, wAt ws (ws.length - 1)⟩ := by
      unfold mkCol
      rw [if_pos ⟨h1, by omega⟩]
    have sm : Same G (upd (upd G dx (.own x)) x (.ins A.RefColumn dx [])) := Same.trans (Same.newG ndx) (Same.newG (by rw [upd_ne (Ne.symm hne)]; exact nx))
    have sm2 : ∀ fs, Same G (upd (upd (upd G dx (.own x)) x (.ins A.RefColumn dx [])) x (.ins A.RefColumn dx fs)) := fun fs => by
      rw [upd_upd]
      exact Same.trans (Same.newG ndx) (Same.newG (by rw [upd_ne (Ne.symm hne)]; exact nx))
    have caught : ∀ {G' d o H3}, parseW ws = none → Same G G' → G' d = none → Wd (upd G' d o) R H3 → Q .non H3 := fun hp sg nd w4 => k2 hp _ (w4.drop (Same.trans sg (Same.newG nd)))
    refine ⟨_, R, x, dx, .str (wAt ws 1), .str (wAt ws 2), decide (ws.length = 5), .str (wAt ws (ws.length - 1)), isNm (wAt ws 1), isNm (wAt ws 2), ruleOk (wAt ws (ws.length - 1)) (decide (ws.length = 5)), rfl, w3, upd_same, .inl ⟨_, rfl, lens 1, rfl⟩, .inl ⟨_, rfl, lens 2, rfl⟩, .inl ⟨_, rfl, rfl⟩, fun e1 e2 e3 H3 w4 => ?_, fun e1 d H3 nd w4 => ?_, fun e1 e2 d H3 nd w4 => ?_, fun e1 e2 e3 d H3 nd w4 => ?_⟩
    · refine ⟨rfl, ?_⟩
      walk_at "go"
      refine k1 _ (parseW_some mk ⟨e1, fun _ => ⟨e2, e3⟩⟩) x _ _ (sm2 _) nx ⟨dx, upd_same⟩ w4
    · refine ⟨true, EF.en, fun _ a ha => ?_, fun z => Bool.noConfusion z⟩
      walk_at "go"
      exact caught (parseW_bad mk fun z => by rw [z.1] at e1; cases e1) sm nd w4
    · refine ⟨true, EF.en, fun _ a ha => ?_, fun z => Bool.noConfusion z⟩
      walk_at "go"
      exact caught (parseW_bad mk fun z => by rw [(z.2 rfl).1] at e2; cases e2) (sm2 _) (by rw [upd_ne]; exact nd; rintro rfl; rw [upd_same] at nd; cases nd) w4
    · refine ⟨true, EF.ec, fun _ a ha => ?_, fun z => Bool.noConfusion z⟩
      walk_at "go"
      exact caught (parseW_bad mk fun z => by rw [(z.2 rfl).2] at e3; cases e3) (sm2 _) (by rw [upd_ne]; exact nd; rintro rfl; rw [upd_same] at nd; cases nd) w4
  all_goals (
    walk_at "go"
    refine g_ixL w2 hs (at_ 0 n0) ?_
    walk_at "go"
    refine g_eqS rfl ?_
    walk_at "go"
    refine iteD (fun h3 => ?_) (fun h3 => ?_)
    rotate_left
    have hni : ¬ (wAt ws 0 = "int" ∧ (ws.length = 2 ∨ ws.length = 3)) := fun z => h3 (congrArg V.str z.1)
    rotate_left
    walk_at "go"
    refine g_newL w2 (by walk_at "sz") fun p1 H1 n1 w1 => ?_
    refine g_inT w1 (SqT.of upd_same) rfl rfl ?_
    replace w2 := w1.drop (Same.newG n1)
    rw [inV_two]
    walk_at "go"
    replace h3 := txt h3
    refine iteD (fun h4 => ?_) (fun h4 => ?_)
    rotate_left
    have hni : ¬ (wAt ws 0 = "int" ∧ (ws.length = 2 ∨ ws.length = 3)) := fun z => h4 (by rcases z.2 with e | e <;> rw [e] <;> decide)
    rotate_left
    rotate_left
    · walk_at "go"
      refine g_ixL w2 hs (at_ 1 (by omega)) ?_
      walk_at "go"
      refine g_eqS rfl ?_
      walk_at "go"
      refine ⟨rfl, rfl, fun x dx hx hdx hne => ?_⟩
      have nx := w2.free hx
      have ndx := w2.free hdx
      have w3 := (w2.new (o := .own x) hdx).new (o := .ins A.IntColumn dx []) (show upd _ dx _ x = none by rw [upd_ne (Ne.symm hne)]; exact hx)
      have eo : decide (V.int (ws.length : Int) = V.int 3) = decide (ws.length = 3) := decide_eq_decide.mpr ⟨fun h => by have := V.int.inj h; omega, fun h => by rw [h]; rfl⟩
      rw [eo]
      have mk : mkCol ws = some ⟨.int, wAt ws 1, decide (ws.length = 3), "", ""⟩ := by
        unfold mkCol
        rw [if_neg hnr]
        rw [if_pos ⟨h3, by omega⟩]
      refine ⟨_, R, x, _, dx, .str (wAt ws 1), decide (ws.length = 3), isNm (wAt ws 1), rfl, w3, upd_same, CF.cls .int, CF.na .int, CF.no .int, .inl ⟨_, rfl, lens 1, rfl⟩, fun e1 H3 w4 => ?_, fun e1 d H3 nd w4 => ?_⟩
      · refine ⟨rfl, ?_⟩
        walk_at "go"
        rw [upd_upd] at w4
        refine k1 _ (parseW_some mk ⟨e1, fun z => nomatch z⟩) x _ _ (Same.trans (Same.newG ndx) (Same.newG ?_)) nx ⟨dx, upd_same⟩ w4
        rw [upd_ne (Ne.symm hne)]
        exact nx
      · refine ⟨true, EF.en, fun _ a ha => ?_, fun z => Bool.noConfusion z⟩
        walk_at "go"
        refine k2 (parseW_bad mk fun z => by rw [z.1] at e1; cases e1) _ (w4.drop ?_)
        refine Same.trans (Same.trans (Same.newG ndx) (Same.newG ?_)) (Same.newG nd)
        rw [upd_ne (Ne.symm hne)]
        exact nx
    all_goals (
      walk_at "go"
      refine g_ixL w2 hs (at_ 0 n0) ?_
      walk_at "go"
      refine g_eqS rfl ?_
      walk_at "go"
      refine iteD (fun h3 => ?_) (fun h3 => ?_)
      rotate_left
      have hnt : ¬ (wAt ws 0 = "text" ∧ (ws.length = 2 ∨ ws.length = 3)) := fun z => h3 (congrArg V.str z.1)
      rotate_left
      walk_at "go"
      refine g_newL w2 (by walk_at "sz") fun p1 H1 n1 w1 => ?_
      refine g_inT w1 (SqT.of upd_same) rfl rfl ?_
      replace w2 := w1.drop (Same.newG n1)
      rw [inV_two]
      walk_at "go"
      replace h3 := txt h3
      refine iteD (fun h4 => ?_) (fun h4 => ?_)
      rotate_left
      have hnt : ¬ (wAt ws 0 = "text" ∧ (ws.length = 2 ∨ ws.length = 3)) := fun z => h4 (by rcases z.2 with e | e <;> rw [e] <;> decide)
      rotate_left
      rotate_left
      · walk_at "go"
        refine g_ixL w2 hs (at_ 1 (by omega)) ?_
        walk_at "go"
        refine g_eqS rfl ?_
        walk_at "go"
        refine ⟨rfl, rfl, fun x dx hx hdx hne => ?_⟩
        have nx := w2.free hx
        have ndx := w2.free hdx
        have w3 := (w2.new (o := .own x) hdx).new (o := .ins A.TextColumn dx []) (show upd _ dx _ x = none by rw [upd_ne (Ne.symm hne)]; exact hx)
        have eo : decide (V.int (ws.length : Int) = V.int 3) = decide (ws.length = 3) := decide_eq_decide.mpr ⟨fun h => by have := V.int.inj h; omega, fun h => by rw [h]; rfl⟩
        rw [eo]
        have mk : mkCol ws = some ⟨.text, wAt ws 1, decide (ws.length = 3), "", ""⟩ := by
          unfold mkCol
          rw [if_neg hnr, if_neg hni]
          rw [if_pos ⟨h3, by omega⟩]
        refine ⟨_, R, x, _, dx, .str (wAt ws 1), decide (ws.length = 3), isNm (wAt ws 1), rfl, w3, upd_same, CF.cls .text, CF.na .text, CF.no .text, .inl ⟨_, rfl, lens 1, rfl⟩, fun e1 H3 w4 => ?_, fun e1 d H3 nd w4 => ?_⟩
        · refine ⟨rfl, ?_⟩
          walk_at "go"
          rw [upd_upd] at w4
          refine k1 _ (parseW_some mk ⟨e1, fun z => nomatch z⟩) x _ _ (Same.trans (Same.newG ndx) (Same.newG ?_)) nx ⟨dx, upd_same⟩ w4
          rw [upd_ne (Ne.symm hne)]
          exact nx
        · refine ⟨true, EF.en, fun _ a ha => ?_, fun z => Bool.noConfusion z⟩
          walk_at "go"
          refine k2 (parseW_bad mk fun z => by rw [z.1] at e1; cases e1) _ (w4.drop ?_)
          refine Same.trans (Same.trans (Same.newG ndx) (Same.newG ?_)) (Same.newG nd)
          rw [upd_ne (Ne.symm hne)]
          exact nx
      all_goals (
        walk_at "go"
        refine k2 (parseW_none ?_) _ w2
        unfold mkCol
        rw [if_neg hnr, if_neg hni, if_neg hnt])))
end
end Sv


set_option Elab.async false
set_option linter.all false
set_option maxRecDepth 100000
set_option maxHeartbeats 4000000
namespace Sv
open PySem PySem.Spec PyProof.Rows L2 Sw
local macro_rules | `(tactic| walk_at "go1") => `(tactic| first
  | ((with_reducible refine' g_var ?hv ?_); (case hv => rfl))
  | with_reducible refine g_c ?_
  | with_reducible refine g_op ?_
  | with_reducible refine g_un ?_
  | with_reducible refine g_seq ?_
  | with_reducible refine g_next ?_
  | with_reducible refine g_asg ?_
  | with_reducible refine g_name ?_
  | with_reducible refine g_drop ?_
  | with_reducible refine g_sub ?_
  | with_reducible refine g_ret ?_
  | with_reducible refine g_retN ?_
  | with_reducible refine g_ifS ?_
  | with_reducible refine g_if ?_
  | with_reducible refine g_test ?_
  | with_reducible refine g_bl ?_
  | with_reducible refine g_cons ?_
  | with_reducible refine g_nil ?_
  | with_reducible refine g_and ?_
  | with_reducible refine g_or ?_
  | with_reducible refine g_not ?_
  | with_reducible refine g_callB ?_
  | with_reducible refine g_addI ?_
  | with_reducible refine g_I0 ?_
  | with_reducible refine g_calG ?_
  | with_reducible refine g_mkG ?_
  | with_reducible refine g_tup ?_
  | with_reducible refine g_pairs1 ?_
  | with_reducible refine g_pairs0 ?_
  | with_reducible refine g_dget ?_
  | with_reducible refine g_lvals ?_
  | with_reducible refine g_forT ?_
  | with_reducible refine g_lcT ?_
  | with_reducible refine g_dput ?_
  | with_reducible refine g_lc2L ?_
  | with_reducible refine g_iList ?_
  | with_reducible refine g_lcX ?_
  | with_reducible refine g_js1 ?_
  | with_reducible refine g_js0 ?_
  | with_reducible refine g_fmt ?_
  | with_reducible refine g_tLenSet ?_
  | with_reducible refine g_mkV ?_
  | with_reducible refine g_mkV1 ?_
  | with_reducible refine g_lst ?_
  | with_reducible refine g_forL ?_
  | with_reducible refine g_forR ?_
  | with_reducible refine g_forR2 ?_
  | with_reducible refine g_forS ?_
  | with_reducible refine g_forE ?_
  | with_reducible refine g_lcL ?_
  | with_reducible refine g_lcR ?_
  | with_reducible refine g_lcS ?_
  | with_reducible refine g_lcE ?_
  | with_reducible refine g_orT ?_
  | with_reducible refine g_slc ?_
  | with_reducible refine g_noPart ?_
  | with_reducible refine g_part ?_
  | with_reducible refine g_bm ?_
  | with_reducible refine g_par ?_
  | with_reducible refine g_yes ?_
  | with_reducible refine g_tupG ?_
  | with_reducible refine g_lstG ?_
  | with_reducible refine g_gcons ?_
  | with_reducible refine g_gnil ?_
  | with_reducible refine g_chain ?_
  | with_reducible refine g_truB ?_
  | with_reducible refine g_truN ?_
  | with_reducible refine g_truI ?_
  | with_reducible refine g_m1 ?_
  | with_reducible refine g_fld ?_
  | with_reducible refine g_con ?_
  | with_reducible refine g_tru ?_
  | with_reducible refine g_U ?_
  | with_reducible refine g_xg ?_
  | with_reducible refine g_andT ?_
  | with_reducible refine g_exI ?_
  | with_reducible refine g_dnew ?_
  | with_reducible refine g_intB ?_
  | with_reducible refine g_meth ?_
  | with_reducible refine g_prop ?_
  | with_reducible refine g_exc1 ?_
  | with_reducible refine g_setF ?_
  | with_reducible refine g_star ?_
  | with_reducible refine g_strM ?_
  | with_reducible refine iteT ?_
  | with_reducible refine iteF ?_
  | with_reducible refine iteNT ?_
  | with_reducible refine iteNF ?_)
local macro_rules | `(tactic| walk_at "go") => `(tactic| repeat (walk_at "go1"))
local macro_rules | `(tactic| walk_at "sz") => `(tactic| (first | (rw [sizeLine_eq]; simp only [List.length_cons, List.length_nil, List.length_map, List.length_append, List.length_take]; omega) | (rw [sizeLine_eq]; omega)))
section
variable {P : Program} {wo : World} {A : Ad} {K : PySem.W.Frag} {mg : Str → Option Value} {base : Heap}

def parseT (s : Str) : Option Col := match parseW (Txt.split s " ") with
  | some c => if c.text = s then some c else none
  | none => none
theorem le_sum {l : List Nat} {n : Nat} (h : n ∈ l) : n ≤ l.sum := by
  induction l with
  | nil => cases h
  | cons a r ih =>
    rw [List.sum_cons]
    rcases List.mem_cons.mp h with rfl | h
    · omega
    · have := ih h
      omega
theorem split_ne (s : Str) : Txt.split s " " ≠ [] := fun h => by
  have := split_pos s " "
  rw [h] at this
  exact absurd this (by decide)
theorem word_len {s w : Str} (h : w ∈ Txt.split s " ") : w.length ≤ s.length := by
  have h1 := split_weight s " " (by decide)
  have h2 : w.length ≤ ((Txt.split s " ").map (·.length)).sum := le_sum (List.mem_map_of_mem h)
  have h3 := split_pos s " "
  omega
theorem parseW_ok {ws : List Str} {c : Col} (h : parseW ws = some c) : c.ok := by
  unfold parseW at h
  split at h
  · split at h
    · rename_i k
      cases h
      exact Col.okB_iff.mp k
    · cases h
  · cases h
/-- Column.parse -/
def spParse (K : PySem.W.Frag) (A : Ad) : Sp := fun vs H Q E => ∃ G R v, vs = [v] ∧ Wd G R H ∧
  ((∃ s : Str, v = .str s ∧ s.length ≤ 1000000 ∧ (∀ c, parseT s = some c → ∀ x G' H', Same G G' → G x = none → ColAt A G' x c → Wd G' R H' → Q (.ref x) H') ∧
    (parseT s = none → ∀ G' d H', Same G G' → G d = none → G' d = some (.xd [("line", .int 0)]) → Wd G' R H' → E (.ref A.InvalidText) (some d) H')) ∨
   (NotStr K G v ∧ ∀ G' d H', Same G G' → G d = none → G' d = some (.xd [("line", .int 0)]) → Wd G' R H' → E (.ref A.InvalidText) (some d) H'))
theorem sc_Column_parse : FnScope (["text", "found"] : List Str) (["text"] : List Str) (defScope s_Column_parse) := ⟨rfl, rfl, rfl, by decide +kernel, rfl, by decide +kernel, by decide +kernel⟩
theorem ok_parse {f : Addr} {fd : FuncData} (F : Fun K "parse" "Column.parse" s_Column_parse f fd) (T : Txt K mg A) (CF : ColF K A) (Gpc : GFn P wo K mg base 6 "parsed_column" 1 [] (fun vs _ => spParsed K A vs))
    (GT : ∀ k, GPr P wo K mg base 3 (kcls A k) "text" (fun vs _ => spText A vs)) (XT : Exc1 P wo K mg base "InvalidText" A.InvalidText "line") : FnOk P wo K mg base (L2.CX P wo) 7 f fd (["text"] : List Str) (spParse K A) := by
  refine okT F sc_Column_parse (fun vs H Q E h => ?_) (fun cdv Ar outer s H vs Q E hr tk po h => ?_)
  · obtain ⟨_, _, _, rfl, _⟩ := h
    rfl
  obtain ⟨G, R, v, rfl, w, h⟩ := h
  refine ⟨_, (pss_cons (ps_set (i := 1) sc_Column_parse.nd rfl (by first | exact Or.inl rfl | exact Or.inr rfl) (pe_ifExp (kt_truth K (pe_callB (ka_isi K) (by rfl) T.nb_isinstance (by decide +kernel) (pa_cons (pv 0) (pa_cons (pe_bltn (v := .ty "str") (u := .type "str") (by rfl) T.nb_str (by decide +kernel) rfl) pa_nil))) (by intro _; rfl)) (pe_callG Gpc (hr.mono (by decide)) tk (pa_cons (ke_split (pv 0) pe_str) pa_nil) pk_nil) pe_non))
      (pss_cons (ps_if (PW.pt (pw_or (pt_cmpR op_isN (pv 1) pe_non (nomark _)) (pw_or1 (pt_cmpR (ka_ne K hr.units) (kp_prop (k := 3) P wo K mg base (pv 1) (hr.mono (by decide))) (pv 0) (nomark _))))) (pss_one (ps_raise rfl tk (pmk_exc1 XT (hr.mono (by decide)) (pa_cons pe_int pa_nil)))) pss_nil)
      (pss_one (ps_ret (pv 1))))), ?_⟩
  walk_at "go"
  rcases h with ⟨z, rfl, hz, k1, k2⟩ | ⟨⟨t, ht1, ht2⟩, k2⟩
  · refine g_isi (.ty _) (.base (.str z)) kit_str ?_
    walk_at "go"
    refine g_split w (by decide) (by rw [sizeLine_eq]; omega) fun p H1 n1 w1 => ?_
    walk_at "go"
    refine ⟨rfl, rfl, _, R, p, Txt.split z " ", rfl, w1, SqL.of upd_same, split_ne z, fun y hy => Nat.le_trans (word_len hy) hz, fun c hc x G' H2 e2 nx hx w2 => ?_, fun hc H2 w2 => ?_⟩
    · walk_at "go"
      have n2 := upd_nonne nx
      have eG : Same G G' := Same.trans (Same.newG n1) e2
      obtain ⟨dx, hx'⟩ := hx
      refine ⟨rfl, _, rfl, ?_⟩
      rw [decide_eq_false (show ¬ (V.ref x = V.non) from fun z => nomatch z)]
      walk_at "go"
      refine ⟨x, kcls A c.k, dx, c.fs, _, rfl, w2.get hx', GT c.k, ?_⟩
      refine ⟨G', R, x, c, rfl, w2, ⟨dx, hx'⟩, parseW_ok hc, fun H3 w3 => ?_⟩
      walk_at "go"
      refine g_neS rfl ?_
      walk_at "go"
      refine iteN (fun h3 => ?_) (fun h3 => ?_)
      · walk_at "go"
        refine ⟨_, rfl, fun d hd => ?_⟩
        have nd := w3.free hd
        refine k2 ?_ (upd G' d (.xd [("line", .int 0)])) d _ (Same.trans eG (Same.newG nd)) (Same.free eG nd) upd_same (w3.new hd)
        unfold parseT
        rw [hc]
        exact if_neg fun q => h3 (congrArg V.str q)
      · walk_at "go"
        refine k1 c ?_ x G' _ eG n2.1 ⟨dx, hx'⟩ w3
        unfold parseT
        rw [hc]
        exact if_pos (V.str.inj h3)
    · walk_at "go"
      refine ⟨rfl, _, rfl, ?_⟩
      rw [decide_eq_true (show V.non = V.non from rfl)]
      walk_at "go"
      refine ⟨_, rfl, fun d hd => ?_⟩
      have nd := w2.free hd
      have nd1 := upd_nonne nd
      refine k2 ?_ _ d _ (Same.trans (Same.newG n1) (Same.newG nd)) nd1.1 upd_same (w2.new hd)
      unfold parseT
      rw [hc]
  · refine g_isi (.ty _) (tyX_same w.sub ht1) ht2 ?_
    walk_at "go"
    refine ⟨rfl, _, rfl, ?_⟩
    rw [decide_eq_true (show V.non = V.non from rfl)]
    walk_at "go"
    refine ⟨_, rfl, fun d hd => ?_⟩
    have nd := w.free hd
    exact k2 _ d _ (Same.newG nd) nd upd_same (w.new hd)
end
end Sv


set_option Elab.async false
set_option linter.all false
set_option maxRecDepth 100000
set_option maxHeartbeats 4000000
namespace Sv
open PySem PySem.Spec PyProof.Rows L2 Sw
local macro_rules | `(tactic| walk_at "go1") => `(tactic| first
  | ((with_reducible refine' g_var ?hv ?_); (case hv => rfl))
  | with_reducible refine g_c ?_
  | with_reducible refine g_op ?_
  | with_reducible refine g_un ?_
  | with_reducible refine g_seq ?_
  | with_reducible refine g_next ?_
  | with_reducible refine g_asg ?_
  | with_reducible refine g_name ?_
  | with_reducible refine g_drop ?_
  | with_reducible refine g_sub ?_
  | with_reducible refine g_ret ?_
  | with_reducible refine g_retN ?_
  | with_reducible refine g_ifS ?_
  | with_reducible refine g_if ?_
  | with_reducible refine g_test ?_
  | with_reducible refine g_bl ?_
  | with_reducible refine g_cons ?_
  | with_reducible refine g_nil ?_
  | with_reducible refine g_and ?_
  | with_reducible refine g_or ?_
  | with_reducible refine g_not ?_
  | with_reducible refine g_callB ?_
  | with_reducible refine g_addI ?_
  | with_reducible refine g_I0 ?_
  | with_reducible refine g_calG ?_
  | with_reducible refine g_mkG ?_
  | with_reducible refine g_tup ?_
  | with_reducible refine g_pairs1 ?_
  | with_reducible refine g_pairs0 ?_
  | with_reducible refine g_dget ?_
  | with_reducible refine g_lvals ?_
  | with_reducible refine g_forT ?_
  | with_reducible refine g_lcT ?_
  | with_reducible refine g_dput ?_
  | with_reducible refine g_lc2L ?_
  | with_reducible refine g_iList ?_
  | with_reducible refine g_lcX ?_
  | with_reducible refine g_js1 ?_
  | with_reducible refine g_js0 ?_
  | with_reducible refine g_fmt ?_
  | with_reducible refine g_tLenSet ?_
  | with_reducible refine g_mkV ?_
  | with_reducible refine g_mkV1 ?_
  | with_reducible refine g_lst ?_
  | with_reducible refine g_forL ?_
  | with_reducible refine g_forR ?_
  | with_reducible refine g_forR2 ?_
  | with_reducible refine g_forS ?_
  | with_reducible refine g_forE ?_
  | with_reducible refine g_lcL ?_
  | with_reducible refine g_lcR ?_
  | with_reducible refine g_lcS ?_
  | with_reducible refine g_lcE ?_
  | with_reducible refine g_orT ?_
  | with_reducible refine g_slc ?_
  | with_reducible refine g_noPart ?_
  | with_reducible refine g_part ?_
  | with_reducible refine g_bm ?_
  | with_reducible refine g_par ?_
  | with_reducible refine g_yes ?_
  | with_reducible refine g_tupG ?_
  | with_reducible refine g_lstG ?_
  | with_reducible refine g_gcons ?_
  | with_reducible refine g_gnil ?_
  | with_reducible refine g_chain ?_
  | with_reducible refine g_truB ?_
  | with_reducible refine g_truN ?_
  | with_reducible refine g_truI ?_
  | with_reducible refine g_m1 ?_
  | with_reducible refine g_fld ?_
  | with_reducible refine g_con ?_
  | with_reducible refine g_tru ?_
  | with_reducible refine g_U ?_
  | with_reducible refine g_xg ?_
  | with_reducible refine g_andT ?_
  | with_reducible refine g_exI ?_
  | with_reducible refine g_dnew ?_
  | with_reducible refine g_intB ?_
  | with_reducible refine g_meth ?_
  | with_reducible refine g_prop ?_
  | with_reducible refine g_exc1 ?_
  | with_reducible refine g_setF ?_
  | with_reducible refine g_star ?_
  | with_reducible refine g_strM ?_
  | with_reducible refine iteT ?_
  | with_reducible refine iteF ?_
  | with_reducible refine iteNT ?_
  | with_reducible refine iteNF ?_)
local macro_rules | `(tactic| walk_at "go") => `(tactic| repeat (walk_at "go1"))
local macro_rules | `(tactic| walk_at "sz") => `(tactic| (first | (rw [sizeLine_eq]; simp only [List.length_cons, List.length_nil, List.length_map, List.length_append, List.length_take]; omega) | (rw [sizeLine_eq]; omega)))
section
variable {P : Program} {wo : World} {A : Ad} {K : PySem.W.Frag} {mg : Str → Option Value} {base : Heap}

/-! ### words -/
/-- a word of small letters, of one to eight signs -/
def wordB (s : Str) : Bool := decide (1 ≤ s.length) && decide (s.length ≤ 8) && lowS s
theorem isNm_of {s : Str} (h : wordB s = true) (hr : s ∉ resv) : isNm s = true := by
  unfold wordB at h
  simp only [Bool.and_eq_true] at h
  unfold isNm
  rw [h.1.1, h.1.2, h.2, inV_str, decide_eq_false hr]
  rfl
def chS (c : Nat) : Str := ⟨#[c]⟩
theorem lowS_app (a b : Str) : lowS (a ++ b) = (lowS a && lowS b) := by
  unfold lowS
  have : (a ++ b).cps.toList = a.cps.toList ++ b.cps.toList := by
    show (a.cps ++ b.cps).toList = _
    simp
  rw [this, List.all_append]
theorem cut7 (s : Str) : (cutS s none (some 7)).cps.toList = s.cps.toList.take 7 := by
  unfold cutS
  have h1 : HT.sIx s.length 0 none = 0 := rfl
  have h2 : HT.sIx s.length s.length (some 7) = min 7 s.length := HT.sIx_nat _ _ 7
  rw [h1, h2]
  simp only [List.drop_zero, Nat.sub_zero]
  have hl : s.length = s.cps.toList.length := by simp [Str.length]
  rw [hl]
  by_cases h : 7 ≤ s.cps.toList.length
  · rw [Nat.min_eq_left h]
  · rw [Nat.min_eq_right (by omega), List.take_length, List.take_of_length_le (by omega)]
theorem str_len (s : Str) : s.length = s.cps.toList.length := by simp [Str.length]
/-- the words tried for a name -/
def cands (w : Str) : List Str := w :: letters.cps.toList.map fun c => cutS w none (some 7) ++ chS c
theorem cands_word {w s : Str} (hw : wordB w = true) (h : s ∈ cands w) : wordB s = true := by
  rcases List.mem_cons.mp h with rfl | h
  · exact hw
  · obtain ⟨c, hc, rfl⟩ := List.mem_map.mp h
    unfold wordB at hw ⊢
    simp only [Bool.and_eq_true, decide_eq_true_eq] at hw
    obtain ⟨⟨h1, h2⟩, h3⟩ := hw
    have hl : (cutS w none (some 7) ++ chS c).length = (cutS w none (some 7)).length + 1 := Str.length_append _ _
    have hl2 : (cutS w none (some 7)).length ≤ 7 := by
      rw [str_len, cut7, List.length_take]
      omega
    rw [lowS_app, hl, decide_eq_true (by omega), decide_eq_true (by omega)]
    have e1 : lowS (cutS w none (some 7)) = true := by
      unfold lowS at h3 ⊢
      rw [cut7]
      rw [List.all_eq_true] at h3 ⊢
      exact fun x hx => h3 x (List.mem_of_mem_take hx)
    have e2 : lowS (chS c) = true := by
      show (decide (c ∈ letters.cps.toList) && true) = true
      rw [decide_eq_true hc]
      rfl
    rw [e1, e2]
    rfl
theorem nodup_map_inj {α β : Type} {f : α → β} {l : List α} (hf : ∀ a b, f a = f b → a = b) (h : l.Nodup) : (l.map f).Nodup := by
  induction l with
  | nil => simp
  | cons a r ih =>
    rw [List.map_cons, List.nodup_cons]
    rw [List.nodup_cons] at h
    refine ⟨fun z => ?_, ih h.2⟩
    obtain ⟨b, hb, e⟩ := List.mem_map.mp z
    rw [← hf _ _ e.symm] at hb
    exact h.1 hb
theorem nodup_sub_len {α : Type} [DecidableEq α] : ∀ {l m : List α}, l.Nodup → (∀ a ∈ l, a ∈ m) → l.length ≤ m.length
  | [], m, _, _ => Nat.zero_le _
  | a :: r, m, h, hs => by
    rw [List.nodup_cons] at h
    have hm : a ∈ m := hs a (List.mem_cons_self ..)
    have := nodup_sub_len (l := r) (m := m.erase a) h.2 fun b hb => (List.mem_erase_of_ne (fun e => h.1 (by rw [← e]; exact hb))).mpr (hs b (List.mem_cons_of_mem _ hb))
    rw [List.length_erase_of_mem hm] at this
    have hp : 0 < m.length := List.length_pos_of_mem hm
    rw [List.length_cons]
    omega
theorem app_chS {x : Str} {a b : Nat} (h : x ++ chS a = x ++ chS b) : a = b := by
  have : (x ++ chS a).cps.toList = (x ++ chS b).cps.toList := by rw [h]
  have e : ∀ c, (x ++ chS c).cps.toList = x.cps.toList ++ [c] := fun c => by
    show (x.cps ++ #[c]).toList = _
    simp
  rw [e, e] at this
  simpa using this
theorem cands_free (w : Str) {found : List Str} (h : found.length ≤ 25) : (cands w).filter (fun s => decide (s ∉ found)) ≠ [] := by
  intro z
  rw [List.filter_eq_nil_iff] at z
  have := nodup_sub_len (l := letters.cps.toList.map fun c => cutS w none (some 7) ++ chS c) (m := found) (nodup_map_inj (fun a b e => app_chS e) (by decide +kernel)) fun s hs => by
    have := z s (List.mem_cons_of_mem _ hs)
    simpa using this
  rw [List.length_map, show letters.cps.toList.length = 26 from by decide +kernel] at this
  omega
theorem join_chS (cs : List Nat) : Txt.join "" (cs.map chS) = ⟨cs.toArray⟩ := by
  rw [TL.join_eq]
  refine TL.ext_tl ?_
  rw [TL.tl_join]
  induction cs with
  | nil => rfl
  | cons a r ih =>
    cases r with
    | nil => rfl
    | cons b r =>
      show TL.tl (chS a) ++ (TL.tl "" ++ TL.joinL (TL.tl "") ((b :: r).map chS |>.map TL.tl)) = _
      rw [ih]
      rfl
theorem word_of {cs : List Nat} (h1 : 1 ≤ cs.length) (h2 : cs.length ≤ 8) (h : ∀ c ∈ cs, c ∈ letters.cps.toList) : wordB ⟨cs.toArray⟩ = true := by
  unfold wordB
  have : (⟨cs.toArray⟩ : Str).length = cs.length := by simp [Str.length]
  rw [this, decide_eq_true h1, decide_eq_true h2]
  show lowS _ = true
  unfold lowS
  rw [List.all_eq_true]
  exact fun c hc => decide_eq_true (h c (by simpa using hc))

theorem wipe_ok : True := trivial
def ownW : List Str := ["a", "bo", "text", "int", "ref", "unique", "optional", "restrict", "clear", "none", "tables", "name"]
theorem ownW_ok : ∀ s ∈ ownW, wordB s = true := by decide +kernel
theorem getStr {l : List Str} {i : Nat} {x : V} (h : (l.map V.str)[i]? = some x) : ∃ s, x = .str s ∧ l[i]? = some s := by
  rw [List.getElem?_map] at h
  cases e : l[i]? with
  | none => rw [e] at h; cases h
  | some u => rw [e] at h; exact ⟨u, (Option.some.inj h).symm, rfl⟩
/-! ### _law_names -/
def spNames : Sp := fun vs H Q _ => ∃ G a c n, vs = [.ref a, .int n] ∧ 0 ≤ n ∧ n ≤ 20 ∧ Wd G (RD a c) H ∧ ∀ p H' (ns : List Str), ns.length = n.toNat → (∀ s ∈ ns, isNm s = true) → ns.Nodup → G p = none → Wd (upd G p (.lst (ns.map V.str))) (RD a c) H' → Q (.ref p) H'
theorem sc__law_names : FnScope (["_law_state", "_law_count", "_law_own", "_law_letters", "_law_found", "_law_turn", "_law_word", "_law_some", "_law_letter", "_law_one", "_law_sign"] : List Str) (["_law_state", "_law_count"] : List Str) (defScope s__law_names) := ⟨rfl, rfl, rfl, by decide +kernel, rfl, by decide +kernel, by decide +kernel⟩
theorem ok_names {f : Addr} {fd : FuncData} (F : Fun K "_law_names" "_law_names" s__law_names f fd) (T : Txt K mg A) (Gd : GFn P wo K mg base 1 "_law_draw" 2 [] (fun vs _ => spDraw vs)) (Gp : GFn P wo K mg base 2 "_law_pick" 2 [] (fun vs _ => spPick K vs)) : FnOk P wo K mg base (L2.CX P wo) 3 f fd (["_law_state", "_law_count"] : List Str) spNames := by
  refine okT F sc__law_names (fun vs H Q E h => ?_) (fun cdv Ar outer s H vs Q E hr tk po h => ?_)
  · obtain ⟨_, _, _, _, rfl, _⟩ := h
    rfl
  obtain ⟨G, a, c, n, rfl, n0, n1, w, k⟩ := h
  refine ⟨_, (pss_cons (ps_set (i := 2) sc__law_names.nd rfl (by first | exact Or.inl rfl | exact Or.inr rfl) (pe_lst (pa_cons pe_str (pa_cons pe_str (pa_cons pe_str (pa_cons pe_str (pa_cons pe_str (pa_cons pe_str (pa_cons pe_str (pa_cons pe_str (pa_cons pe_str (pa_cons pe_str (pa_cons pe_str (pa_cons pe_str pa_nil))))))))))))))
      (pss_cons (ps_asg (pe_tup (pa_cons pe_str (pa_cons (pe_lst (pa_cons pe_str (pa_cons pe_str (pa_cons pe_str (pa_cons pe_str (pa_cons pe_str pa_nil)))))) pa_nil))) (kg_tup (n := 2) K rfl (pgs_cons (pg_name (i := 3) sc__law_names.nd rfl (by first | exact Or.inl rfl | exact Or.inr rfl)) (pgs_cons (pg_name (i := 4) sc__law_names.nd rfl (by first | exact Or.inl rfl | exact Or.inr rfl)) pgs_nil))))
      (pss_cons (ps_for po rfl (pi_range1 (by rfl) T.nb_range (pa_cons (pv 1) pa_nil)) (pg_name (i := 5) sc__law_names.nd rfl (by first | exact Or.inl rfl | exact Or.inr rfl)) (pss_cons (ps_set (i := 6) sc__law_names.nd rfl (by first | exact Or.inl rfl | exact Or.inr rfl) (pe_callG Gp (hr.mono (by decide)) tk (pa_cons (pv 0) (pa_cons (pv 2) pa_nil)) pk_nil))
      (pss_cons (ps_if (pt_cmpR (ka_eq K hr.units) (pe_callG Gd (hr.mono (by decide)) tk (pa_cons (pv 0) (pa_cons pe_int pa_nil)) pk_nil) pe_int (nomark _)) (pss_one (ps_set (i := 6) sc__law_names.nd rfl (by first | exact Or.inl rfl | exact Or.inr rfl) (ke_join K pe_str (pe_lc (own := [("_law_sign", 10)]) (g := (gName 10)) (tt := tYes) rfl sc__law_names.nd (pi_range1 (by rfl) T.nb_range (pa_cons (pe_op (ka_add K) pe_int (pe_callG Gd (hr.mono (by decide)) tk (pa_cons (pv 0) (pa_cons pe_int pa_nil)) pk_nil)) pa_nil)) (blkOk_by (N := (["_law_state", "_law_count", "_law_own", "_law_letters", "_law_found", "_law_turn", "_law_word", "_law_some", "_law_letter", "_law_one", "_law_sign"] : List Str)) (sc := defScope s__law_names) (by decide +kernel)) (fun _ _ _ _ _ => (pg_name (i := 10) sc__law_names.nd rfl (by first | exact Or.inl rfl | exact Or.inr rfl))) (fun _ _ _ _ _ => pts_nil) (fun _ _ _ _ _ => (pe_callG Gp (hr.mono (by decide)) takes0 (pa_cons (pv 0) (pa_cons (pv 3) pa_nil)) pk_nil)))))) pss_nil)
      (pss_cons (ps_set (i := 7) sc__law_names.nd rfl (by first | exact Or.inl rfl | exact Or.inr rfl) (pe_op (ka_add K) (pe_lst (pa_cons (pv 6) pa_nil)) (pe_lc (own := [("_law_letter", 8)]) (g := (gName 8)) (tt := tYes) rfl sc__law_names.nd (pi_str (pv 3)) (blkOk_by (N := (["_law_state", "_law_count", "_law_own", "_law_letters", "_law_found", "_law_turn", "_law_word", "_law_some", "_law_letter", "_law_one", "_law_sign"] : List Str)) (sc := defScope s__law_names) (by decide +kernel)) (fun _ _ _ _ _ => (pg_name (i := 8) sc__law_names.nd rfl (by first | exact Or.inl rfl | exact Or.inr rfl))) (fun _ _ _ _ _ => pts_nil) (fun _ _ _ _ _ => (pe_op (ka_add K) (pe_slice (ka_sl K) (pv 6) po_none (po_some pe_int)) (pv 8))))))
      (pss_one (ps_expr (pe_bm PySem.F.plainAttrs_list PySem.F.slot_list_append PySem.F.type_list_append mt_append (pv 4) (pa_cons (pe_ix (ka_ix K) (pe_lc (own := [("_law_one", 9)]) (g := (gName 9)) (tt := _) rfl sc__law_names.nd (ki_list K (pv 7)) (blkOk_by (N := (["_law_state", "_law_count", "_law_own", "_law_letters", "_law_found", "_law_turn", "_law_word", "_law_some", "_law_letter", "_law_one", "_law_sign"] : List Str)) (sc := defScope s__law_names) (by decide +kernel)) (fun _ _ _ _ _ => (pg_name (i := 9) sc__law_names.nd rfl (by first | exact Or.inl rfl | exact Or.inr rfl))) (fun _ _ _ _ _ => (pts_one (pt_cmpR (ka_ni K) (pv 9) (pv 4) (by first | exact nomark _ | rfl)))) (fun _ _ _ _ _ => (pv 9))) pe_int (fun _ _ => rfl)) pa_nil))))))))
      (pss_one (ps_ret (pe_slice (ka_sl K) (pv 4) (po_some pe_int) po_none)))))), ?_⟩
  walk_at "go"
  refine g_newL w (by walk_at "sz") fun o H1 no w1 => ?_
  walk_at "go"
  refine g_newL w1 (by walk_at "sz") fun fo H2 nf w2 => ?_
  walk_at "go"
  refine g_newL w2 (by walk_at "sz") fun tp H3 nt w3 => ?_
  refine ⟨tp, _, rfl, SqT.of (w3.get upd_same), rfl, ?_⟩
  replace w2 := w3.drop (Same.newG nt)
  walk_at "go"
  refine ⟨n, rfl, by omega, by omega, ?_⟩
  have hfo : fo ≠ o := fun z => by
    subst z
    rw [upd_same] at nf
    cases nf
  have nfG : G fo = none := (upd_nonne nf).1
  refine for_it itf_range (fun i σ' H' => ∃ t5 t6 t7, ∃ ns : List Str, σ' = [some (.ref a), some (.int n), some (.ref o), some (.str letters), some (.ref fo), t5, t6, t7, none, none, none] ∧ Wd (upd (upd G o (.lst (ownW.map V.str))) fo (.lst ((resv ++ ns).map V.str))) (RD a c) H' ∧ ns.length = i ∧ (∀ s ∈ ns, isNm s = true) ∧ (resv ++ ns).Nodup)
    ⟨none, none, none, [], rfl, w2, rfl, by simp, by decide +kernel⟩ (fun _ _ _ _ _ => True.intro) ?_ ?_
  · rintro i x σ' H' H'' hi ⟨t5, t6, t7, ns, rfl, w, hl, hn, hd⟩ ⟨rfl, rfl⟩
    have nfo : upd G o (.lst (ownW.map V.str)) fo = none := by
      rw [upd_ne hfo]
      exact nfG
    have ho : upd (upd G o (.lst (ownW.map V.str))) fo (.lst ((resv ++ ns).map V.str)) o = some (.lst (ownW.map V.str)) := upd_old upd_same nfo
    have hf : upd (upd G o (.lst (ownW.map V.str))) fo (.lst ((resv ++ ns).map V.str)) fo = some (.lst ((resv ++ ns).map V.str)) := upd_same
    have fin : ∀ s, s ∉ resv ++ ns → wordB s = true → ∀ Gx H3, Same (upd (upd G o (.lst (ownW.map V.str))) fo (.lst ((resv ++ ns).map V.str))) Gx → Wd (upd Gx fo (.lst ((resv ++ ns).map V.str ++ [.str s]))) (RD a c) H3 →
        ∃ ns' : List Str, Wd (upd (upd G o (.lst (ownW.map V.str))) fo (.lst ((resv ++ ns').map V.str))) (RD a c) H3 ∧ ns'.length = i + 1 ∧ (∀ s ∈ ns', isNm s = true) ∧ (resv ++ ns').Nodup := fun s hs hw Gx H3 e w3 => by
      refine ⟨ns ++ [s], ?_, by rw [List.length_append, hl]; rfl, fun z hz => ?_, ?_⟩
      · have : (resv ++ (ns ++ [s])).map V.str = (resv ++ ns).map V.str ++ [.str s] := by simp
        rw [this]
        have e2 := Same.upd2 (p := fo) (o := .lst ((resv ++ ns).map V.str ++ [.str s])) e
        rw [upd_upd] at e2
        exact w3.drop e2
      · rcases List.mem_append.mp hz with h | h
        · exact hn z h
        · rw [List.mem_singleton] at h
          subst h
          exact isNm_of hw fun q => hs (List.mem_append_left _ q)
      · rw [← List.append_assoc, List.nodup_append]
        refine ⟨hd, by simp, fun x hx y hy => ?_⟩
        rw [List.mem_singleton] at hy
        subst hy
        rintro rfl
        exact hs hx
    have hlen : (resv ++ ns).length ≤ 25 := by
      rw [List.length_append]
      show 5 + ns.length ≤ 25
      omega
    generalize resv ++ ns = found at *
    generalize upd (upd G o (.lst (ownW.map V.str))) fo (.lst (found.map V.str)) = G' at *
    walk_at "go"
    refine ⟨rfl, rfl, _, a, c, w, .inl ⟨o, ownW.map V.str, rfl, .inl (SqL.of ho), by decide, by decide, fun x H1 hx w1 => ?_⟩⟩
    obtain ⟨w0, hw0, rfl⟩ := List.mem_map.mp hx
    have hwd := ownW_ok w0 hw0
    walk_at "go"
    refine ⟨rfl, rfl, _, a, c, 3, rfl, w1, by decide, by decide, fun r H2 r0 r1 w2 => ?_⟩
    walk_at "go"
    refine g_eqS rfl ?_
    walk_at "go"
    refine iteD (fun h1 => ?_) (fun h1 => ?_)
    · walk_at "go"
      refine ⟨rfl, rfl, _, a, c, 8, rfl, w2, by decide, by decide, fun q H4 q0 q1 w4 => ?_⟩
      walk_at "go"
      refine ⟨1 + q, rfl, by omega, by omega, ?_⟩
      refine lc_it itf_range w4 (fun _ _ => True.intro) (by rw [sizeLine_eq]; omega) (fun i _ acc => ∃ cs : List Nat, acc = (cs.map chS).map V.str ∧ cs.length = i ∧ ∀ c ∈ cs, c ∈ letters.cps.toList) ⟨[], rfl, rfl, by simp⟩ ?_ ?_
      · rintro j x Gi acc D H5 H5' hj e nD ⟨cs, rfl, hcl, hcs⟩ hl2 w5 ⟨rfl, rfl⟩
        walk_at "go"
        refine ⟨rfl, ?_⟩
        walk_at "go"
        refine ⟨rfl, rfl, _, a, c, w5, .inr ⟨letters, rfl, by decide, by decide, fun ch H6 hch w6 => ?_⟩⟩
        exact lc_keep (Pv := fun i _ acc => ∃ cs : List Nat, acc = (cs.map chS).map V.str ∧ cs.length = i ∧ ∀ c ∈ cs, c ∈ letters.cps.toList) w6 e nD hl2 hj (by rw [sizeLine_eq]; omega) ⟨cs ++ [ch], by simp [chS], by simp [hcl], fun z hz => by
          rcases List.mem_append.mp hz with h | h
          · exact hcs z h
          · rw [List.mem_singleton] at h
            rw [h]
            exact hch⟩
      rintro D Gn acc H5 e nD ⟨cs, rfl, hcl, hcs⟩ hl2 w5
      have hb : (((cs.map chS).map (·.length)).sum + (cs.map chS).length * (Str.length "")) ≤ 16777216 := by
        have : (cs.map chS).map (·.length) = cs.map fun _ => 1 := by
          rw [List.map_map]
          rfl
        rw [this, List.length_map]
        have e0 : Str.length "" = 0 := rfl
        rw [e0, Nat.mul_zero, Nat.add_zero]
        have : ∀ l : List Nat, (l.map fun _ => 1).sum = l.length := fun l => by
          induction l with
          | nil => rfl
          | cons a r ih => rw [List.map_cons, List.sum_cons, ih, List.length_cons]; omega
        rw [this]
        omega
      refine g_join w5 (SqL.of upd_same) hb ?_
      rw [join_chS]
      have hwd := word_of (cs := cs) (by omega) (by omega) hcs
      generalize (⟨cs.toArray⟩ : Str) = w0 at *
      have w2 := w5.drop (Same.trans e (Same.newG nD))
      walk_at "go"
      refine g_newL w2 (by walk_at "sz") fun p1 H6 n1 w6 => ?_
      walk_at "go"
      refine ⟨letters, rfl, ?_⟩
      refine lc_it itf_str w6 (fun _ _ => True.intro) (by rw [sizeLine_eq]; decide) (fun i _ acc => acc = ((letters.cps.toList.take i).map fun c => cutS w0 none (some 7) ++ chS c).map V.str) rfl ?_ ?_
      · rintro j x Gi acc D H7 H7' hj e nD ha hl2 w7 ⟨rfl, ch, hc, rfl⟩
        have hlw : w0.length ≤ 8 := by
          unfold wordB at hwd
          simp only [Bool.and_eq_true, decide_eq_true_eq] at hwd
          exact hwd.1.2
        walk_at "go"
        refine ⟨rfl, ?_⟩
        walk_at "go"
        refine g_slS (by rw [sizeLine_eq]; exact Nat.le_trans hlw (by decide)) ?_
        walk_at "go"
        refine g_addS (by have := cutS_length w0 none (some 7); have h1 : (⟨#[ch]⟩ : Str).length = 1 := rfl; rw [sizeLine_eq, h1]; omega) ?_
        refine lc_keep (Pv := fun i _ acc => acc = ((letters.cps.toList.take i).map fun c => cutS w0 none (some 7) ++ chS c).map V.str) w7 e nD hl2 hj (by rw [sizeLine_eq]; decide) ?_
        have hc' : letters.cps.toList[j]? = some ch := by simpa using hc
        rw [ha, List.take_add_one, hc']
        simp [chS]
      rintro D7 G7 acc7 H7 e7 nD7 rfl hl7 w7
      rw [show letters.cps.size = letters.cps.toList.length by simp, List.take_length] at w7
      refine g_addL w7 (upd_old (e7 _ _ upd_same) nD7) upd_same (by rw [sizeLine_eq, List.length_map, List.length_map]; show 1 + letters.cps.toList.length ≤ _; rw [show letters.cps.toList.length = 26 from by decide +kernel]; decide) fun p2 H8 n8 w8 => ?_
      have ecd : [V.str w0] ++ ((letters.cps.toList.map fun c => cutS w0 none (some 7) ++ chS c).map V.str) = (cands w0).map V.str := rfl
      rw [ecd] at w8
      have hlc : (cands w0).length = 27 := by
        unfold cands
        rw [List.length_cons, List.length_map]
        rfl
      have s8 : Same G' (upd (upd G7 D7 (.lst ((letters.cps.toList.map fun c => cutS w0 none (some 7) ++ chS c).map V.str))) p2 (.lst ((cands w0).map V.str))) := Same.trans (Same.trans (Same.trans (Same.newG n1) e7) (Same.newG nD7)) (Same.newG n8)
      have hp2 : (upd (upd G7 D7 (.lst ((letters.cps.toList.map fun c => cutS w0 none (some 7) ++ chS c).map V.str))) p2 (.lst ((cands w0).map V.str))) p2 = some (.lst ((cands w0).map V.str)) := upd_same
      generalize (upd (upd G7 D7 (.lst ((letters.cps.toList.map fun c => cutS w0 none (some 7) ++ chS c).map V.str))) p2 (.lst ((cands w0).map V.str))) = G8 at *
      walk_at "go"
      refine ⟨.inl ⟨rfl, _, SqL.of (w8.get (s8 _ _ hf))⟩, ?_⟩
      walk_at "go"
      refine ⟨p2, rfl, ⟨_, SqL.of (w8.get hp2)⟩, ?_⟩
      refine lc_it (itf_list (xs := (cands w0).map V.str)) w8 (fun H' e => SqL.of (e _ _ hp2)) (by rw [sizeLine_eq, List.length_map, hlc]; decide) (fun i _ acc => acc = (((cands w0).take i).filter fun s => decide (s ∉ found)).map V.str) rfl ?_ ?_
      · rintro j x Gi acc D H9 H9' hj e nD ha hl2 w9 ⟨rfl, hx⟩
        obtain ⟨s, rfl, hs⟩ := getStr hx
        walk_at "go"
        refine ⟨rfl, ?_⟩
        walk_at "go"
        refine g_niL w9 (SqL.of (upd_old (e _ _ (s8 _ _ hf)) nD)) rfl (by rw [List.all_map]; exact List.all_eq_true.mpr fun _ _ => rfl) ?_
        rw [inV_str]
        have ht : ((cands w0).take (j + 1)).filter (fun s => decide (s ∉ found)) = ((cands w0).take j).filter (fun s => decide (s ∉ found)) ++ (if s ∉ found then [s] else []) := by
          rw [List.take_add_one, hs, List.filter_append]
          congr 1
          by_cases q : s ∈ found <;> simp [q]
        walk_at "go"
        refine iteN (fun h3 => ?_) (fun h3 => ?_)
        · walk_at "go"
          refine lc_keep (Pv := fun i _ acc => acc = (((cands w0).take i).filter fun s => decide (s ∉ found)).map V.str) w9 e nD hl2 hj (by rw [sizeLine_eq, List.length_map, hlc]; decide) ?_
          rw [ht, if_pos h3, ha, List.map_append]
          rfl
        · refine lc_drop (Pv := fun i _ acc => acc = (((cands w0).take i).filter fun s => decide (s ∉ found)).map V.str) w9 e nD hl2 ?_
          rw [ht, if_neg (fun q => q h3), ha, List.append_nil]
      rintro D9 G9 acc9 H9 e9 nD9 rfl hl9 w9
      rw [List.length_map, List.take_length] at w9
      cases hfil : (cands w0).filter (fun s => decide (s ∉ found)) with
      | nil => exact absurd hfil (cands_free w0 hlen)
      | cons s r =>
        have hsm : s ∈ (cands w0).filter (fun s => decide (s ∉ found)) := by rw [hfil]; exact List.mem_cons_self
        rw [List.mem_filter, decide_eq_true_eq] at hsm
        rw [hfil] at w9
        walk_at "go"
        refine g_ixL w9 (SqL.of upd_same) (v := .str s) (atI_nat (j := 0) rfl) ?_
        walk_at "go"
        refine g_app w9 (upd_old (e9 _ _ (s8 _ _ hf)) nD9) (by rw [sizeLine_eq, List.length_map]; omega) fun H10 w10 => ?_
        obtain ⟨ns', q1, q2, q3, q4⟩ := fin s hsm.2 (cands_word hwd hsm.1) _ H10 (Same.trans (Same.trans s8 e9) (Same.newG nD9)) w10
        walk_at "go"
        exact ⟨_, _, _, ns', rfl, q1, q2, q3, q4⟩
    · walk_at "go"
      refine g_newL w2 (by walk_at "sz") fun p1 H6 n1 w6 => ?_
      walk_at "go"
      refine ⟨letters, rfl, ?_⟩
      refine lc_it itf_str w6 (fun _ _ => True.intro) (by rw [sizeLine_eq]; decide) (fun i _ acc => acc = ((letters.cps.toList.take i).map fun c => cutS w0 none (some 7) ++ chS c).map V.str) rfl ?_ ?_
      · rintro j x Gi acc D H7 H7' hj e nD ha hl2 w7 ⟨rfl, ch, hc, rfl⟩
        have hlw : w0.length ≤ 8 := by
          unfold wordB at hwd
          simp only [Bool.and_eq_true, decide_eq_true_eq] at hwd
          exact hwd.1.2
        walk_at "go"
        refine ⟨rfl, ?_⟩
        walk_at "go"
        refine g_slS (by rw [sizeLine_eq]; exact Nat.le_trans hlw (by decide)) ?_
        walk_at "go"
        refine g_addS (by have := cutS_length w0 none (some 7); have h1 : (⟨#[ch]⟩ : Str).length = 1 := rfl; rw [sizeLine_eq, h1]; omega) ?_
        refine lc_keep (Pv := fun i _ acc => acc = ((letters.cps.toList.take i).map fun c => cutS w0 none (some 7) ++ chS c).map V.str) w7 e nD hl2 hj (by rw [sizeLine_eq]; decide) ?_
        have hc' : letters.cps.toList[j]? = some ch := by simpa using hc
        rw [ha, List.take_add_one, hc']
        simp [chS]
      rintro D7 G7 acc7 H7 e7 nD7 rfl hl7 w7
      rw [show letters.cps.size = letters.cps.toList.length by simp, List.take_length] at w7
      refine g_addL w7 (upd_old (e7 _ _ upd_same) nD7) upd_same (by rw [sizeLine_eq, List.length_map, List.length_map]; show 1 + letters.cps.toList.length ≤ _; rw [show letters.cps.toList.length = 26 from by decide +kernel]; decide) fun p2 H8 n8 w8 => ?_
      have ecd : [V.str w0] ++ ((letters.cps.toList.map fun c => cutS w0 none (some 7) ++ chS c).map V.str) = (cands w0).map V.str := rfl
      rw [ecd] at w8
      have hlc : (cands w0).length = 27 := by
        unfold cands
        rw [List.length_cons, List.length_map]
        rfl
      have s8 : Same G' (upd (upd G7 D7 (.lst ((letters.cps.toList.map fun c => cutS w0 none (some 7) ++ chS c).map V.str))) p2 (.lst ((cands w0).map V.str))) := Same.trans (Same.trans (Same.trans (Same.newG n1) e7) (Same.newG nD7)) (Same.newG n8)
      have hp2 : (upd (upd G7 D7 (.lst ((letters.cps.toList.map fun c => cutS w0 none (some 7) ++ chS c).map V.str))) p2 (.lst ((cands w0).map V.str))) p2 = some (.lst ((cands w0).map V.str)) := upd_same
      generalize (upd (upd G7 D7 (.lst ((letters.cps.toList.map fun c => cutS w0 none (some 7) ++ chS c).map V.str))) p2 (.lst ((cands w0).map V.str))) = G8 at *
      walk_at "go"
      refine ⟨.inl ⟨rfl, _, SqL.of (w8.get (s8 _ _ hf))⟩, ?_⟩
      walk_at "go"
      refine ⟨p2, rfl, ⟨_, SqL.of (w8.get hp2)⟩, ?_⟩
      refine lc_it (itf_list (xs := (cands w0).map V.str)) w8 (fun H' e => SqL.of (e _ _ hp2)) (by rw [sizeLine_eq, List.length_map, hlc]; decide) (fun i _ acc => acc = (((cands w0).take i).filter fun s => decide (s ∉ found)).map V.str) rfl ?_ ?_
      · rintro j x Gi acc D H9 H9' hj e nD ha hl2 w9 ⟨rfl, hx⟩
        obtain ⟨s, rfl, hs⟩ := getStr hx
        walk_at "go"
        refine ⟨rfl, ?_⟩
        walk_at "go"
        refine g_niL w9 (SqL.of (upd_old (e _ _ (s8 _ _ hf)) nD)) rfl (by rw [List.all_map]; exact List.all_eq_true.mpr fun _ _ => rfl) ?_
        rw [inV_str]
        have ht : ((cands w0).take (j + 1)).filter (fun s => decide (s ∉ found)) = ((cands w0).take j).filter (fun s => decide (s ∉ found)) ++ (if s ∉ found then [s] else []) := by
          rw [List.take_add_one, hs, List.filter_append]
          congr 1
          by_cases q : s ∈ found <;> simp [q]
        walk_at "go"
        refine iteN (fun h3 => ?_) (fun h3 => ?_)
        · walk_at "go"
          refine lc_keep (Pv := fun i _ acc => acc = (((cands w0).take i).filter fun s => decide (s ∉ found)).map V.str) w9 e nD hl2 hj (by rw [sizeLine_eq, List.length_map, hlc]; decide) ?_
          rw [ht, if_pos h3, ha, List.map_append]
          rfl
        · refine lc_drop (Pv := fun i _ acc => acc = (((cands w0).take i).filter fun s => decide (s ∉ found)).map V.str) w9 e nD hl2 ?_
          rw [ht, if_neg (fun q => q h3), ha, List.append_nil]
      rintro D9 G9 acc9 H9 e9 nD9 rfl hl9 w9
      rw [List.length_map, List.take_length] at w9
      cases hfil : (cands w0).filter (fun s => decide (s ∉ found)) with
      | nil => exact absurd hfil (cands_free w0 hlen)
      | cons s r =>
        have hsm : s ∈ (cands w0).filter (fun s => decide (s ∉ found)) := by rw [hfil]; exact List.mem_cons_self
        rw [List.mem_filter, decide_eq_true_eq] at hsm
        rw [hfil] at w9
        walk_at "go"
        refine g_ixL w9 (SqL.of upd_same) (v := .str s) (atI_nat (j := 0) rfl) ?_
        walk_at "go"
        refine g_app w9 (upd_old (e9 _ _ (s8 _ _ hf)) nD9) (by rw [sizeLine_eq, List.length_map]; omega) fun H10 w10 => ?_
        obtain ⟨ns', q1, q2, q3, q4⟩ := fin s hsm.2 (cands_word hwd hsm.1) _ H10 (Same.trans (Same.trans s8 e9) (Same.newG nD9)) w10
        walk_at "go"
        exact ⟨_, _, _, ns', rfl, q1, q2, q3, q4⟩
  · rintro σ' H' ⟨t5, t6, t7, ns, rfl, w, hl, hn, hd⟩
    walk_at "go"
    have hf : upd (upd G o (.lst (ownW.map V.str))) fo (.lst ((resv ++ ns).map V.str)) fo = some (.lst ((resv ++ ns).map V.str)) := upd_same
    refine g_slL w (SqL.of hf) fun p H1 np w1 => ?_
    have ec : cutV ((resv ++ ns).map V.str) (some 5) none = ns.map V.str := by
      unfold cutV
      have h1 : HT.sIx ((resv ++ ns).map V.str).length 0 (some 5) = min 5 ((resv ++ ns).map V.str).length := HT.sIx_nat _ _ 5
      have h2 : HT.sIx ((resv ++ ns).map V.str).length ((resv ++ ns).map V.str).length none = ((resv ++ ns).map V.str).length := rfl
      have hl5 : ((resv ++ ns).map V.str).length = 5 + ns.length := by
        rw [List.length_map, List.length_append]
        rfl
      rw [h1, h2, hl5, Nat.min_eq_left (by omega), List.map_append]
      show (ns.map V.str).take _ = _
      rw [List.take_of_length_le (by rw [List.length_map]; omega)]
    rw [ec] at w1
    have np1 := upd_nonne np
    refine k p H1 ns hl hn (List.nodup_append.mp hd).2.1 (upd_nonne np1.1).1 (w1.drop (Same.upd2 (Same.trans (Same.newG no) (Same.newG nf))))
end
end Sv


set_option Elab.async false
set_option linter.all false
set_option maxRecDepth 100000
set_option maxHeartbeats 4000000
namespace Sv
open PySem PySem.Spec PyProof.Rows L2 Sw
local macro_rules | `(tactic| walk_at "go1") => `(tactic| first
  | ((with_reducible refine' g_var ?hv ?_); (case hv => rfl))
  | with_reducible refine g_c ?_
  | with_reducible refine g_op ?_
  | with_reducible refine g_un ?_
  | with_reducible refine g_seq ?_
  | with_reducible refine g_next ?_
  | with_reducible refine g_asg ?_
  | with_reducible refine g_name ?_
  | with_reducible refine g_drop ?_
  | with_reducible refine g_sub ?_
  | with_reducible refine g_ret ?_
  | with_reducible refine g_retN ?_
  | with_reducible refine g_ifS ?_
  | with_reducible refine g_if ?_
  | with_reducible refine g_test ?_
  | with_reducible refine g_bl ?_
  | with_reducible refine g_cons ?_
  | with_reducible refine g_nil ?_
  | with_reducible refine g_and ?_
  | with_reducible refine g_or ?_
  | with_reducible refine g_not ?_
  | with_reducible refine g_callB ?_
  | with_reducible refine g_addI ?_
  | with_reducible refine g_I0 ?_
  | with_reducible refine g_calG ?_
  | with_reducible refine g_mkG ?_
  | with_reducible refine g_tup ?_
  | with_reducible refine g_pairs1 ?_
  | with_reducible refine g_pairs0 ?_
  | with_reducible refine g_dget ?_
  | with_reducible refine g_lvals ?_
  | with_reducible refine g_forT ?_
  | with_reducible refine g_lcT ?_
  | with_reducible refine g_dput ?_
  | with_reducible refine g_lc2L ?_
  | with_reducible refine g_iList ?_
  | with_reducible refine g_lcX ?_
  | with_reducible refine g_js1 ?_
  | with_reducible refine g_js0 ?_
  | with_reducible refine g_fmt ?_
  | with_reducible refine g_tLenSet ?_
  | with_reducible refine g_mkV ?_
  | with_reducible refine g_mkV1 ?_
  | with_reducible refine g_lst ?_
  | with_reducible refine g_forL ?_
  | with_reducible refine g_forR ?_
  | with_reducible refine g_forR2 ?_
  | with_reducible refine g_forS ?_
  | with_reducible refine g_forE ?_
  | with_reducible refine g_lcL ?_
  | with_reducible refine g_lcR ?_
  | with_reducible refine g_lcS ?_
  | with_reducible refine g_lcE ?_
  | with_reducible refine g_orT ?_
  | with_reducible refine g_slc ?_
  | with_reducible refine g_noPart ?_
  | with_reducible refine g_part ?_
  | with_reducible refine g_bm ?_
  | with_reducible refine g_par ?_
  | with_reducible refine g_yes ?_
  | with_reducible refine g_tupG ?_
  | with_reducible refine g_lstG ?_
  | with_reducible refine g_gcons ?_
  | with_reducible refine g_gnil ?_
  | with_reducible refine g_chain ?_
  | with_reducible refine g_truB ?_
  | with_reducible refine g_truN ?_
  | with_reducible refine g_truI ?_
  | with_reducible refine g_m1 ?_
  | with_reducible refine g_fld ?_
  | with_reducible refine g_con ?_
  | with_reducible refine g_tru ?_
  | with_reducible refine g_U ?_
  | with_reducible refine g_xg ?_
  | with_reducible refine g_andT ?_
  | with_reducible refine g_exI ?_
  | with_reducible refine g_dnew ?_
  | with_reducible refine g_intB ?_
  | with_reducible refine g_meth ?_
  | with_reducible refine g_prop ?_
  | with_reducible refine g_exc1 ?_
  | with_reducible refine g_setF ?_
  | with_reducible refine g_star ?_
  | with_reducible refine g_strM ?_
  | with_reducible refine iteT ?_
  | with_reducible refine iteF ?_
  | with_reducible refine iteNT ?_
  | with_reducible refine iteNF ?_)
local macro_rules | `(tactic| walk_at "go") => `(tactic| repeat (walk_at "go1"))
local macro_rules | `(tactic| walk_at "sz") => `(tactic| (first | (rw [sizeLine_eq]; simp only [List.length_cons, List.length_nil, List.length_map, List.length_append, List.length_take]; omega) | (rw [sizeLine_eq]; omega)))
section
variable {P : Program} {wo : World} {A : Ad} {K : PySem.W.Frag} {mg : Str → Option Value} {base : Heap}

theorem eqVs_nil (l : List Str) : eqVs (l.map V.str) [] = decide (l = []) := by
  cases l <;> rfl
theorem iteAnd {b1 b2 : Bool} {A B : Prop} (h1 : b1 = true → b2 = true → A) (h2 : ¬ (b1 = true ∧ b2 = true) → B) : if (b1 && b2) = true then A else B := by
  cases b1 <;> cases b2
  · exact iteF (h2 (fun z => by cases z.1))
  · exact iteF (h2 (fun z => by cases z.1))
  · exact iteF (h2 (fun z => by cases z.2))
  · exact iteT (h1 rfl rfl)
theorem filter_one {α : Type} {p : α → Prop} [DecidablePred p] (c : α) : [c].filter (fun c => decide (p c)) = if p c then [c] else [] := by
  by_cases h : p c
  · rw [if_pos h, List.filter_cons_of_pos (by exact decide_eq_true h)]
    rfl
  · rw [if_neg h, List.filter_cons_of_neg (by rw [decide_eq_false h]; exact Bool.false_ne_true)]
    rfl
theorem bad_nil (l L : List Nat) : decide (((l.filter fun c => decide (c ∉ L)).map chS) = []) = l.all fun c => decide (c ∈ L) := by
  apply Bool.eq_iff_iff.mpr
  rw [decide_eq_true_eq, List.map_eq_nil_iff, List.filter_eq_nil_iff, List.all_eq_true]
  constructor
  · intro h x hx
    have := h x hx
    rw [decide_eq_true_eq] at this
    exact decide_eq_true (Classical.not_not.mp this)
  · intro h x hx
    rw [decide_eq_true_eq]
    exact Classical.not_not.mpr (of_decide_eq_true (h x hx))
def spLName : Sp := fun vs H Q _ => ∃ G R s, vs = [.str s] ∧ Wd G R H ∧ s.length ≤ 1000000 ∧ ∀ H', Wd G R H' → Q (.bl (isNm s)) H'
theorem sc__law_is_name : FnScope (["_law_word", "_law_sign"] : List Str) (["_law_word"] : List Str) (defScope s__law_is_name) := ⟨rfl, rfl, rfl, by decide +kernel, rfl, by decide +kernel, by decide +kernel⟩
theorem ok_lname {f : Addr} {fd : FuncData} (F : Fun K "_law_is_name" "_law_is_name" s__law_is_name f fd) (T : Txt K mg A) : FnOk P wo K mg base (L2.CX P wo) 1 f fd (["_law_word"] : List Str) spLName := by
  refine okT F sc__law_is_name (fun vs H Q E h => ?_) (fun cdv Ar outer s H vs Q E hr tk po h => ?_)
  · obtain ⟨_, _, _, rfl, _⟩ := h
    rfl
  obtain ⟨G, R, z, rfl, w, hz, k⟩ := h
  refine ⟨_, (pss_cons (ps_if (PW.pt (pw_or (pt_not (pt_chain op_lt op_lt pe_int (pe_callB (ka_len K) (by rfl) T.nb_len (by decide +kernel) (pa_cons (pv 0) pa_nil)) pe_int)) (pw_or1 (pt_cmpR (ka_in K) (pv 0) (pe_tup (pa_cons pe_str (pa_cons pe_str (pa_cons pe_str (pa_cons pe_str (pa_cons pe_str pa_nil)))))) (by first | exact nomark _ | rfl))))) (pss_one (ps_ret pe_bl)) pss_nil)
      (pss_one (ps_ret (pe_cmpR (ka_eq K hr.units) (pe_lc (own := [("_law_sign", 1)]) (g := (gName 1)) (tt := _) rfl sc__law_is_name.nd (pi_str (pv 0)) (blkOk_by (N := (["_law_word", "_law_sign"] : List Str)) (sc := defScope s__law_is_name) (by decide +kernel)) (fun _ _ _ _ _ => (pg_name (i := 1) sc__law_is_name.nd rfl (by first | exact Or.inl rfl | exact Or.inr rfl))) (fun _ _ _ _ _ => (pts_one (pt_cmpR (ka_ni K) (pv 1) pe_str (by first | exact nomark _ | rfl)))) (fun _ _ _ _ _ => (pv 1))) (pe_lst pa_nil) (nomark _))))), ?_⟩
  have hz' : z.length ≤ sizeLine := by rw [sizeLine_eq]; omega
  have res : isNm z = (decide (1 ≤ z.length) && decide (z.length ≤ 8) && !inV (.str z) (resv.map V.str) && lowS z) := rfl
  walk_at "go"
  refine g_lenS hz' ?_
  walk_at "go"
  have i1 : decide ((0 : Int) < (z.length : Int)) = decide (1 ≤ z.length) := decide_eq_decide.mpr (by omega)
  have i2 : decide ((z.length : Int) < 9) = decide (z.length ≤ 8) := decide_eq_decide.mpr (by omega)
  have no : ∀ H', Wd G R H' → isNm z = false → Q (.bl false) H' := fun H' w' e => by
    have := k H' w'
    rw [e] at this
    exact this
  rw [i1]
  refine iteD (fun h1 => ?_) (fun h1 => ?_)
  · walk_at "go"
    rw [i2]
    refine iteN (fun h2 => ?_) (fun h2 => ?_)
    · walk_at "go"
      exact no _ w (by rw [res, decide_eq_false h2, Bool.and_false]; rfl)
    walk_at "go"
    refine g_newL w (by walk_at "sz") fun p H1 n1 w1 => ?_
    refine g_inT w1 (SqT.of upd_same) rfl rfl ?_
    have w2 := w1.drop (Same.newG n1)
    show ∃ b, V.bl (inV (.str z) (resv.map V.str)) = .bl b ∧ _
    refine ⟨_, rfl, ?_⟩
    refine iteB (fun h3 => ?_) (fun h3 => ?_)
    · walk_at "go"
      exact no _ w2 (by rw [res, h3, Bool.not_true, Bool.and_false]; rfl)
    walk_at "go"
    refine ⟨z, rfl, ?_⟩
    refine lc_it itf_str w2 (fun _ _ => True.intro) hz' (fun i _ acc => acc = (((z.cps.toList.take i).filter fun c => decide (c ∉ letters.cps.toList)).map chS).map V.str) rfl ?_ ?_
    · rintro i x Gi acc D H2 H2' hi e nD ha hl2 w2 ⟨rfl, c, hc, rfl⟩
      have hc' : z.cps.toList[i]? = some c := by simpa using hc
      have ht : ((z.cps.toList.take (i + 1)).filter fun c => decide (c ∉ letters.cps.toList)) = ((z.cps.toList.take i).filter fun c => decide (c ∉ letters.cps.toList)) ++ (if c ∉ letters.cps.toList then [c] else []) := by
        rw [List.take_add_one, hc', List.filter_append]
        congr 1
        exact filter_one (p := fun c => c ∉ letters.cps.toList) c
      walk_at "go"
      refine ⟨rfl, ?_⟩
      walk_at "go"
      refine g_niSg ?_
      walk_at "go"
      show if (!decide (c ∈ letters.cps.toList)) = true then _ else _
      refine iteN (fun h4 => ?_) (fun h4 => ?_)
      · walk_at "go"
        refine lc_keep (Pv := fun i _ acc => acc = (((z.cps.toList.take i).filter fun c => decide (c ∉ letters.cps.toList)).map chS).map V.str) w2 e nD hl2 hi hz' ?_
        rw [ht, if_pos h4, ha, List.map_append, List.map_append]
        rfl
      · refine lc_drop (Pv := fun i _ acc => acc = (((z.cps.toList.take i).filter fun c => decide (c ∉ letters.cps.toList)).map chS).map V.str) w2 e nD hl2 ?_
        rw [ht, if_neg (fun q => q h4), ha, List.append_nil]
    · rintro D Gn acc H2 e nD rfl hl2 w2
      rw [show z.cps.size = z.cps.toList.length by simp, List.take_length] at w2
      walk_at "go"
      refine g_newL w2 (by walk_at "sz") fun p2 H3 n3 w3 => ?_
      refine g_eqF w3 (SqL.of (upd_old upd_same n3)) (SqL.of upd_same) (by rw [List.all_map]; exact List.all_eq_true.mpr fun _ _ => rfl) rfl ?_
      rw [eqVs_nil]
      have er : decide (((z.cps.toList.filter fun c => decide (c ∉ letters.cps.toList)).map chS) = []) = isNm z := by
        rw [bad_nil, res, decide_eq_true h1, decide_eq_true h2, h3]
        rfl
      rw [er]
      exact k _ (w3.drop (Same.trans (Same.trans e (Same.newG nD)) (Same.newG n3)))
  · walk_at "go"
    exact no _ w (by rw [res, decide_eq_false h1]; rfl)

end
end Sv


set_option Elab.async false
set_option linter.all false
set_option maxRecDepth 100000
set_option maxHeartbeats 4000000
namespace Sv
open PySem PySem.Spec PyProof.Rows L2 Sw
local macro_rules | `(tactic| walk_at "go1") => `(tactic| first
  | ((with_reducible refine' g_var ?hv ?_); (case hv => rfl))
  | with_reducible refine g_c ?_
  | with_reducible refine g_op ?_
  | with_reducible refine g_un ?_
  | with_reducible refine g_seq ?_
  | with_reducible refine g_next ?_
  | with_reducible refine g_asg ?_
  | with_reducible refine g_name ?_
  | with_reducible refine g_drop ?_
  | with_reducible refine g_sub ?_
  | with_reducible refine g_ret ?_
  | with_reducible refine g_retN ?_
  | with_reducible refine g_ifS ?_
  | with_reducible refine g_if ?_
  | with_reducible refine g_test ?_
  | with_reducible refine g_bl ?_
  | with_reducible refine g_cons ?_
  | with_reducible refine g_nil ?_
  | with_reducible refine g_and ?_
  | with_reducible refine g_or ?_
  | with_reducible refine g_not ?_
  | with_reducible refine g_callB ?_
  | with_reducible refine g_addI ?_
  | with_reducible refine g_I0 ?_
  | with_reducible refine g_calG ?_
  | with_reducible refine g_mkG ?_
  | with_reducible refine g_tup ?_
  | with_reducible refine g_pairs1 ?_
  | with_reducible refine g_pairs0 ?_
  | with_reducible refine g_dget ?_
  | with_reducible refine g_lvals ?_
  | with_reducible refine g_forT ?_
  | with_reducible refine g_lcT ?_
  | with_reducible refine g_dput ?_
  | with_reducible refine g_lc2L ?_
  | with_reducible refine g_iList ?_
  | with_reducible refine g_lcX ?_
  | with_reducible refine g_js1 ?_
  | with_reducible refine g_js0 ?_
  | with_reducible refine g_fmt ?_
  | with_reducible refine g_tLenSet ?_
  | with_reducible refine g_mkV ?_
  | with_reducible refine g_mkV1 ?_
  | with_reducible refine g_lst ?_
  | with_reducible refine g_forL ?_
  | with_reducible refine g_forR ?_
  | with_reducible refine g_forR2 ?_
  | with_reducible refine g_forS ?_
  | with_reducible refine g_forE ?_
  | with_reducible refine g_lcL ?_
  | with_reducible refine g_lcR ?_
  | with_reducible refine g_lcS ?_
  | with_reducible refine g_lcE ?_
  | with_reducible refine g_orT ?_
  | with_reducible refine g_slc ?_
  | with_reducible refine g_noPart ?_
  | with_reducible refine g_part ?_
  | with_reducible refine g_bm ?_
  | with_reducible refine g_par ?_
  | with_reducible refine g_yes ?_
  | with_reducible refine g_tupG ?_
  | with_reducible refine g_lstG ?_
  | with_reducible refine g_gcons ?_
  | with_reducible refine g_gnil ?_
  | with_reducible refine g_chain ?_
  | with_reducible refine g_truB ?_
  | with_reducible refine g_truN ?_
  | with_reducible refine g_truI ?_
  | with_reducible refine g_m1 ?_
  | with_reducible refine g_fld ?_
  | with_reducible refine g_con ?_
  | with_reducible refine g_tru ?_
  | with_reducible refine g_U ?_
  | with_reducible refine g_xg ?_
  | with_reducible refine g_andT ?_
  | with_reducible refine g_exI ?_
  | with_reducible refine g_dnew ?_
  | with_reducible refine g_intB ?_
  | with_reducible refine g_meth ?_
  | with_reducible refine g_prop ?_
  | with_reducible refine g_exc1 ?_
  | with_reducible refine g_setF ?_
  | with_reducible refine g_star ?_
  | with_reducible refine g_strM ?_
  | with_reducible refine iteT ?_
  | with_reducible refine iteF ?_
  | with_reducible refine iteNT ?_
  | with_reducible refine iteNF ?_)
local macro_rules | `(tactic| walk_at "go") => `(tactic| repeat (walk_at "go1"))
local macro_rules | `(tactic| walk_at "sz") => `(tactic| (first | (rw [sizeLine_eq]; simp only [List.length_cons, List.length_nil, List.length_map, List.length_append, List.length_take]; omega) | (rw [sizeLine_eq]; omega)))
section
variable {P : Program} {wo : World} {A : Ad} {K : PySem.W.Frag} {mg : Str → Option Value} {base : Heap}

/-! ### _law_column -/
def colTup (c : Col) : List V := [.str (kstr c.k), .str c.name, if c.k = .ref then .str c.target else .non, .bl c.opt, if c.k = .ref then .str c.rule else .non]
def spColumn (K : PySem.W.Frag) : Sp := fun vs H Q _ => ∃ G a c t nm, ∃ ts : List Str, vs = [.ref a, .ref t, .str nm] ∧ Wd G (RD a c) H ∧ G t = some (.lst (ts.map V.str)) ∧ 0 < ts.length ∧ ts.length ≤ 1000 ∧
  ∀ co p H', co.name = nm → (co.k = .ref → co.target ∈ ts ∧ ruleOk co.rule co.opt = true) → G p = none → Wd (upd G p (.tup (colTup co))) (RD a c) H' → Q (.ref p) H'
theorem sc__law_column : FnScope (["_law_state", "_law_tables", "_law_name", "_law_kind", "_law_empty", "_law_rules"] : List Str) (["_law_state", "_law_tables", "_law_name"] : List Str) (defScope s__law_column) := ⟨rfl, rfl, rfl, by decide +kernel, rfl, by decide +kernel, by decide +kernel⟩
theorem ok_column {f : Addr} {fd : FuncData} (F : Fun K "_law_column" "_law_column" s__law_column f fd) (T : Txt K mg A) (Gd : GFn P wo K mg base 1 "_law_draw" 2 [] (fun vs _ => spDraw vs)) (Gp : GFn P wo K mg base 2 "_law_pick" 2 [] (fun vs _ => spPick K vs)) : FnOk P wo K mg base (L2.CX P wo) 3 f fd (["_law_state", "_law_tables", "_law_name"] : List Str) (spColumn K) := by
  refine okT F sc__law_column (fun vs H Q E h => ?_) (fun cdv Ar outer s H vs Q E hr tk po h => ?_)
  · obtain ⟨_, _, _, _, _, _, rfl, _⟩ := h
    rfl
  obtain ⟨G, a, c, t, nm, ts, rfl, w, ht, t0, t1, k⟩ := h
  refine ⟨_, (pss_cons (ps_par (i := 3) (j := 4) rfl sc__law_column.nd rfl rfl (by decide) rfl rfl (pa_cons (pe_callG Gp (hr.mono (by decide)) tk (pa_cons (pv 0) (pa_cons (pe_lst (pa_cons pe_str (pa_cons pe_str (pa_cons pe_str (pa_cons pe_str pa_nil))))) pa_nil)) pk_nil) (pa_cons (pe_cmpR (ka_eq K hr.units) (pe_callG Gd (hr.mono (by decide)) tk (pa_cons (pv 0) (pa_cons pe_int pa_nil)) pk_nil) pe_int (nomark _)) pa_nil)) (by rfl))
      (pss_cons (ps_if (pt_cmpR (ka_ne K hr.units) (pv 3) pe_str (nomark _)) (pss_one (ps_ret (pe_tup (pa_cons (pv 3) (pa_cons (pv 2) (pa_cons pe_non (pa_cons (pv 4) (pa_cons pe_non pa_nil)))))))) pss_nil)
      (pss_cons (ps_set (i := 5) sc__law_column.nd rfl (by first | exact Or.inl rfl | exact Or.inr rfl) (pe_op (ka_add K) (pe_lst (pa_cons pe_str (pa_cons pe_str pa_nil))) (pe_op (ka_mul K) (pe_lst (pa_cons pe_str pa_nil)) (pe_callTy ka_int (by rfl) T.nb_int (by decide +kernel) (pa_cons (pv 4) pa_nil)))))
      (pss_one (ps_ret (pe_tup (pa_cons (pv 3) (pa_cons (pv 2) (pa_cons (pe_callG Gp (hr.mono (by decide)) tk (pa_cons (pv 0) (pa_cons (pv 1) pa_nil)) pk_nil) (pa_cons (pv 4) (pa_cons (pe_callG Gp (hr.mono (by decide)) tk (pa_cons (pv 0) (pa_cons (pv 5) pa_nil)) pk_nil) pa_nil))))))))))), ?_⟩
  walk_at "go"
  refine g_newL w (by walk_at "sz") fun p1 H1 n1 w1 => ?_
  walk_at "go"
  refine ⟨rfl, rfl, _, a, c, w1, .inl ⟨p1, _, rfl, .inl (SqL.of upd_same), by decide, by decide, fun x H2 hx w2 => ?_⟩⟩
  replace w2 := w2.drop (Same.newG n1)
  walk_at "go"
  refine ⟨rfl, rfl, G, a, c, 2, rfl, w2, by decide, by decide, fun r H3 r0 r1 w3 => ?_⟩
  walk_at "go"
  refine g_eqS rfl ?_
  walk_at "go"
  refine ⟨_, _, rfl, ?_⟩
  have hk : ∃ kd : Kd, x = .str (kstr kd) := by
    simp only [List.mem_cons, List.not_mem_nil, or_false] at hx
    rcases hx with rfl | rfl | rfl | rfl
    · exact ⟨.int, rfl⟩
    · exact ⟨.text, rfl⟩
    · exact ⟨.ref, rfl⟩
    · exact ⟨.ref, rfl⟩
  obtain ⟨kd, rfl⟩ := hk
  generalize decide (V.int r = V.int 0) = e
  walk_at "go"
  refine g_neS rfl ?_
  walk_at "go"
  refine iteN (fun h1 => ?_) (fun h1 => ?_)
  · walk_at "go"
    have hkr : kd ≠ .ref := fun z => h1 (by rw [z]; rfl)
    refine g_newL w3 (by walk_at "sz") fun p H4 n4 w4 => ?_
    refine k ⟨kd, nm, e, "", ""⟩ p H4 rfl (fun z => absurd z hkr) n4 ?_
    have : colTup ⟨kd, nm, e, "", ""⟩ = [.str (kstr kd), .str nm, .non, .bl e, .non] := by
      unfold colTup
      simp only [if_neg hkr]
    rw [this]
    exact w4
  · have hkr : kd = .ref := by
      cases kd with
      | ref => rfl
      | int => exact absurd (V.str.inj h1) (by decide)
      | text => exact absurd (V.str.inj h1) (by decide)
    subst hkr
    walk_at "go"
    refine g_newL w3 (by walk_at "sz") fun p4 H4 n4 w4 => ?_
    walk_at "go"
    refine g_newL w4 (by walk_at "sz") fun p5 H5 n5 w5 => ?_
    walk_at "go"
    refine g_mulL w5 upd_same (by cases e <;> decide) (by cases e <;> decide) (by rw [sizeLine_eq]; cases e <;> decide) fun p6 H6 n6 w6 => ?_
    have er : (List.replicate ((if e = true then (1 : Int) else 0)).toNat [V.str "clear"]).flatten = (if e = true then [V.str "clear"] else []) := by
      cases e <;> rfl
    rw [er] at w6
    refine g_addL w6 (upd_old (upd_old upd_same n5) n6) upd_same (by rw [sizeLine_eq]; cases e <;> decide) fun p7 H7 n7 w7 => ?_
    have s7 := fun o => Same.trans (Same.trans (Same.trans (Same.newG n4) (Same.newG n5)) (Same.newG n6)) (Same.newG (o := o) n7)
    walk_at "go"
    refine ⟨rfl, rfl, _, a, c, w7, .inl ⟨t, _, rfl, .inl (SqL.of (s7 _ _ _ ht)), by rw [List.length_map]; exact t0, by rw [List.length_map]; omega, fun x H8 hx8 w8 => ?_⟩⟩
    obtain ⟨tg, htg, rfl⟩ := List.mem_map.mp hx8
    walk_at "go"
    refine ⟨rfl, rfl, _, a, c, w8, .inl ⟨p7, _, rfl, .inl (SqL.of upd_same), by cases e <;> decide, by cases e <;> decide, fun x H9 hx9 w9 => ?_⟩⟩
    obtain ⟨ru, rfl, hru⟩ : ∃ ru : Str, x = .str ru ∧ ruleOk ru e = true := by
      cases e with
      | true =>
        simp only [if_true, List.mem_append, List.mem_cons, List.not_mem_nil, or_false] at hx9
        rcases hx9 with (rfl | rfl) | rfl
        · exact ⟨_, rfl, by decide +kernel⟩
        · exact ⟨_, rfl, by decide +kernel⟩
        · exact ⟨_, rfl, by decide +kernel⟩
      | false =>
        simp only [Bool.false_eq_true, if_false, List.append_nil, List.mem_cons, List.not_mem_nil, or_false] at hx9
        rcases hx9 with rfl | rfl
        · exact ⟨_, rfl, by decide +kernel⟩
        · exact ⟨_, rfl, by decide +kernel⟩
    walk_at "go"
    replace w9 := w9.drop (s7 _)
    refine g_newL w9 (by walk_at "sz") fun p H10 n10 w10 => ?_
    exact k ⟨.ref, nm, e, tg, ru⟩ p H10 rfl (fun _ => ⟨htg, hru⟩) n10 w10

/-! ### _law_column_text -/
def spColText (K : PySem.W.Frag) : Sp := fun vs H Q _ => ∃ G R p c, vs = [.ref p] ∧ Wd G R H ∧ SqT K G p (colTup c) ∧ c.ok ∧ ∀ H', Wd G R H' → Q (.str c.text) H'
theorem sc__law_column_text : FnScope (["_law_column_here", "_law_kind", "_law_name", "_law_target", "_law_empty", "_law_law_rule", "_law_words"] : List Str) (["_law_column_here"] : List Str) (defScope s__law_column_text) := ⟨rfl, rfl, rfl, by decide +kernel, rfl, by decide +kernel, by decide +kernel⟩
theorem ok_column_text {f : Addr} {fd : FuncData} (F : Fun K "_law_column_text" "_law_column_text" s__law_column_text f fd) (T : Txt K mg A) : FnOk P wo K mg base (L2.CX P wo) 1 f fd (["_law_column_here"] : List Str) (spColText K) := by
  refine okT F sc__law_column_text (fun vs H Q E h => ?_) (fun cdv Ar outer s H vs Q E hr tk po h => ?_)
  · obtain ⟨_, _, _, _, rfl, _⟩ := h
    rfl
  obtain ⟨G, R, p, c, rfl, w, hp, ok, k⟩ := h
  refine ⟨_, (pss_cons (ps_asg (pv 0) (kg_tup (n := 5) K rfl (pgs_cons (pg_name (i := 1) sc__law_column_text.nd rfl (by first | exact Or.inl rfl | exact Or.inr rfl)) (pgs_cons (pg_name (i := 2) sc__law_column_text.nd rfl (by first | exact Or.inl rfl | exact Or.inr rfl)) (pgs_cons (pg_name (i := 3) sc__law_column_text.nd rfl (by first | exact Or.inl rfl | exact Or.inr rfl)) (pgs_cons (pg_name (i := 4) sc__law_column_text.nd rfl (by first | exact Or.inl rfl | exact Or.inr rfl)) (pgs_cons (pg_name (i := 5) sc__law_column_text.nd rfl (by first | exact Or.inl rfl | exact Or.inr rfl)) pgs_nil)))))))
      (pss_cons (ps_set (i := 6) sc__law_column_text.nd rfl (by first | exact Or.inl rfl | exact Or.inr rfl) (pe_op (ka_add K) (pe_op (ka_add K) (pe_lst (pa_cons (pv 1) (pa_cons (pv 2) pa_nil))) (pe_op (ka_mul K) (pe_lst (pa_cons (pv 3) pa_nil)) (pe_callTy ka_int (by rfl) T.nb_int (by decide +kernel) (pa_cons (pe_cmpR (ka_eq K hr.units) (pv 1) pe_str (nomark _)) pa_nil)))) (pe_op (ka_mul K) (pe_lst (pa_cons pe_str pa_nil)) (pe_callTy ka_int (by rfl) T.nb_int (by decide +kernel) (pa_cons (pv 4) pa_nil)))))
      (pss_one (ps_ret (ke_join K pe_str (pe_op (ka_add K) (pv 6) (pe_op (ka_mul K) (pe_lst (pa_cons (pv 5) pa_nil)) (pe_callTy ka_int (by rfl) T.nb_int (by decide +kernel) (pa_cons (pe_cmpR (ka_eq K hr.units) (pv 1) pe_str (nomark _)) pa_nil))))))))), ?_⟩
  have hz := Col.text_len ok
  walk_at "go"
  refine ⟨p, _, rfl, Evl.ex_t w.sub hp, rfl, ?_⟩
  unfold colTup
  walk_at "go"
  refine g_newL w (by walk_at "sz") fun p1 H1 n1 w1 => ?_
  walk_at "go"
  refine g_newL w1 (by walk_at "sz") fun p2 H2 n2 w2 => ?_
  walk_at "go"
  refine g_eqS rfl ?_
  walk_at "go"
  have eb : decide (V.str (kstr c.k) = V.str "ref") = decide (c.k = .ref) := by
    cases c.k <;> decide
  have ew : ∀ b : Bool, b = decide (c.k = .ref) → (([V.str (kstr c.k), V.str c.name] ++ (if b = true then [if c.k = .ref then V.str c.target else .non] else [])) ++ (if c.opt = true then [V.str "optional"] else [])) ++ (if b = true then [if c.k = .ref then V.str c.rule else .non] else []) = c.words.map V.str := fun b hb => by
    subst hb
    by_cases hr : c.k = .ref
    · rw [if_pos hr, if_pos hr, if_pos (decide_eq_true hr), if_pos (decide_eq_true hr)]
      unfold Col.words optW
      rw [if_pos hr]
      cases c.opt <;> rfl
    · have hd : ¬ (decide (c.k = .ref) = true) := fun z => hr (of_decide_eq_true z)
      rw [if_neg hd, if_neg hd]
      unfold Col.words Col.words0 optW
      rw [if_neg hr]
      cases c.opt <;> rfl
  have rep : ∀ (b : Bool) (x : V), (List.replicate ((if b = true then (1 : Int) else 0)).toNat [x]).flatten = (if b = true then [x] else []) := fun b x => by
    cases b <;> rfl
  have fits : ∀ b : Bool, -(2 ^ 63) ≤ (if b = true then (1 : Int) else 0) ∧ (if b = true then (1 : Int) else 0) < 2 ^ 63 ∧ 1 * (if b = true then (1 : Int) else 0).toNat ≤ sizeLine := fun b => by
    rw [sizeLine_eq]
    cases b <;> decide
  have l1 : ∀ (b : Bool) (x : V), (if b = true then [x] else []).length ≤ 1 := fun b x => by
    cases b <;> simp
  rw [eb]
  replace ew := ew _ rfl
  generalize decide (c.k = .ref) = b at *
  generalize (if c.k = .ref then V.str c.target else .non) = tv at *
  generalize (if c.k = .ref then V.str c.rule else .non) = rv at *
  refine g_mulL w2 upd_same (fits b).1 (fits b).2.1 (fits b).2.2 fun p3 H3 n3 w3 => ?_
  rw [rep] at w3
  refine g_addL w3 (upd_old (upd_old upd_same n2) n3) upd_same (by have := l1 b tv; rw [sizeLine_eq]; show 2 + _ ≤ _; omega) fun p4 H4 n4 w4 => ?_
  walk_at "go"
  refine g_newL w4 (by walk_at "sz") fun p5 H5 n5 w5 => ?_
  walk_at "go"
  refine g_mulL w5 upd_same (fits _).1 (fits _).2.1 (fits _).2.2 fun p6 H6 n6 w6 => ?_
  rw [rep] at w6
  refine g_addL w6 (upd_old (upd_old upd_same n5) n6) upd_same (by have := l1 b tv; have := l1 c.opt (.str "optional"); rw [sizeLine_eq]; simp only [List.length_append, List.length_cons, List.length_nil]; omega) fun p7 H7 n7 w7 => ?_
  walk_at "go"
  refine g_newL w7 (by walk_at "sz") fun p8 H8 n8 w8 => ?_
  walk_at "go"
  refine g_eqS rfl ?_
  walk_at "go"
  rw [eb]
  refine g_mulL w8 upd_same (fits b).1 (fits b).2.1 (fits b).2.2 fun p9 H9 n9 w9 => ?_
  rw [rep] at w9
  refine g_addL w9 (upd_old (upd_old upd_same n8) n9) upd_same (by have := l1 b tv; have := l1 b rv; have := l1 c.opt (.str "optional"); rw [sizeLine_eq]; simp only [List.length_append, List.length_cons, List.length_nil]; omega) fun p10 H10 n10 w10 => ?_
  walk_at "go"
  rw [ew] at w10
  refine g_join w10 (SqL.of upd_same) (Nat.le_trans (show _ ≤ 64 from hz) (by decide)) ?_
  refine k _ (w10.drop ?_)
  exact Same.trans (Same.trans (Same.trans (Same.trans (Same.trans (Same.trans (Same.trans (Same.trans (Same.trans (Same.newG n1) (Same.newG n2)) (Same.newG n3)) (Same.newG n4)) (Same.newG n5)) (Same.newG n6)) (Same.newG n7)) (Same.newG n8)) (Same.newG n9)) (Same.newG n10)
end
end Sv


set_option Elab.async false
set_option linter.all false
set_option maxRecDepth 100000
set_option maxHeartbeats 4000000
namespace Sv
open PySem PySem.Spec PyProof.Rows L2 Sw
local macro_rules | `(tactic| walk_at "go1") => `(tactic| first
  | ((with_reducible refine' g_var ?hv ?_); (case hv => rfl))
  | with_reducible refine g_c ?_
  | with_reducible refine g_op ?_
  | with_reducible refine g_un ?_
  | with_reducible refine g_seq ?_
  | with_reducible refine g_next ?_
  | with_reducible refine g_asg ?_
  | with_reducible refine g_name ?_
  | with_reducible refine g_drop ?_
  | with_reducible refine g_sub ?_
  | with_reducible refine g_ret ?_
  | with_reducible refine g_retN ?_
  | with_reducible refine g_ifS ?_
  | with_reducible refine g_if ?_
  | with_reducible refine g_test ?_
  | with_reducible refine g_bl ?_
  | with_reducible refine g_cons ?_
  | with_reducible refine g_nil ?_
  | with_reducible refine g_and ?_
  | with_reducible refine g_or ?_
  | with_reducible refine g_not ?_
  | with_reducible refine g_callB ?_
  | with_reducible refine g_addI ?_
  | with_reducible refine g_I0 ?_
  | with_reducible refine g_calG ?_
  | with_reducible refine g_mkG ?_
  | with_reducible refine g_tup ?_
  | with_reducible refine g_pairs1 ?_
  | with_reducible refine g_pairs0 ?_
  | with_reducible refine g_dget ?_
  | with_reducible refine g_lvals ?_
  | with_reducible refine g_forT ?_
  | with_reducible refine g_lcT ?_
  | with_reducible refine g_dput ?_
  | with_reducible refine g_lc2L ?_
  | with_reducible refine g_iList ?_
  | with_reducible refine g_lcX ?_
  | with_reducible refine g_js1 ?_
  | with_reducible refine g_js0 ?_
  | with_reducible refine g_fmt ?_
  | with_reducible refine g_tLenSet ?_
  | with_reducible refine g_mkV ?_
  | with_reducible refine g_mkV1 ?_
  | with_reducible refine g_lst ?_
  | with_reducible refine g_forL ?_
  | with_reducible refine g_forR ?_
  | with_reducible refine g_forR2 ?_
  | with_reducible refine g_forS ?_
  | with_reducible refine g_forE ?_
  | with_reducible refine g_lcL ?_
  | with_reducible refine g_lcR ?_
  | with_reducible refine g_lcS ?_
  | with_reducible refine g_lcE ?_
  | with_reducible refine g_orT ?_
  | with_reducible refine g_slc ?_
  | with_reducible refine g_noPart ?_
  | with_reducible refine g_part ?_
  | with_reducible refine g_bm ?_
  | with_reducible refine g_par ?_
  | with_reducible refine g_yes ?_
  | with_reducible refine g_tupG ?_
  | with_reducible refine g_lstG ?_
  | with_reducible refine g_gcons ?_
  | with_reducible refine g_gnil ?_
  | with_reducible refine g_chain ?_
  | with_reducible refine g_truB ?_
  | with_reducible refine g_truN ?_
  | with_reducible refine g_truI ?_
  | with_reducible refine g_m1 ?_
  | with_reducible refine g_fld ?_
  | with_reducible refine g_con ?_
  | with_reducible refine g_tru ?_
  | with_reducible refine g_U ?_
  | with_reducible refine g_xg ?_
  | with_reducible refine g_andT ?_
  | with_reducible refine g_exI ?_
  | with_reducible refine g_dnew ?_
  | with_reducible refine g_intB ?_
  | with_reducible refine g_meth ?_
  | with_reducible refine g_prop ?_
  | with_reducible refine g_exc1 ?_
  | with_reducible refine g_setF ?_
  | with_reducible refine g_star ?_
  | with_reducible refine g_strM ?_
  | with_reducible refine iteT ?_
  | with_reducible refine iteF ?_
  | with_reducible refine iteNT ?_
  | with_reducible refine iteNF ?_)
local macro_rules | `(tactic| walk_at "go") => `(tactic| repeat (walk_at "go1"))
local macro_rules | `(tactic| walk_at "sz") => `(tactic| (first | (rw [sizeLine_eq]; simp only [List.length_cons, List.length_nil, List.length_map, List.length_append, List.length_take]; omega) | (rw [sizeLine_eq]; omega)))
theorem seqIx_of {r : Int} {n : Nat} (h0 : 0 ≤ r) (h1 : r < n) : seqIndex? r n = some r.toNat := by
  have e : seqIndex? r n = if (decide (0 ≤ (if r < 0 then r + (n : Int) else r)) && decide ((if r < 0 then r + (n : Int) else r) < (n : Int))) = true then some (if r < 0 then r + (n : Int) else r).toNat else none := rfl
  rw [e, if_neg (show ¬ r < 0 by omega), decide_eq_true h0, decide_eq_true h1]
  rfl
section
variable {P : Program} {wo : World} {A : Ad} {K : PySem.W.Frag} {mg : Str → Option Value} {base : Heap}
/-! ### _law_mixed -/
def spMixed (K : PySem.W.Frag) : Sp := fun vs H Q _ => ∃ G a c l xs, vs = [.ref a, .ref l] ∧ Wd G (RD a c) H ∧ SqL K G l xs ∧ xs.length ≤ 1000 ∧ ∀ p H' ys, (∀ y ∈ ys, y ∈ xs) → ys.length = xs.length → G p = none → Wd (upd G p (.lst ys)) (RD a c) H' → Q (.ref p) H'
theorem sc__law_mixed : FnScope (["_law_state", "_law_some", "_law_left", "_law_found"] : List Str) (["_law_state", "_law_some"] : List Str) (defScope s__law_mixed) := ⟨rfl, rfl, rfl, by decide +kernel, rfl, by decide +kernel, by decide +kernel⟩
theorem ok_mixed {f : Addr} {fd : FuncData} (F : Fun K "_law_mixed" "_law_mixed" s__law_mixed f fd) (T : Txt K mg A) (Gd : GFn P wo K mg base 1 "_law_draw" 2 [] (fun vs _ => spDraw vs)) : FnOk P wo K mg base (L2.CX P wo) 2 f fd (["_law_state", "_law_some"] : List Str) (spMixed K) := by
  refine okT F sc__law_mixed (fun vs H Q E h => ?_) (fun cdv Ar outer s H vs Q E hr tk po h => ?_)
  · obtain ⟨_, _, _, _, _, rfl, _⟩ := h
    rfl
  obtain ⟨G, a, c, l, xs, rfl, w, hl, hx, k⟩ := h
  refine ⟨_, (pss_cons (ps_par (i := 2) (j := 3) rfl sc__law_mixed.nd rfl rfl (by decide) rfl rfl (pa_cons (pe_callTy (ka_list K) (by rfl) T.nb_list (by decide +kernel) (pa_cons (pv 1) pa_nil)) (pa_cons (pe_lst pa_nil) pa_nil)) (by rfl))
      (pss_cons (ps_while po (pt_cmpR (op_neL0 K hr.units) (pv 2) (pe_lst pa_nil) (nomark _)) (pss_one (ps_expr (pe_bm PySem.F.plainAttrs_list PySem.F.slot_list_append PySem.F.type_list_append mt_append (pv 3) (pa_cons (pe_bm PySem.F.plainAttrs_list PySem.F.slot_list_pop PySem.F.type_list_pop mt_popAt (pv 2) (pa_cons (pe_callG Gd (hr.mono (by decide)) tk (pa_cons (pv 0) (pa_cons (pe_callB (ka_len K) (by rfl) T.nb_len (by decide +kernel) (pa_cons (pv 2) pa_nil)) pa_nil)) pk_nil) pa_nil)) pa_nil)))))
      (pss_one (ps_ret (pv 3))))), ?_⟩
  walk_at "go"
  refine g_listL w hl fun p1 H1 n1 w => ?_
  walk_at "go"
  refine g_newL w (by walk_at "sz") fun p2 H2 n2 w => ?_
  walk_at "go"
  refine ⟨_, _, rfl, ?_⟩
  walk_at "go"
  obtain ⟨m2, d21⟩ := upd_nonne n2
  refine ⟨fun m σ' H' => ∃ lf fd, σ' = [some (.ref a), some (.ref l), some (.ref p1), some (.ref p2)] ∧ lf.length = m ∧ Wd (upd (upd G p1 (.lst lf)) p2 (.lst fd)) (RD a c) H' ∧ (∀ y ∈ lf, y ∈ xs) ∧ (∀ y ∈ fd, y ∈ xs) ∧ lf.length + fd.length = xs.length,
    ⟨xs.length, xs, [], rfl, rfl, w, fun _ h => h, fun _ h => absurd h List.not_mem_nil, rfl⟩, ?_⟩
  rintro m σ' H' ⟨lf, fd, rfl, rfl, w, h1, h2, h3⟩
  have hp2 : upd (upd G p1 (.lst lf)) p2 (.lst fd) p2 = some (.lst fd) := upd_same
  have hp1 : upd (upd G p1 (.lst lf)) p2 (.lst fd) p1 = some (.lst lf) := by rw [upd_ne d21.symm]; exact upd_same
  have s1 : Same G (upd (upd G p1 (.lst lf)) p2 (.lst fd)) := Same.setL (Same.newG n1) m2
  walk_at "go"
  refine g_newL w (by walk_at "sz") fun q H3 nq w3 => ?_
  refine g_neL0 w3 (SqL.of (upd_old hp1 nq)) (SqL.of upd_same) ?_
  replace w := w3.drop (Same.newG nq)
  walk_at "go"
  cases lf with
  | nil =>
    refine iteNT ?_
    walk_at "go"
    rw [upd_comm d21] at w
    refine k p2 _ fd h2 (by simpa using h3) m2 (w.drop (Same.newG ?_))
    rw [upd_ne d21.symm]
    exact n1
  | cons y lf =>
    refine iteNF ?_
    have lx : (y :: lf).length ≤ 1000 := by omega
    refine ⟨_, fun _ _ h => h, ?_⟩
    walk_at "go"
    refine g_tyL w hp2 ?_
    walk_at "go"
    refine g_tyL w hp1 ?_
    walk_at "go"
    refine g_lenL w (SqL.of hp1) ?_
    walk_at "go"
    refine ⟨rfl, rfl, _, a, c, _, rfl, w, by rw [List.length_cons]; omega, by omega, fun r H4 r0 r1 w4 => ?_⟩
    walk_at "go"
    have hlt : r.toNat < (y :: lf).length := by omega
    refine g_popAt w4 hp1 (by omega) (by omega) (seqIx_of r0 r1) (List.getElem?_eq_getElem hlt) fun H5 w5 => ?_
    have e5 : upd (upd (upd G p1 (.lst (y :: lf))) p2 (.lst fd)) p1 (.lst ((y :: lf).eraseIdx r.toNat)) = upd (upd G p1 (.lst ((y :: lf).eraseIdx r.toNat))) p2 (.lst fd) := by rw [upd_comm d21.symm, upd_upd]
    rw [e5] at w5
    walk_at "go"
    refine g_app w5 upd_same (by rw [sizeLine_eq]; omega) fun H6 w6 => ?_
    rw [upd_upd] at w6
    walk_at "go"
    have le : ((y :: lf).eraseIdx r.toNat).length = lf.length := by rw [List.length_eraseIdx, if_pos hlt]; rfl
    refine ⟨_, ?_, _, _, rfl, rfl, w6, fun z hz => h1 z (List.mem_of_mem_eraseIdx hz), fun z hz => ?_, ?_⟩
    · rw [le, List.length_cons]; omega
    · rcases List.mem_append.mp hz with hz | hz
      · exact h2 z hz
      · rw [List.mem_singleton.mp hz]
        exact h1 _ (List.getElem_mem hlt)
    · rw [le, List.length_append]
      simp only [List.length_cons, List.length_nil] at h3 ⊢
      omega
end
end Sv


set_option Elab.async false
set_option linter.all false
set_option maxRecDepth 100000
set_option maxHeartbeats 4000000
namespace Sv
open PySem PySem.Spec PyProof.Rows L2 Sw
local macro_rules | `(tactic| walk_at "go1") => `(tactic| first
  | ((with_reducible refine' g_var ?hv ?_); (case hv => rfl))
  | with_reducible refine g_c ?_
  | with_reducible refine g_op ?_
  | with_reducible refine g_un ?_
  | with_reducible refine g_seq ?_
  | with_reducible refine g_next ?_
  | with_reducible refine g_asg ?_
  | with_reducible refine g_name ?_
  | with_reducible refine g_drop ?_
  | with_reducible refine g_sub ?_
  | with_reducible refine g_ret ?_
  | with_reducible refine g_retN ?_
  | with_reducible refine g_ifS ?_
  | with_reducible refine g_if ?_
  | with_reducible refine g_test ?_
  | with_reducible refine g_bl ?_
  | with_reducible refine g_cons ?_
  | with_reducible refine g_nil ?_
  | with_reducible refine g_and ?_
  | with_reducible refine g_or ?_
  | with_reducible refine g_not ?_
  | with_reducible refine g_callB ?_
  | with_reducible refine g_addI ?_
  | with_reducible refine g_I0 ?_
  | with_reducible refine g_calG ?_
  | with_reducible refine g_mkG ?_
  | with_reducible refine g_tup ?_
  | with_reducible refine g_pairs1 ?_
  | with_reducible refine g_pairs0 ?_
  | with_reducible refine g_dget ?_
  | with_reducible refine g_lvals ?_
  | with_reducible refine g_forT ?_
  | with_reducible refine g_lcT ?_
  | with_reducible refine g_dput ?_
  | with_reducible refine g_lc2L ?_
  | with_reducible refine g_iList ?_
  | with_reducible refine g_lcX ?_
  | with_reducible refine g_js1 ?_
  | with_reducible refine g_js0 ?_
  | with_reducible refine g_fmt ?_
  | with_reducible refine g_tLenSet ?_
  | with_reducible refine g_mkV ?_
  | with_reducible refine g_mkV1 ?_
  | with_reducible refine g_lst ?_
  | with_reducible refine g_forL ?_
  | with_reducible refine g_forR ?_
  | with_reducible refine g_forR2 ?_
  | with_reducible refine g_forS ?_
  | with_reducible refine g_forE ?_
  | with_reducible refine g_lcL ?_
  | with_reducible refine g_lcR ?_
  | with_reducible refine g_lcS ?_
  | with_reducible refine g_lcE ?_
  | with_reducible refine g_orT ?_
  | with_reducible refine g_slc ?_
  | with_reducible refine g_noPart ?_
  | with_reducible refine g_part ?_
  | with_reducible refine g_bm ?_
  | with_reducible refine g_par ?_
  | with_reducible refine g_yes ?_
  | with_reducible refine g_tupG ?_
  | with_reducible refine g_lstG ?_
  | with_reducible refine g_gcons ?_
  | with_reducible refine g_gnil ?_
  | with_reducible refine g_chain ?_
  | with_reducible refine g_truB ?_
  | with_reducible refine g_truN ?_
  | with_reducible refine g_truI ?_
  | with_reducible refine g_m1 ?_
  | with_reducible refine g_fld ?_
  | with_reducible refine g_con ?_
  | with_reducible refine g_tru ?_
  | with_reducible refine g_U ?_
  | with_reducible refine g_xg ?_
  | with_reducible refine g_andT ?_
  | with_reducible refine g_exI ?_
  | with_reducible refine g_dnew ?_
  | with_reducible refine g_intB ?_
  | with_reducible refine g_meth ?_
  | with_reducible refine g_prop ?_
  | with_reducible refine g_exc1 ?_
  | with_reducible refine g_setF ?_
  | with_reducible refine g_star ?_
  | with_reducible refine g_strM ?_
  | with_reducible refine iteT ?_
  | with_reducible refine iteF ?_
  | with_reducible refine iteNT ?_
  | with_reducible refine iteNF ?_)
local macro_rules | `(tactic| walk_at "go") => `(tactic| repeat (walk_at "go1"))
local macro_rules | `(tactic| walk_at "sz") => `(tactic| (first | (rw [sizeLine_eq]; simp only [List.length_cons, List.length_nil, List.length_map, List.length_append, List.length_take]; omega) | (rw [sizeLine_eq]; omega)))
/-! ### dicts of columns, groups -/
def colKvs (cs : List Col) (as : List Addr) : List (Key × V) := (cs.zip as).map fun p => (Sum.inr p.1.name, V.ref p.2)
def ColsAt (A : Ad) (G : Hp) (cs : List Col) (as : List Addr) : Prop := Paired (fun c a => ColAt A G a c) cs as
theorem ColsAt.same {A : Ad} {G G' : Hp} {cs : List Col} {as : List Addr} (h : ColsAt A G cs as) (e : Same G G') : ColsAt A G' cs as := Sw.Paired.imp (fun _ _ x => x.same e) h
def colOf (cs : List Col) (n : Str) : Option Col := cs.find? fun c => decide (c.name = n)
theorem colOf_at {A : Ad} {G : Hp} {n : Str} : ∀ {cs : List Col} {as : List Addr}, ColsAt A G cs as → (∃ c a, colOf cs n = some c ∧ valV (colKvs cs as) (.inr n) = some (.ref a) ∧ ColAt A G a c ∧ c ∈ cs) ∨ (colOf cs n = none ∧ valV (colKvs cs as) (.inr n) = none)
  | _, _, .nil => .inr ⟨rfl, rfl⟩
  | c :: cs, a :: as, .cons r t => by
    by_cases h : c.name = n
    · refine .inl ⟨c, a, ?_, ?_, r, List.mem_cons_self⟩
      · unfold colOf
        rw [List.find?_cons_of_pos (by simpa using h)]
      · exact valV_pos (p := (Sum.inr c.name, V.ref a)) (by rw [h])
    · have e1 : colOf (c :: cs) n = colOf cs n := by
        unfold colOf
        rw [List.find?_cons_of_neg (by simpa using h)]
      have e2 : valV (colKvs (c :: cs) (a :: as)) (.inr n) = valV (colKvs cs as) (.inr n) := valV_neg (p := (Sum.inr c.name, V.ref a)) fun z => h (Sum.inr.inj z)
      rw [e1, e2]
      rcases colOf_at (n := n) t with ⟨c', a', q1, q2, q3, q4⟩ | q
      · exact .inl ⟨c', a', q1, q2, q3, List.mem_cons_of_mem _ q4⟩
      · exact .inr q
/-- a group of the columns -/
def useful (c : Col) : Bool := !decide (c.k = .ref) || c.opt
def isGrp (cs : List Col) (g : List Str) : Bool := (decide (1 ≤ g.length) && decide (g.length ≤ 3)) && (g.all fun n => (colOf cs n).isSome) && decide g.Nodup && (g.any fun n => match colOf cs n with | some c => useful c | none => false)
/-- a value that may be a group: the texts of a tuple, or none -/
def GrpV (K : PySem.W.Frag) (G : Hp) (v : V) (o : Option (List Str)) : Prop :=
  (∃ p g, v = .ref p ∧ o = some g ∧ SqT K G p (g.map V.str) ∧ g.length ≤ 1000) ∨
  (∃ t, o = none ∧ TyX K G v t ∧ PySem.W.kitOne K t (.type "tuple") = some false) ∨
  (∃ p xs, v = .ref p ∧ o = none ∧ SqT K G p xs ∧ xs.length ≤ 1000 ∧ (∀ x ∈ xs, (∃ s, x = .str s) ∨ NotStr K G x) ∧ ∃ x ∈ xs, NotStr K G x)
theorem NotStr.same {K : PySem.W.Frag} {G G' : Hp} {v : V} (h : NotStr K G v) (e : Same G G') : NotStr K G' v := by
  obtain ⟨t, h1, h2⟩ := h
  exact ⟨t, tyX_same e h1, h2⟩
theorem GrpV.same {K : PySem.W.Frag} {G G' : Hp} {v : V} {o : Option (List Str)} (h : GrpV K G v o) (e : Same G G') : GrpV K G' v o := by
  rcases h with ⟨p, g, h1, h2, h3, h4⟩ | ⟨t, h1, h2, h3⟩ | ⟨p, xs, h1, h2, h3, h4, h5, x, h6, h7⟩
  · exact .inl ⟨p, g, h1, h2, Evl.ex_t e h3, h4⟩
  · exact .inr (.inl ⟨t, h1, tyX_same e h2, h3⟩)
  · exact .inr (.inr ⟨p, xs, h1, h2, Evl.ex_t e h3, h4, fun x hx => (h5 x hx).imp id fun z => z.same e, x, h6, h7.same e⟩)
def grpB (cs : List Col) : Option (List Str) → Bool
  | some g => isGrp cs g
  | none => false
theorem kit_tup : ∀ {K : PySem.W.Frag}, PySem.W.kitOne K (.type "tuple") (.type "tuple") = some true := kit_ty (by decide +kernel)
theorem all_map {α : Type} (f : α → Bool) (l : List α) : (l.map f).all id = l.all f := by rw [List.all_map]; rfl
theorem any_map {α : Type} (f : α → Bool) (l : List α) : (l.map f).any id = l.any f := by rw [List.any_map]; rfl
section
variable {P : Program} {wo : World} {A : Ad} {K : PySem.W.Frag} {mg : Str → Option Value} {base : Heap}
/-! ### Column.kind -/
def spKind (A : Ad) : Sp := fun vs H Q _ => ∃ G R x c, vs = [.ref x] ∧ Wd G R H ∧ ColAt A G x c ∧ ∀ H', Wd G R H' → Q (.str (kstr c.k)) H'
theorem sc_Column_kind : FnScope (["self"] : List Str) (["self"] : List Str) (defScope s_Column_kind) := ⟨rfl, rfl, rfl, by decide +kernel, rfl, by decide +kernel, by decide +kernel⟩
theorem ok_kind {f : Addr} {fd : FuncData} (F : Fun K "kind" "Column.kind" s_Column_kind f fd) (CF : ColF K A) : FnOk P wo K mg base (L2.CX P wo) 1 f fd (["self"] : List Str) (spKind A) := by
  refine okT F sc_Column_kind (fun vs H Q E h => ?_) (fun cdv Ar outer s H vs Q E hr tk po h => ?_)
  · obtain ⟨_, _, _, _, rfl, _⟩ := h
    rfl
  obtain ⟨G, R, x, c, rfl, w, ⟨dx, hx⟩, k⟩ := h
  obtain ⟨u, hu⟩ := CF.kd c.k
  refine ⟨_, (pss_one (ps_ret (ke_con K (pv 0) rfl))), ?_⟩
  walk_at "go"
  exact g_gc w hx (CF.cls _) hu c.l_kind (k _ w)
theorem prop_kind {G H : Hp} {R : Res} {a : Addr} {c : Col} {Q : VK} (GK : ∀ k, GPr P wo K mg base 1 (kcls A k) "kind" (fun vs _ => spKind A vs)) (w : Wd G R H) (h : ColAt A G a c) (k : ∀ H', Wd G R H' → Q (.str (kstr c.k)) H') :
    ∃ a' C dx fs sp, V.ref a = .ref a' ∧ H a' = some (.ins C dx fs) ∧ GPr P wo K mg base 1 C "kind" sp ∧ sp [.ref a'] [] H Q E0 := by
  obtain ⟨dx, hx⟩ := h
  exact ⟨a, _, dx, _, _, rfl, w.get hx, GK c.k, G, R, a, c, rfl, w, ⟨dx, hx⟩, k⟩
/-! ### is_group -/
def spIsGroup (K : PySem.W.Frag) (A : Ad) : Sp := fun vs H Q _ => ∃ G R d cs as v o, vs = [.ref d, v] ∧ Wd G R H ∧ G d = some (.dK (colKvs cs as)) ∧ ColsAt A G cs as ∧ GrpV K G v o ∧ ∀ H', Wd G R H' → Q (.bl (grpB cs o)) H'
theorem sc_is_group : FnScope (["by_name", "value", "name"] : List Str) (["by_name", "value"] : List Str) (defScope s_is_group) := ⟨rfl, rfl, rfl, by decide +kernel, rfl, by decide +kernel, by decide +kernel⟩
theorem ok_is_group {f : Addr} {fd : FuncData} (F : Fun K "is_group" "is_group" s_is_group f fd) (T : Txt K mg A) (CF : ColF K A) (GK : ∀ k, GPr P wo K mg base 1 (kcls A k) "kind" (fun vs _ => spKind A vs)) : FnOk P wo K mg base (L2.CX P wo) 3 f fd (["by_name", "value"] : List Str) (spIsGroup K A) := by
  refine okT F sc_is_group (fun vs H Q E h => ?_) (fun cdv Ar outer s H vs Q E hr tk po h => ?_)
  · obtain ⟨_, _, _, _, _, _, _, rfl, _⟩ := h
    rfl
  obtain ⟨G, R, d, cs, as, v, o, rfl, w, hd, hc, hv, k⟩ := h
  refine ⟨_, (pss_cons (ps_if (PW.pt (pw_or (pt_not (kt_truth K (pe_callB (ka_isi K) (by rfl) T.nb_isinstance (by decide +kernel) (pa_cons (pv 1) (pa_cons (pe_bltn (v := .ty "tuple") (u := .type "tuple") (by rfl) T.nb_tuple (by decide +kernel) rfl) pa_nil))) (by intro _; rfl))) (pw_or1 (pt_not (pt_chain op_le op_le pe_int (pe_callB (ka_len K) (by rfl) T.nb_len (by decide +kernel) (pa_cons (pv 1) pa_nil)) (pe_globE (by rfl) T.g_MOST_IN_GROUP)))))) (pss_one (ps_ret pe_bl)) pss_nil)
      (pss_cons (ps_if (PW.pt (pw_or (pt_not (kt_truth K (pe_callB (ka_all K rfl) (by rfl) T.nb_all (by decide +kernel) (pa_cons (pe_lc (own := [("name", 2)]) (g := (gName 2)) (tt := tYes) rfl sc_is_group.nd (ki_tup K (pv 1)) (blkOk_by (N := (["by_name", "value", "name"] : List Str)) (sc := defScope s_is_group) (by decide +kernel)) (fun _ _ _ _ _ => (pg_name (i := 2) sc_is_group.nd rfl (by first | exact Or.inl rfl | exact Or.inr rfl))) (fun _ _ _ _ _ => pts_nil) (fun _ _ _ _ _ => (ke_andT K (pe_callB (ka_isi K) (by rfl) T.nb_isinstance (by decide +kernel) (pa_cons (pv 2) (pa_cons (pe_bltn (v := .ty "str") (u := .type "str") (by rfl) T.nb_str (by decide +kernel) rfl) pa_nil))) (pe_one (pe_cmpR (op_inDk (L2.hu_of hr)) (pv 2) (pv 0) (by first | exact nomark _ | rfl)))))) pa_nil)) (by intro _; rfl))) (pw_or1 (pt_cmpR (ka_ne K hr.units) (pe_lenSetT K rfl (by rfl) T.nb_len (by rfl) T.nb_set (pv 1)) (pe_callB (ka_len K) (by rfl) T.nb_len (by decide +kernel) (pa_cons (pv 1) pa_nil)) (nomark _))))) (pss_one (ps_ret pe_bl)) pss_nil)
      (pss_one (ps_ret (pe_callB (ka_any K rfl) (by rfl) T.nb_any (by decide +kernel) (pa_cons (pe_lc (own := [("name", 2)]) (g := (gName 2)) (tt := tYes) rfl sc_is_group.nd (ki_tup K (pv 1)) (blkOk_by (N := (["by_name", "value", "name"] : List Str)) (sc := defScope s_is_group) (by decide +kernel)) (fun _ _ _ _ _ => (pg_name (i := 2) sc_is_group.nd rfl (by first | exact Or.inl rfl | exact Or.inr rfl))) (fun _ _ _ _ _ => pts_nil) (fun _ _ _ _ _ => (ke_orT K (pe_cmpR (ka_ne K hr.units) (kp_prop (k := 1) P wo K mg base (pe_dget (L2.hu_of hr) (pv 0) (pv 2) (fun _ _ => rfl)) (hr.mono (by decide))) pe_str (nomark _)) (pe_one (ke_fld K (pe_dget (L2.hu_of hr) (pv 0) (pv 2) (fun _ _ => rfl)) rfl))))) pa_nil)))))), ?_⟩
  walk_at "go"
  rcases hv with ⟨p, g, rfl, rfl, hp, hl⟩ | ⟨t, rfl, ht, hk⟩ | ⟨p, xs, rfl, rfl, hp, hl, hs, x0, hx0, hn0⟩
  · have res : grpB cs (some g) = ((((decide (1 ≤ g.length) && decide (g.length ≤ 3)) && (g.all fun n => (colOf cs n).isSome)) && decide g.Nodup) && (g.any fun n => match colOf cs n with | some c => useful c | none => false)) := rfl
    refine g_isi (.ty _) (tyX_same w.sub (tyX_tup hp)) kit_tup ?_
    walk_at "go"
    refine g_lenT w hp ?_
    rw [List.length_map]
    walk_at "go"
    refine iteD (fun h1 => ?_) (fun h1 => ?_)
    · walk_at "go"
      refine iteN (fun h2 => ?_) (fun h2 => ?_)
      · walk_at "go"
        rw [res, decide_eq_false (show ¬ g.length ≤ 3 by omega)] at k
        simp only [Bool.and_false, Bool.false_and] at k
        exact k _ w
      · rw [decide_eq_true (show 1 ≤ g.length by omega), decide_eq_true (show g.length ≤ 3 by omega)] at res
        simp only [Bool.and_self, Bool.true_and] at res
        walk_at "go"
        refine ⟨p, rfl, ⟨_, Evl.ex_t w.sub hp⟩, ?_⟩
        refine lc_it (itf_tup (xs := g.map V.str)) w (fun _ e => Evl.ex_t e hp) (by rw [sizeLine_eq, List.length_map]; omega) (fun i _ acc => acc = ((g.take i).map fun n => (colOf cs n).isSome).map V.bl) rfl ?_ ?_
        · rintro i x Gi acc D H1 H2 hi e nD rfl ha w1 ⟨rfl, hx⟩
          rw [List.getElem?_map] at hx
          obtain ⟨n, hn, rfl⟩ := Option.map_eq_some_iff.mp hx
          walk_at "go"
          refine ⟨rfl, ?_⟩
          walk_at "go"
          refine g_isi (.ty _) (.base (.str n)) kit_str ?_
          walk_at "go"
          refine g_inDk w1 (upd_old (e _ _ hd) nD) ?_
          have e2 : (valV (colKvs cs as) (.inr n)).isSome = (colOf cs n).isSome := by
            rcases colOf_at (n := n) hc with ⟨c, a, q1, q2, _⟩ | ⟨q1, q2⟩ <;> rw [q1, q2] <;> rfl
          rw [e2]
          refine lc_keep (Pv := fun i _ acc => acc = ((g.take i).map fun n => (colOf cs n).isSome).map V.bl) w1 e nD ha hi (by rw [sizeLine_eq, List.length_map]; omega) ?_
          rw [List.take_add_one, hn]
          simp
        · rintro D Gn acc H1 e nD rfl ha w1
          walk_at "go"
          rw [List.length_map, List.take_length] at w1
          refine g_all w1 (SqL.of upd_same) ?_
          rw [all_map]
          replace w1 := w1.drop (Same.trans e (Same.newG nD))
          walk_at "go"
          refine iteBN (fun h3 => ?_) (fun h3 => ?_)
          · walk_at "go"
            rw [res, h3] at k
            simp only [Bool.false_and] at k
            exact k _ w1
          · rw [h3, Bool.true_and] at res
            walk_at "go"
            refine g_rLenSet w1 hp (by omega) ?_
            walk_at "go"
            refine g_lenT w1 hp ?_
            rw [List.length_map]
            refine g_neS rfl ?_
            walk_at "go"
            refine iteN (fun h4 => ?_) (fun h4 => ?_)
            · walk_at "go"
              rw [res, decide_eq_false (fun z => h4 (by rw [(dcnt_nodup g).mpr z]))] at k
              simp only [Bool.false_and] at k
              exact k _ w1
            · have nd : g.Nodup := (dcnt_nodup g).mp (by have := V.int.inj h4; omega)
              rw [decide_eq_true nd, Bool.true_and] at res
              walk_at "go"
              refine ⟨p, rfl, ⟨_, Evl.ex_t w1.sub hp⟩, ?_⟩
              refine lc_it (itf_tup (xs := g.map V.str)) w1 (fun _ e => Evl.ex_t e hp) (by rw [sizeLine_eq, List.length_map]; omega) (fun i _ acc => acc = ((g.take i).map fun n => match colOf cs n with | some c => useful c | none => false).map V.bl) rfl ?_ ?_
              · rintro i x Gi acc D2 H2 H3 hi e2 nD2 rfl ha2 w2 ⟨rfl, hx⟩
                rw [List.getElem?_map] at hx
                obtain ⟨n, hn, rfl⟩ := Option.map_eq_some_iff.mp hx
                have hn3 := List.all_eq_true.mp h3 n (List.mem_of_getElem? hn)
                have hlast : ∀ (b : Bool), b = (match colOf cs n with | some c => useful c | none => false) → (((g.take i).map fun n => match colOf cs n with | some c => useful c | none => false).map V.bl) ++ [V.bl b] = ((g.take (i + 1)).map fun n => match colOf cs n with | some c => useful c | none => false).map V.bl := fun b hb => by
                  rw [List.take_add_one, hn, hb]
                  simp
                walk_at "go"
                refine ⟨rfl, ?_⟩
                walk_at "go"
                rcases colOf_at (n := n) hc with ⟨c, a, q1, q2, q3, q4⟩ | ⟨q1, q2⟩
                · rw [q1] at hlast
                  refine g_dgetE w2 (upd_old (e2 _ _ hd) nD2) q2 ?_
                  refine prop_kind GK w2 (q3.same (Same.trans e2 (Same.newG nD2))) fun H4 w4 => ?_
                  walk_at "go"
                  refine g_neS rfl ?_
                  walk_at "go"
                  have ek : decide (V.str (kstr c.k) = V.str "ref") = decide (c.k = .ref) := by cases c.k <;> decide
                  rw [ek]
                  refine iteN (fun h5 => ?_) (fun h5 => ?_)
                  · rw [decide_eq_false h5]
                    exact lc_keep (Pv := fun i _ acc => acc = ((g.take i).map fun n => match colOf cs n with | some c => useful c | none => false).map V.bl) w4 e2 nD2 ha2 hi (by rw [sizeLine_eq, List.length_map]; omega) (hlast true (by show true = (!decide (c.k = .ref) || c.opt); rw [decide_eq_false h5]; rfl))
                  · walk_at "go"
                    refine g_dgetE w4 (upd_old (e2 _ _ hd) nD2) q2 ?_
                    obtain ⟨dx, hx⟩ := q3.same (Same.trans e2 (Same.newG nD2))
                    refine g_gf w4 hx (CF.cls _) (CF.no _) c.l_opt ?_
                    exact lc_keep (Pv := fun i _ acc => acc = ((g.take i).map fun n => match colOf cs n with | some c => useful c | none => false).map V.bl) w4 e2 nD2 ha2 hi (by rw [sizeLine_eq, List.length_map]; omega) (hlast c.opt (by show c.opt = (!decide (c.k = .ref) || c.opt); rw [decide_eq_true h5]; rfl))
                · rw [q1] at hn3
                  cases hn3
              · rintro D2 Gn2 acc H2 e2 nD2 rfl ha2 w2
                walk_at "go"
                rw [List.length_map, List.take_length] at w2
                refine g_any w2 (SqL.of upd_same) ?_
                rw [any_map]
                rw [res] at k
                exact k _ (w2.drop (Same.trans e2 (Same.newG nD2)))
    · walk_at "go"
      rw [res, decide_eq_false (show ¬ 1 ≤ g.length by omega)] at k
      simp only [Bool.false_and] at k
      exact k _ w
  · refine g_isi (.ty _) (tyX_same w.sub ht) hk ?_
    walk_at "go"
    exact k _ w
  · refine g_isi (.ty _) (tyX_same w.sub (tyX_tup hp)) kit_tup ?_
    walk_at "go"
    refine g_lenT w hp ?_
    walk_at "go"
    refine iteD (fun h1 => ?_) (fun h1 => ?_)
    · walk_at "go"
      refine iteN (fun h2 => ?_) (fun h2 => ?_)
      · walk_at "go"
        exact k _ w
      · walk_at "go"
        refine ⟨p, rfl, ⟨_, Evl.ex_t w.sub hp⟩, ?_⟩
        refine lc_it (itf_tup (xs := xs)) w (fun _ e => Evl.ex_t e hp) (by rw [sizeLine_eq]; omega) (fun i _ acc => ∃ bs : List Bool, acc = bs.map V.bl ∧ ∀ j x, xs[j]? = some x → j < i → NotStr K G x → false ∈ bs) ⟨[], rfl, fun j x _ h => absurd h (Nat.not_lt_zero _)⟩ ?_ ?_
        · rintro i x Gi acc D H1 H2 hi e nD ⟨bs, rfl, hb⟩ ha w1 ⟨rfl, hx⟩
          have keep : ∀ b : Bool, (NotStr K G x → b = false) → (∃ bs' : List Bool, bs.map V.bl ++ [V.bl b] = bs'.map V.bl ∧ ∀ j x, xs[j]? = some x → j < i + 1 → NotStr K G x → false ∈ bs') := fun b hn => by
            refine ⟨bs ++ [b], by simp, fun j y hy hj hn' => ?_⟩
            rw [List.mem_append]
            by_cases h : j < i
            · exact .inl (hb j y hy h hn')
            · have : j = i := by omega
              subst this
              rw [hx] at hy
              cases hy
              exact .inr (by rw [hn hn']; exact List.mem_singleton.mpr rfl)
          walk_at "go"
          refine ⟨rfl, ?_⟩
          walk_at "go"
          rcases hs x (List.mem_of_getElem? hx) with ⟨n, rfl⟩ | hn
          · refine g_isi (.ty _) (.base (.str n)) kit_str ?_
            walk_at "go"
            refine g_inDk w1 (upd_old (e _ _ hd) nD) ?_
            refine lc_keep (Pv := fun i _ acc => ∃ bs : List Bool, acc = bs.map V.bl ∧ ∀ j x, xs[j]? = some x → j < i → NotStr K G x → false ∈ bs) w1 e nD ha hi (by rw [sizeLine_eq]; omega) (keep _ fun ⟨t, ht, hk⟩ => ?_)
            cases ht with
            | base ht =>
              cases ht
              rw [kit_str] at hk
              cases hk
          · obtain ⟨t, ht, hk⟩ := hn.same (Same.trans e (Same.newG nD))
            refine g_isi (.ty _) (tyX_same w1.sub ht) hk ?_
            walk_at "go"
            exact lc_keep (Pv := fun i _ acc => ∃ bs : List Bool, acc = bs.map V.bl ∧ ∀ j x, xs[j]? = some x → j < i → NotStr K G x → false ∈ bs) w1 e nD ha hi (by rw [sizeLine_eq]; omega) (keep _ fun _ => rfl)
        · rintro D Gn acc H1 e nD ⟨bs, rfl, hb⟩ ha w1
          obtain ⟨j, hj⟩ := List.getElem?_of_mem hx0
          have hf : bs.all id = false := by
            rw [List.all_eq_false]
            exact ⟨false, hb j x0 hj (List.getElem?_eq_some_iff.mp hj).1 hn0, by simp⟩
          walk_at "go"
          refine g_all w1 (SqL.of upd_same) ?_
          rw [hf]
          walk_at "go"
          exact k _ (w1.drop (Same.trans e (Same.newG nD)))
    · walk_at "go"
      exact k _ w
end
end Sv


set_option Elab.async false
set_option linter.all false
set_option maxRecDepth 100000
set_option maxHeartbeats 4000000
namespace Sv
open PySem PySem.Spec PyProof.Rows L2 Sw
local macro_rules | `(tactic| walk_at "go1") => `(tactic| first
  | ((with_reducible refine' g_var ?hv ?_); (case hv => rfl))
  | with_reducible refine g_c ?_
  | with_reducible refine g_op ?_
  | with_reducible refine g_un ?_
  | with_reducible refine g_seq ?_
  | with_reducible refine g_next ?_
  | with_reducible refine g_asg ?_
  | with_reducible refine g_name ?_
  | with_reducible refine g_drop ?_
  | with_reducible refine g_sub ?_
  | with_reducible refine g_ret ?_
  | with_reducible refine g_retN ?_
  | with_reducible refine g_ifS ?_
  | with_reducible refine g_if ?_
  | with_reducible refine g_test ?_
  | with_reducible refine g_bl ?_
  | with_reducible refine g_cons ?_
  | with_reducible refine g_nil ?_
  | with_reducible refine g_and ?_
  | with_reducible refine g_or ?_
  | with_reducible refine g_not ?_
  | with_reducible refine g_callB ?_
  | with_reducible refine g_addI ?_
  | with_reducible refine g_I0 ?_
  | with_reducible refine g_calG ?_
  | with_reducible refine g_mkG ?_
  | with_reducible refine g_tup ?_
  | with_reducible refine g_pairs1 ?_
  | with_reducible refine g_pairs0 ?_
  | with_reducible refine g_dget ?_
  | with_reducible refine g_lvals ?_
  | with_reducible refine g_forT ?_
  | with_reducible refine g_lcT ?_
  | with_reducible refine g_dput ?_
  | with_reducible refine g_lc2L ?_
  | with_reducible refine g_iList ?_
  | with_reducible refine g_lcX ?_
  | with_reducible refine g_js1 ?_
  | with_reducible refine g_js0 ?_
  | with_reducible refine g_fmt ?_
  | with_reducible refine g_tLenSet ?_
  | with_reducible refine g_mkV ?_
  | with_reducible refine g_mkV1 ?_
  | with_reducible refine g_lst ?_
  | with_reducible refine g_forL ?_
  | with_reducible refine g_forR ?_
  | with_reducible refine g_forR2 ?_
  | with_reducible refine g_forS ?_
  | with_reducible refine g_forE ?_
  | with_reducible refine g_lcL ?_
  | with_reducible refine g_lcR ?_
  | with_reducible refine g_lcS ?_
  | with_reducible refine g_lcE ?_
  | with_reducible refine g_orT ?_
  | with_reducible refine g_slc ?_
  | with_reducible refine g_noPart ?_
  | with_reducible refine g_part ?_
  | with_reducible refine g_bm ?_
  | with_reducible refine g_par ?_
  | with_reducible refine g_yes ?_
  | with_reducible refine g_tupG ?_
  | with_reducible refine g_lstG ?_
  | with_reducible refine g_gcons ?_
  | with_reducible refine g_gnil ?_
  | with_reducible refine g_chain ?_
  | with_reducible refine g_truB ?_
  | with_reducible refine g_truN ?_
  | with_reducible refine g_truI ?_
  | with_reducible refine g_m1 ?_
  | with_reducible refine g_fld ?_
  | with_reducible refine g_con ?_
  | with_reducible refine g_tru ?_
  | with_reducible refine g_U ?_
  | with_reducible refine g_xg ?_
  | with_reducible refine g_andT ?_
  | with_reducible refine g_exI ?_
  | with_reducible refine g_dnew ?_
  | with_reducible refine g_intB ?_
  | with_reducible refine g_meth ?_
  | with_reducible refine g_prop ?_
  | with_reducible refine g_exc1 ?_
  | with_reducible refine g_setF ?_
  | with_reducible refine g_star ?_
  | with_reducible refine g_strM ?_
  | with_reducible refine iteT ?_
  | with_reducible refine iteF ?_
  | with_reducible refine iteNT ?_
  | with_reducible refine iteNF ?_)
local macro_rules | `(tactic| walk_at "go") => `(tactic| repeat (walk_at "go1"))
local macro_rules | `(tactic| walk_at "sz") => `(tactic| (first | (rw [sizeLine_eq]; simp only [List.length_cons, List.length_nil, List.length_map, List.length_append, List.length_take]; omega) | (rw [sizeLine_eq]; omega)))
/-! ### Table.__init__ -/
def firstDup : List Str → List Str → Option Str
  | _, [] => none
  | seen, n :: r => if n ∈ seen then some n else firstDup (seen ++ [n]) r
theorem firstDup_in {seen l r : List Str} {n : Str} (h : n ∈ seen) (e : l = n :: r) : firstDup seen l = some n := by
  rw [e, firstDup, if_pos h]
theorem firstDup_out {seen l r : List Str} {n : Str} (h : n ∉ seen) (e : l = n :: r) : firstDup seen l = firstDup (seen ++ [n]) r := by
  rw [e, firstDup, if_neg h]
inductive TRes where
  | name | col (n : Option Str) | grp (i : Nat) | ok
def tabRes (b : Bool) (cs : List Col) (os : List (Option (List Str))) : TRes :=
  if b = false then .name else match firstDup [] (cs.map Col.name) with
    | some n => .col (some n)
    | none => if cs = [] then .col none else match os.findIdx? fun o => !grpB cs o with
      | some i => .grp i
      | none => .ok
def XQ (G : Hp) (R : Res) (C : Addr) (fld : Str) (v : V) (E : XK) : Prop := ∀ G' d H', Same G G' → G d = none → G' d = some (.xd [(fld, v)]) → Wd G' R H' → E (.ref C) (some d) H'
theorem XQ.raise {G G1 H : Hp} {R : Res} {C : Addr} {fld : Str} {v : V} {E : XK} (k : XQ G R C fld v E) (w : Wd G1 R H) (e : Same G G1) : ∃ v', [v] = [v'] ∧ ∀ d, H d = none → E (.ref C) (some d) (upd H d (.xd [(fld, v')])) :=
  ⟨v, rfl, fun d hd => k _ d _ (Same.trans e (Same.newG (w.free hd))) (Same.free e (w.free hd)) upd_same (w.new hd)⟩
def optV : Option Str → V
  | some n => .str n
  | none => .non
structure TabF (K : PySem.W.Frag) (A : Ad) : Prop where
  cT : Cls K A.Table
  nn : NoAttr K A.Table "name"
  nb : NoAttr K A.Table "by_name"
  ng : NoAttr K A.Table "own_groups"
  cS : Cls K A.Schema
  sb : NoAttr K A.Schema "by_name"
theorem colKvs_len {cs : List Col} {as : List Addr} : (colKvs cs as).length ≤ cs.length := by
  unfold colKvs
  rw [List.length_map, List.length_zip]
  exact Nat.min_le_left _ _
theorem colKvs_take {A : Ad} {G : Hp} {cs : List Col} {as : List Addr} (h : ColsAt A G cs as) {i : Nat} {c : Col} {a : Addr} (hc : cs[i]? = some c) (ha : as[i]? = some a) : colKvs (cs.take (i + 1)) (as.take (i + 1)) = colKvs (cs.take i) (as.take i) ++ [(Sum.inr c.name, V.ref a)] := by
  unfold colKvs
  rw [List.take_add_one, List.take_add_one, hc, ha]
  have l : (cs.take i).length = (as.take i).length := by
    rw [List.length_take, List.length_take, Sw.Paired.len h]
  rw [Option.toList_some, Option.toList_some, List.zip_append l, List.map_append]
  rfl
theorem ColsAt.take {A : Ad} {G : Hp} : ∀ {cs : List Col} {as : List Addr} (_ : ColsAt A G cs as) (i : Nat), ColsAt A G (cs.take i) (as.take i)
  | _, _, .nil, i => by rw [List.take_nil, List.take_nil]; exact .nil
  | _, _, .cons _ _, 0 => .nil
  | _, _, .cons r t, i + 1 => .cons r (ColsAt.take t i)
theorem valV_names {A : Ad} {G : Hp} {cs : List Col} {as : List Addr} (h : ColsAt A G cs as) (n : Str) : (valV (colKvs cs as) (.inr n)).isSome = decide (n ∈ cs.map Col.name) := by
  rcases colOf_at (n := n) h with ⟨c, a, q1, q2, q3, q4⟩ | ⟨q1, q2⟩
  · rw [q2]
    have : c.name = n := by
      have := List.find?_some q1
      simpa using this
    rw [decide_eq_true (List.mem_map.mpr ⟨c, q4, this⟩)]
    rfl
  · rw [q2]
    have : n ∉ cs.map Col.name := fun z => by
      obtain ⟨c, hc, e⟩ := List.mem_map.mp z
      have := List.find?_eq_none.mp q1 c hc
      simp [e] at this
    rw [decide_eq_false this]
    rfl
theorem putK_new {kvs : List (Key × V)} {k : Key} {v : V} (h : valV kvs k = none) : putK kvs k v = kvs ++ [(k, v)] := by
  unfold putK
  rw [if_neg]
  rw [valV_any, h]
  exact Bool.false_ne_true
def TabQ (G : Hp) (R : Res) (A : Ad) (x dx : Addr) (v : V) (cs : List Col) (as : List Addr) (us : List V) (Q : VK) : Prop :=
  ∀ d gl G' H', G d = none → G gl = none → Same G G' → G' x = some (.ins A.Table dx [("name", v), ("by_name", .ref d), ("own_groups", .ref gl)]) → G' d = some (.dK (colKvs cs as)) → G' gl = some (.lst us) → Wd G' R H' → Q .non H'
def spTabInit (K : PySem.W.Frag) (A : Ad) : Sp := fun vs H Q E => ∃ G R x dx v b p q cs as us os, vs = [.ref x, v, .ref q, .ref p] ∧ G x = none ∧ Wd (upd G x (.ins A.Table dx [])) R H ∧ SqT K G p (as.map V.ref) ∧ ColsAt A G cs as ∧ Nmb K G v b ∧ SqL K G q us ∧ Paired (fun u o => GrpV K G u o) us os ∧ as.length ≤ 1000 ∧ us.length ≤ 1000 ∧
  match tabRes b cs os with
  | .name => XQ G R A.InvalidName "name" v E
  | .col o => XQ G R A.InvalidColumn "name" (optV o) E
  | .grp i => XQ G R A.InvalidGroup "index" (.int (i : Nat)) E
  | .ok => TabQ G R A x dx v cs as us Q
section
variable {P : Program} {wo : World} {A : Ad} {K : PySem.W.Frag} {mg : Str → Option Value} {base : Heap}
theorem sc_Table___init__ : FnScope (["self", "name", "unique", "columns", "by_name", "column", "index", "group"] : List Str) (["self", "name", "unique", "columns"] : List Str) (defScope s_Table___init__) := ⟨rfl, rfl, rfl, by decide +kernel, rfl, by decide +kernel, by decide +kernel⟩
theorem tab_body {f : Addr} {cdv : Value} {Ar : Around} {outer : List Env} {s : Shared} {H : Hp} {vs : List V} {Q : VK} {E : XK} (T : Txt K mg A) (CF : ColF K A) (TF : TabF K A)
    (Gn : GFn P wo K mg base 1 "is_name" 1 [] (fun vs _ => spIsName K vs)) (Gig : GFn P wo K mg base 3 "is_group" 2 [] (fun vs _ => spIsGroup K A vs))
    (XN : Exc1 P wo K mg base "InvalidName" A.InvalidName "name") (XC : Exc1 P wo K mg base "InvalidColumn" A.InvalidColumn "name") (XG : Exc1 P wo K mg base "InvalidGroup" A.InvalidGroup "index")
    (hr : Room 3 (Ar.deeper (envOfC "Table.__init__" (defScope s_Table___init__) s.heap.objs.size f cdv)))
    (tk : Takes (cxOf (L2.CX P wo) P wo K mg base (["self", "name", "unique", "columns", "by_name", "column", "index", "group"] : List Str) "Table.__init__" (defScope s_Table___init__) f cdv Ar outer s H E) (fun cls d _ H => E cls d H))
    (po : PassesOwn (model P wo) (Ar.deeper (envOfC "Table.__init__" (defScope s_Table___init__) s.heap.objs.size f cdv)) (envOfC "Table.__init__" (defScope s_Table___init__) s.heap.objs.size f cdv) (cxOf (L2.CX P wo) P wo K mg base (["self", "name", "unique", "columns", "by_name", "column", "index", "group"] : List Str) "Table.__init__" (defScope s_Table___init__) f cdv Ar outer s H E).xe)
    (h : spTabInit K A vs H Q E) :
    ∃ t, PSs (cxOf (L2.CX P wo) P wo K mg base (["self", "name", "unique", "columns", "by_name", "column", "index", "group"] : List Str) "Table.__init__" (defScope s_Table___init__) f cdv Ar outer s H E) (defBody s_Table___init__) t ∧ t { nx := fun _ H' => Q .non H', rt := Q } (L2.start (["self", "name", "unique", "columns", "by_name", "column", "index", "group"] : List Str) vs) H := by
  obtain ⟨G, R, x, dx, v, b, p, q, cs, as, us, os, rfl, nx, w, hp, hc, hn, hq, hu, la, lu, k⟩ := h
  refine ⟨_, (pss_cons (ps_if (pt_not (kt_truth K (pe_callG Gn (hr.mono (by decide)) tk (pa_cons (pv 1) pa_nil) pk_nil) (by intro _; rfl))) (pss_one (ps_raise rfl tk (pmk_exc1 XN (hr.mono (by decide)) (pa_cons (pv 1) pa_nil)))) pss_nil)
      (pss_cons (ps_set (i := 4) sc_Table___init__.nd rfl (by first | exact Or.inl rfl | exact Or.inr rfl) pe_dnewK)
      (pss_cons (ps_for po rfl (ki_tup K (pv 3)) (pg_name (i := 5) sc_Table___init__.nd rfl (by first | exact Or.inl rfl | exact Or.inr rfl)) (pss_cons (ps_if (pt_cmpR (op_inDk (L2.hu_of hr)) (ke_fld K (pv 5) rfl) (pv 4) (by first | exact nomark _ | rfl)) (pss_one (ps_raise rfl tk (pmk_exc1 XC (hr.mono (by decide)) (pa_cons (ke_fld K (pv 5) rfl) pa_nil)))) pss_nil)
      (pss_one (ps_dput (L2.hu_of hr) (pv 4) (ke_fld K (pv 5) rfl) (pv 5) rfl))))
      (pss_cons (ps_if (pt_cmpR (op_eqDE hr.units0) (pv 4) pe_dnewK (nomark _)) (pss_one (ps_raise rfl tk (pmk_exc1 XC (hr.mono (by decide)) (pa_cons pe_non pa_nil)))) pss_nil)
      (pss_cons (ps_for po rfl (pi_enum (by rfl) T.nb_enumerate (pa_cons (pv 2) pa_nil)) (kg_tup (n := 2) K rfl (pgs_cons (pg_name (i := 6) sc_Table___init__.nd rfl (by first | exact Or.inl rfl | exact Or.inr rfl)) (pgs_cons (pg_name (i := 7) sc_Table___init__.nd rfl (by first | exact Or.inl rfl | exact Or.inr rfl)) pgs_nil))) (pss_one (ps_if (pt_not (kt_truth K (pe_callG Gig (hr.mono (by decide)) tk (pa_cons (pv 4) (pa_cons (pv 7) pa_nil)) pk_nil) (by intro _; rfl))) (pss_one (ps_raise rfl tk (pmk_exc1 XG (hr.mono (by decide)) (pa_cons (pv 6) pa_nil)))) pss_nil)))
      (pss_cons (ps_fld (pv 0) (pv 1) rfl)
      (pss_cons (ps_fld (pv 0) (pv 4) rfl)
      (pss_one (ps_fld (pv 0) (pe_callTy (ka_list K) (by rfl) T.nb_list (by decide +kernel) (pa_cons (pv 2) pa_nil)) rfl))))))))), ?_⟩
  have sx : Same G (upd G x (.ins A.Table dx [])) := Same.newG nx
  have hx : upd G x (.ins A.Table dx []) x = some (.ins A.Table dx []) := upd_same
  walk_at "go"
  refine ⟨rfl, rfl, ((hn.same sx).same w.sub).is fun H1 e1 => ?_⟩
  replace w := w.same e1
  walk_at "go"
  refine iteBN (fun e => ?_) (fun e => ?_)
  · subst e
    walk_at "go"
    exact XQ.raise k w sx
  subst e
  walk_at "go"
  refine g_new w fun d H2 nd w => ?_
  walk_at "go"
  refine ⟨p, rfl, ⟨_, Evl.ex_t w.sub (Evl.ex_t (Same.trans sx (Same.newG nd)) hp)⟩, ?_⟩
  have ncs : (cs.map Col.name).length = as.length := by rw [List.length_map]; exact Sw.Paired.len hc
  generalize upd G x (.ins A.Table dx []) = G1 at *
  refine for_it (itf_tup (xs := as.map V.ref)) (fun i σ' H' => ∃ y5, σ' = [some (.ref x), some v, some (.ref q), some (.ref p), some (.ref d), y5, none, none] ∧ firstDup [] (cs.map Col.name) = firstDup ((cs.map Col.name).take i) ((cs.map Col.name).drop i) ∧ Wd (upd G1 d (.dK (colKvs (cs.take i) (as.take i)))) R H') ⟨_, rfl, rfl, w⟩ (fun i σ' H' _ h => ?_) ?_ ?_
  · obtain ⟨_, _, _, w⟩ := h
    exact Evl.ex_t w.sub (Evl.ex_t (Same.trans sx (Same.newG nd)) hp)
  · rintro i y σ' H3 H4 hi ⟨y5, rfl, hd1, w⟩ ⟨rfl, hy⟩
    rw [List.getElem?_map] at hy
    obtain ⟨a, ha, rfl⟩ := Option.map_eq_some_iff.mp hy
    obtain ⟨c, hci, hca⟩ := Sw.Paired.atR hc ha
    have S1 : Same G (upd G1 d (.dK (colKvs (cs.take i) (as.take i)))) := Same.trans sx (Same.newG nd)
    obtain ⟨cx, hcx⟩ := hca.same S1
    have hnm : (cs.map Col.name)[i]? = some c.name := by rw [List.getElem?_map, hci]; rfl
    have hdr : (cs.map Col.name).drop i = c.name :: (cs.map Col.name).drop (i + 1) := by
      have := List.drop_eq_getElem_cons (List.getElem?_eq_some_iff.mp hnm).1
      rw [(List.getElem?_eq_some_iff.mp hnm).2] at this
      exact this
    walk_at "go"
    refine g_gf w hcx (CF.cls _) (CF.na _) c.l_name ?_
    walk_at "go"
    refine g_inDk w upd_same ?_
    rw [valV_names (hc.take i)]
    walk_at "go"
    refine iteD (fun h1 => ?_) (fun h1 => ?_)
    · walk_at "go"
      refine g_gf w hcx (CF.cls _) (CF.na _) c.l_name ?_
      walk_at "go"
      have e : firstDup [] (cs.map Col.name) = some c.name := by rw [hd1]; exact firstDup_in (by rw [List.map_take] at h1; exact h1) hdr
      have ek : tabRes true cs os = .col (some c.name) := by
        unfold tabRes
        rw [if_neg (by decide), e]
      rw [ek] at k
      exact XQ.raise k w S1
    · walk_at "go"
      refine g_gf w hcx (CF.cls _) (CF.na _) c.l_name ?_
      have nv : valV (colKvs (cs.take i) (as.take i)) (.inr c.name) = none := by
        have := valV_names (hc.take i) c.name
        rw [decide_eq_false h1] at this
        cases hv : valV (colKvs (cs.take i) (as.take i)) (.inr c.name) with
        | none => rfl
        | some z => rw [hv] at this; cases this
      refine g_dputE w upd_same (by have := colKvs_len (cs := cs.take i) (as := as.take i); rw [List.length_take] at this; rw [sizeLine_eq]; have := Sw.Paired.len hc; omega) fun H5 w => ?_
      rw [upd_upd, putK_new nv, ← colKvs_take hc hci ha] at w
      refine ⟨_, rfl, ?_, w⟩
      rw [hd1, firstDup_out (by rw [List.map_take] at h1; exact h1) hdr, List.take_add_one, hnm]
      rfl
  · rintro σ' H3 ⟨y5, rfl, hd1, w⟩
    have e0 : firstDup [] (cs.map Col.name) = none := by
      rw [hd1, List.length_map, ← ncs, List.drop_length]
      rfl
    rw [List.length_map] at w
    rw [List.take_of_length_le (by rw [← ncs, List.length_map]; omega), List.take_of_length_le (Nat.le_refl _)] at w
    walk_at "go"
    refine g_new w fun d2 H4 n2 w2 => ?_
    refine g_eqDE w2 (upd_old upd_same n2) upd_same ?_
    replace w := w2.drop (Same.newG n2)
    clear w2
    have ee : (colKvs cs as).isEmpty = decide (cs = []) := by
      cases hc with
      | nil => rfl
      | cons _ _ => rfl
    rw [ee]
    walk_at "go"
    refine iteD (fun h1 => ?_) (fun h1 => ?_)
    · walk_at "go"
      have ek : tabRes true cs os = .col none := by
        unfold tabRes
        rw [if_neg (by decide), e0]
        exact if_pos h1
      rw [ek] at k
      exact XQ.raise (v := .non) k w (Same.trans sx (Same.newG nd))
    · walk_at "go"
      have S1 : Same G (upd G1 d (.dK (colKvs cs as))) := Same.trans sx (Same.newG nd)
      refine ⟨q, us, rfl, Evl.ex_l w.sub (Evl.ex_l S1 hq), ?_⟩
      refine for_it (itf_enum (xs := us)) (fun i σ' H' => ∃ y6 y7, σ' = [some (.ref x), some v, some (.ref q), some (.ref p), some (.ref d), y5, y6, y7] ∧ (∀ o ∈ os.take i, grpB cs o = true) ∧ Wd (upd G1 d (.dK (colKvs cs as))) R H') ⟨_, _, rfl, fun o z => (nomatch z), w⟩ (fun i σ' H' _ h => ?_) ?_ ?_
      · obtain ⟨_, _, _, _, w⟩ := h
        exact Evl.ex_l w.sub (Evl.ex_l S1 hq)
      · rintro i y σ' H5 H6 hi ⟨y6, y7, rfl, hg, w⟩ ⟨T', u, rfl, nT, rfl, hu1⟩
        obtain ⟨o, ho, hgv⟩ := Sw.Paired.at hu hu1
        have wT := w.new (o := .tup [.int (i : Nat), u]) nT
        have nT' := w.free nT
        have sT : Same G (upd (upd G1 d (.dK (colKvs cs as))) T' (.tup [.int (i : Nat), u])) := Same.trans S1 (Same.newG nT')
        walk_at "go"
        refine ⟨T', _, rfl, SqT.of (wT.get upd_same), rfl, ?_⟩
        walk_at "go"
        refine ⟨rfl, rfl, _, R, d, cs, as, u, o, rfl, wT, upd_old upd_same nT', hc.same sT, hgv.same sT, fun H7 w7 => ?_⟩
        walk_at "go"
        refine iteBN (fun h2 => ?_) (fun h2 => ?_)
        · walk_at "go"
          have ek : tabRes true cs os = .grp i := by
            unfold tabRes
            rw [if_neg (by decide), e0]
            simp only [if_neg h1]
            have : os.findIdx? (fun o => !grpB cs o) = some i := by
              rw [List.findIdx?_eq_some_iff_getElem]
              have hi' := (List.getElem?_eq_some_iff.mp ho)
              refine ⟨hi'.1, by rw [hi'.2, h2]; rfl, fun j hj => ?_⟩
              have hj' : j < os.length := by have := hi'.1; omega
              have := hg os[j] (List.mem_take_iff_getElem.mpr ⟨j, by omega, rfl⟩)
              rw [this]
              simp
            rw [this]
          rw [ek] at k
          exact XQ.raise k w7 sT
        · walk_at "go"
          refine ⟨_, _, rfl, fun o' ho' => ?_, w7.drop (Same.newG nT')⟩
          rw [List.take_add_one, ho] at ho'
          rcases List.mem_append.mp ho' with z | z
          · exact hg o' z
          · have : o' = o := by simpa using z
            rw [this]; exact h2
      · rintro σ' H5 ⟨y6, y7, rfl, hg, w⟩
        have ek : tabRes true cs os = .ok := by
          unfold tabRes
          rw [if_neg (by decide), e0]
          simp only [if_neg h1]
          have : os.findIdx? (fun o => !grpB cs o) = none := by
            rw [List.findIdx?_eq_none_iff]
            intro o ho
            rw [hg o (by rw [List.take_of_length_le (by rw [Sw.Paired.len hu]; omega)]; exact ho)]
            rfl
          rw [this]
        rw [ek] at k
        have nxd : x ≠ d := ne_of_none hx nd
        walk_at "go"
        refine g_sf w (upd_old hx nd) TF.cT TF.nn (show 0 < 1000 by decide) fun H6 w => ?_
        rw [putF_nil] at w
        walk_at "go"
        refine g_sf w upd_same TF.cT TF.nb (show 1 < 1000 by decide) fun H7 w => ?_
        rw [upd_upd, putF_ne (by decide +kernel), putF_nil] at w
        walk_at "go"
        have S2 : ∀ o, Same G (upd (upd G1 d (.dK (colKvs cs as))) x o) := fun o => Same.setL S1 nx
        refine g_listL w (Evl.ex_l (S2 _) hq) fun gl H8 ngl w => ?_
        walk_at "go"
        refine g_sf w (upd_old upd_same ngl) TF.cT TF.ng (show 2 < 1000 by decide) fun H9 w => ?_
        rw [putF_ne (by decide +kernel), putF_ne (by decide +kernel), putF_nil] at w
        have nxg : x ≠ gl := ne_of_none upd_same ngl
        have ndg : d ≠ gl := ne_of_none (upd_oth upd_same nxd.symm) ngl
        refine k d gl _ H9 (Same.free sx nd) (Same.free (S2 _) ngl) ?_ upd_same ?_ ?_ w
        · exact Same.setL (Same.trans (S2 _) (Same.newG ngl)) nx
        · rw [upd_ne nxd.symm, upd_ne ndg, upd_ne nxd.symm]; exact upd_same
        · rw [upd_ne nxg.symm]; exact upd_same
end
end Sv


set_option Elab.async false
set_option linter.all false
set_option maxRecDepth 100000
set_option maxHeartbeats 4000000
namespace Sv
open PySem PySem.Spec PyProof.Rows L2 Sw
local macro_rules | `(tactic| walk_at "go1") => `(tactic| first
  | ((with_reducible refine' g_var ?hv ?_); (case hv => rfl))
  | with_reducible refine g_c ?_
  | with_reducible refine g_op ?_
  | with_reducible refine g_un ?_
  | with_reducible refine g_seq ?_
  | with_reducible refine g_next ?_
  | with_reducible refine g_asg ?_
  | with_reducible refine g_name ?_
  | with_reducible refine g_drop ?_
  | with_reducible refine g_sub ?_
  | with_reducible refine g_ret ?_
  | with_reducible refine g_retN ?_
  | with_reducible refine g_ifS ?_
  | with_reducible refine g_if ?_
  | with_reducible refine g_test ?_
  | with_reducible refine g_bl ?_
  | with_reducible refine g_cons ?_
  | with_reducible refine g_nil ?_
  | with_reducible refine g_and ?_
  | with_reducible refine g_or ?_
  | with_reducible refine g_not ?_
  | with_reducible refine g_callB ?_
  | with_reducible refine g_addI ?_
  | with_reducible refine g_I0 ?_
  | with_reducible refine g_calG ?_
  | with_reducible refine g_mkG ?_
  | with_reducible refine g_tup ?_
  | with_reducible refine g_pairs1 ?_
  | with_reducible refine g_pairs0 ?_
  | with_reducible refine g_dget ?_
  | with_reducible refine g_lvals ?_
  | with_reducible refine g_forT ?_
  | with_reducible refine g_lcT ?_
  | with_reducible refine g_dput ?_
  | with_reducible refine g_lc2L ?_
  | with_reducible refine g_iList ?_
  | with_reducible refine g_lcX ?_
  | with_reducible refine g_js1 ?_
  | with_reducible refine g_js0 ?_
  | with_reducible refine g_fmt ?_
  | with_reducible refine g_tLenSet ?_
  | with_reducible refine g_mkV ?_
  | with_reducible refine g_mkV1 ?_
  | with_reducible refine g_lst ?_
  | with_reducible refine g_forL ?_
  | with_reducible refine g_forR ?_
  | with_reducible refine g_forR2 ?_
  | with_reducible refine g_forS ?_
  | with_reducible refine g_forE ?_
  | with_reducible refine g_lcL ?_
  | with_reducible refine g_lcR ?_
  | with_reducible refine g_lcS ?_
  | with_reducible refine g_lcE ?_
  | with_reducible refine g_orT ?_
  | with_reducible refine g_slc ?_
  | with_reducible refine g_noPart ?_
  | with_reducible refine g_part ?_
  | with_reducible refine g_bm ?_
  | with_reducible refine g_par ?_
  | with_reducible refine g_yes ?_
  | with_reducible refine g_tupG ?_
  | with_reducible refine g_lstG ?_
  | with_reducible refine g_gcons ?_
  | with_reducible refine g_gnil ?_
  | with_reducible refine g_chain ?_
  | with_reducible refine g_truB ?_
  | with_reducible refine g_truN ?_
  | with_reducible refine g_truI ?_
  | with_reducible refine g_m1 ?_
  | with_reducible refine g_fld ?_
  | with_reducible refine g_con ?_
  | with_reducible refine g_tru ?_
  | with_reducible refine g_U ?_
  | with_reducible refine g_xg ?_
  | with_reducible refine g_andT ?_
  | with_reducible refine g_exI ?_
  | with_reducible refine g_dnew ?_
  | with_reducible refine g_intB ?_
  | with_reducible refine g_meth ?_
  | with_reducible refine g_prop ?_
  | with_reducible refine g_exc1 ?_
  | with_reducible refine g_setF ?_
  | with_reducible refine g_star ?_
  | with_reducible refine g_strM ?_
  | with_reducible refine iteT ?_
  | with_reducible refine iteF ?_
  | with_reducible refine iteNT ?_
  | with_reducible refine iteNF ?_)
local macro_rules | `(tactic| walk_at "go") => `(tactic| repeat (walk_at "go1"))
local macro_rules | `(tactic| walk_at "sz") => `(tactic| (first | (rw [sizeLine_eq]; simp only [List.length_cons, List.length_nil, List.length_map, List.length_append, List.length_take]; omega) | (rw [sizeLine_eq]; omega)))
/-! ### tables -/
def tabFs (nm : V) (d gl : Addr) : List (Str × V) := [("name", nm), ("by_name", .ref d), ("own_groups", .ref gl)]
theorem tf_nm {nm : V} {d gl : Addr} : (tabFs nm d gl).lookup ("name" : Str) = some nm := lk_eq
theorem tf_by {nm : V} {d gl : Addr} : (tabFs nm d gl).lookup ("by_name" : Str) = some (.ref d) := by unfold tabFs; rw [lk_ne (by decide +kernel), lk_eq]
theorem tf_gr {nm : V} {d gl : Addr} : (tabFs nm d gl).lookup ("own_groups" : Str) = some (.ref gl) := by unfold tabFs; rw [lk_ne (by decide +kernel), lk_ne (by decide +kernel), lk_eq]
theorem tf_col {nm : V} {d gl : Addr} : (tabFs nm d gl).lookup ("columns" : Str) = none := by unfold tabFs; rw [lk_ne (by decide +kernel), lk_ne (by decide +kernel), lk_ne (by decide +kernel)]; rfl
theorem tf_lines {nm : V} {d gl : Addr} : (tabFs nm d gl).lookup ("lines" : Str) = none := by unfold tabFs; rw [lk_ne (by decide +kernel), lk_ne (by decide +kernel), lk_ne (by decide +kernel)]; rfl
structure Tab where
  name : Str
  cols : List Col
  groups : List (List Str)
def GrpsAt (K : PySem.W.Frag) (G : Hp) (gs : List (List Str)) (us : List V) : Prop := Paired (fun g u => ∃ p, u = V.ref p ∧ SqT K G p (g.map V.str)) gs us
theorem GrpsAt.same {K : PySem.W.Frag} {G G' : Hp} {gs : List (List Str)} {us : List V} (h : GrpsAt K G gs us) (e : Same G G') : GrpsAt K G' gs us := Sw.Paired.imp (fun _ _ ⟨p, h1, h2⟩ => ⟨p, h1, Evl.ex_t e h2⟩) h
def TabAt (K : PySem.W.Frag) (A : Ad) (G : Hp) (a : Addr) (t : Tab) : Prop := ∃ dx d gl as us, G a = some (.ins A.Table dx (tabFs (.str t.name) d gl)) ∧ G d = some (.dK (colKvs t.cols as)) ∧ ColsAt A G t.cols as ∧ G gl = some (.lst us) ∧ GrpsAt K G t.groups us
theorem TabAt.same {K : PySem.W.Frag} {A : Ad} {G G' : Hp} {a : Addr} {t : Tab} (h : TabAt K A G a t) (e : Same G G') : TabAt K A G' a t := by
  obtain ⟨dx, d, gl, as, us, h1, h2, h3, h4, h5⟩ := h
  exact ⟨dx, d, gl, as, us, e _ _ h1, e _ _ h2, h3.same e, e _ _ h4, h5.same e⟩
structure Tab.ok (t : Tab) : Prop where
  nm : isNm t.name = true
  co : ∀ c ∈ t.cols, c.ok
  gr : ∀ g ∈ t.groups, isGrp t.cols g = true
  lc : t.cols.length ≤ 1000
  lg : t.groups.length ≤ 1000
  nd : firstDup [] (t.cols.map Col.name) = none
  ne : t.cols ≠ []
def grpText (g : List Str) : Str := Txt.join " " ("unique" :: g)
def Tab.lines (t : Tab) : List Str := (("table " : Str) ++ t.name) :: t.cols.map Col.text ++ t.groups.map grpText
theorem str_app_nil (s : Str) : Str.empty ++ s = s := by
  show (⟨#[] ++ s.cps⟩ : Str) = s
  rw [Array.empty_append]
theorem mem_colOf {cs : List Col} {n : Str} (h : (colOf cs n).isSome = true) : ∃ c ∈ cs, c.name = n := by
  obtain ⟨c, hc⟩ := Option.isSome_iff_exists.mp h
  refine ⟨c, List.mem_of_find?_eq_some hc, ?_⟩
  have := List.find?_some hc
  simpa using this
theorem isGrp_names {cs : List Col} {g : List Str} (ok : ∀ c ∈ cs, c.ok) (h : isGrp cs g = true) : g.length ≤ 3 ∧ ∀ n ∈ g, isNm n = true := by
  unfold isGrp at h
  simp only [Bool.and_eq_true, decide_eq_true_eq] at h
  refine ⟨h.1.1.1.2, fun n hn => ?_⟩
  obtain ⟨c, hc, e⟩ := mem_colOf (List.all_eq_true.mp h.1.1.2 n hn)
  rw [← e]
  exact (ok c hc).1
theorem grp_size {g : List Str} (h1 : g.length ≤ 3) (h2 : ∀ n ∈ g, isNm n = true) : ((((("unique" : Str) :: g).map (·.length)).sum + (("unique" : Str) :: g).length * (" " : Str).length) ≤ 40) := by
  match g, h1, h2 with
  | [], _, _ => decide
  | [a], _, h2 =>
    have := isNm_len (h2 a (by simp))
    show 6 + (a.length + 0) + 2 * 1 ≤ 40
    omega
  | [a, b], _, h2 =>
    have := isNm_len (h2 a (by simp))
    have := isNm_len (h2 b (by simp))
    show 6 + (a.length + (b.length + 0)) + 3 * 1 ≤ 40
    omega
  | [a, b, c], _, h2 =>
    have := isNm_len (h2 a (by simp))
    have := isNm_len (h2 b (by simp))
    have := isNm_len (h2 c (by simp))
    show 6 + (a.length + (b.length + (c.length + 0))) + 4 * 1 ≤ 40
    omega
section
variable {P : Program} {wo : World} {A : Ad} {K : PySem.W.Frag} {mg : Str → Option Value} {base : Heap}
theorem prop_text {G H : Hp} {R : Res} {a : Addr} {c : Col} {Q : VK} (GT : ∀ k, GPr P wo K mg base 3 (kcls A k) "text" (fun vs _ => spText A vs)) (w : Wd G R H) (h : ColAt A G a c) (ok : c.ok) (k : ∀ H', Wd G R H' → Q (.str c.text) H') :
    ∃ a' C dx fs sp, V.ref a = .ref a' ∧ H a' = some (.ins C dx fs) ∧ GPr P wo K mg base 3 C "text" sp ∧ sp [.ref a'] [] H Q E0 := by
  obtain ⟨dx, hx⟩ := h
  exact ⟨a, _, dx, _, _, rfl, w.get hx, GT c.k, G, R, a, c, rfl, w, ⟨dx, hx⟩, ok, k⟩
/-! ### Table.columns, Table.groups -/
theorem colKvs_vals {A : Ad} {G : Hp} {cs : List Col} {as : List Addr} (h : ColsAt A G cs as) : (colKvs cs as).map (·.2) = as.map V.ref := by
  induction h with
  | nil => rfl
  | cons _ _ ih =>
    unfold colKvs at ih ⊢
    rw [List.zip_cons_cons, List.map_cons, List.map_cons, List.map_cons, ih]
def spCols (K : PySem.W.Frag) (A : Ad) : Sp := fun vs H Q _ => ∃ G R x t, vs = [.ref x] ∧ Wd G R H ∧ TabAt K A G x t ∧ ∀ p as G' H', Same G G' → G p = none → G' p = some (.lst (as.map V.ref)) → ColsAt A G t.cols as → Wd G' R H' → Q (.ref p) H'
theorem sc_Table_columns : FnScope (["self"] : List Str) (["self"] : List Str) (defScope s_Table_columns) := ⟨rfl, rfl, rfl, by decide +kernel, rfl, by decide +kernel, by decide +kernel⟩
theorem ok_cols {f : Addr} {fd : FuncData} (F : Fun K "columns" "Table.columns" s_Table_columns f fd) (T : Txt K mg A) (TF : TabF K A) : FnOk P wo K mg base (L2.CX P wo) 1 f fd (["self"] : List Str) (spCols K A) := by
  refine okT F sc_Table_columns (fun vs H Q E h => ?_) (fun cdv Ar outer s H vs Q E hr tk po h => ?_)
  · obtain ⟨_, _, _, _, rfl, _⟩ := h
    rfl
  obtain ⟨G, R, x, t, rfl, w, ⟨dx, d, gl, as, us, h1, h2, h3, h4, h5⟩, k⟩ := h
  refine ⟨_, (pss_one (ps_ret (pe_listVals rfl (by rfl) T.nb_list (by decide +kernel) (ke_fld K (pv 0) rfl)))), ?_⟩
  walk_at "go"
  refine g_gf w h1 TF.cT TF.nb tf_by ?_
  refine ⟨d, _, rfl, w.get h2, ?_⟩
  rw [colKvs_vals h3]
  refine g_newO w fun p G1 H1 n1 s1 q1 w1 => ?_
  exact k p as G1 H1 s1 n1 q1 h3 w1
theorem prop_cols {G H : Hp} {R : Res} {a : Addr} {t : Tab} {Q : VK} (GC : GPr P wo K mg base 1 A.Table "columns" (fun vs _ => spCols K A vs)) (w : Wd G R H) (h : TabAt K A G a t) (k : ∀ p as G' H', Same G G' → G p = none → G' p = some (.lst (as.map V.ref)) → ColsAt A G t.cols as → Wd G' R H' → Q (.ref p) H') :
    ∃ a' C dx fs sp, V.ref a = .ref a' ∧ H a' = some (.ins C dx fs) ∧ GPr P wo K mg base 1 C "columns" sp ∧ sp [.ref a'] [] H Q E0 := by
  obtain ⟨dx, d, gl, as, us, h1, h2⟩ := id h
  exact ⟨a, _, dx, _, _, rfl, w.get h1, GC, G, R, a, t, rfl, w, h, k⟩
/-! ### Table.lines -/
def spLines (K : PySem.W.Frag) (A : Ad) : Sp := fun vs H Q _ => ∃ G R x t, vs = [.ref x] ∧ Wd G R H ∧ TabAt K A G x t ∧ t.ok ∧ ∀ p G' H', Same G G' → G p = none → G' p = some (.lst (t.lines.map V.str)) → Wd G' R H' → Q (.ref p) H'
theorem sc_Table_lines : FnScope (["self", "found", "column", "group"] : List Str) (["self"] : List Str) (defScope s_Table_lines) := ⟨rfl, rfl, rfl, by decide +kernel, rfl, by decide +kernel, by decide +kernel⟩
theorem ok_lines {f : Addr} {fd : FuncData} (F : Fun K "lines" "Table.lines" s_Table_lines f fd) (T : Txt K mg A) (TF : TabF K A) (GT : ∀ k, GPr P wo K mg base 3 (kcls A k) "text" (fun vs _ => spText A vs)) (GC : GPr P wo K mg base 1 A.Table "columns" (fun vs _ => spCols K A vs)) :
    FnOk P wo K mg base (L2.CX P wo) 5 f fd (["self"] : List Str) (spLines K A) := by
  refine okT F sc_Table_lines (fun vs H Q E h => ?_) (fun cdv Ar outer s H vs Q E hr tk po h => ?_)
  · obtain ⟨_, _, _, _, rfl, _⟩ := h
    rfl
  obtain ⟨G, R, x, t, rfl, w, ht, ok, k⟩ := h
  refine ⟨_, (pss_cons (ps_set (i := 1) sc_Table_lines.nd rfl (by first | exact Or.inl rfl | exact Or.inr rfl) (pe_op (ka_add K) (pe_lst (pa_cons (pe_joined (.cons pe_str (.cons (pe_fmt (ke_fld K (pv 0) rfl)) .nil))) pa_nil)) (pe_lc (own := [("column", 2)]) (g := (gName 2)) (tt := tYes) rfl sc_Table_lines.nd (ki_list K (kp_prop (k := 1) P wo K mg base (pv 0) (hr.mono (by decide)))) (blkOk_by (N := (["self", "found", "column", "group"] : List Str)) (sc := defScope s_Table_lines) (by decide +kernel)) (fun _ _ _ _ _ => (pg_name (i := 2) sc_Table_lines.nd rfl (by first | exact Or.inl rfl | exact Or.inr rfl))) (fun _ _ _ _ _ => pts_nil) (fun _ _ _ _ _ => (kp_prop (k := 3) P wo K mg base (pv 2) (hr.mono (by decide)))))))
      (pss_one (ps_ret (pe_op (ka_add K) (pv 1) (pe_lc (own := [("group", 3)]) (g := (gName 3)) (tt := tYes) rfl sc_Table_lines.nd (ki_list K (ke_fld K (pv 0) rfl)) (blkOk_by (N := (["self", "found", "column", "group"] : List Str)) (sc := defScope s_Table_lines) (by decide +kernel)) (fun _ _ _ _ _ => (pg_name (i := 3) sc_Table_lines.nd rfl (by first | exact Or.inl rfl | exact Or.inr rfl))) (fun _ _ _ _ _ => pts_nil) (fun _ _ _ _ _ => (ke_join K pe_str (pe_lst (pa_cons pe_str (kp_star K (pv 3) pa_nil)))))))))), ?_⟩
  obtain ⟨dx, d, gl, as, us, h1, h2, h3, h4, h5⟩ := id ht
  have n8 := isNm_len ok.nm
  walk_at "go"
  refine ⟨_, rfl, (by rw [str_app_nil]; show 6 ≤ sizeLine; rw [sizeLine_eq]; decide), ?_⟩
  walk_at "go"
  refine g_gf w h1 TF.cT TF.nn tf_nm ?_
  refine .inl ⟨_, rfl, by rw [sizeLine_eq]; omega, ?_⟩
  have e6 : ((Str.empty ++ ("table " : Str)) ++ t.name) = ("table " : Str) ++ t.name := by rw [str_app_nil]
  refine ⟨_, rfl, ?_, ?_⟩
  · rw [e6, strLen_append, sizeLine_eq]
    show 6 + t.name.length ≤ _
    omega
  rw [e6]
  walk_at "go"
  refine g_newA w (by walk_at "sz") fun l1 G1 H1 n1 s1 q1 w => ?_
  walk_at "go"
  refine prop_cols GC w (ht.same s1) fun p2 as2 G2 H2 s2 n2 q2 c2 w => ?_
  refine ⟨p2, rfl, ⟨_, SqL.of (w.get q2)⟩, ?_⟩
  have las : as2.length ≤ 1000 := by rw [← Sw.Paired.len c2]; exact ok.lc
  refine lc_it (itf_list (xs := as2.map V.ref)) w (fun H e => SqL.of (e _ _ q2)) (by rw [sizeLine_eq, List.length_map]; omega) (fun i _ acc => acc = ((t.cols.take i).map Col.text).map V.str) rfl ?_ ?_
  · rintro i y Gi acc D H3 H4 hi e nD rfl ha w3 ⟨rfl, hy⟩
    rw [List.getElem?_map] at hy
    obtain ⟨a, hay, rfl⟩ := Option.map_eq_some_iff.mp hy
    obtain ⟨c, hci, hca⟩ := Sw.Paired.atR c2 hay
    walk_at "go"
    refine ⟨rfl, ?_⟩
    walk_at "go"
    refine prop_text GT w3 ((hca.same s2).same (Same.trans e (Same.newG nD))) (ok.co c (List.mem_of_getElem? hci)) fun H5 w5 => ?_
    refine lc_keep (Pv := fun i _ acc => acc = ((t.cols.take i).map Col.text).map V.str) w5 e nD ha hi (by rw [sizeLine_eq, List.length_map]; omega) ?_
    rw [List.take_add_one, hci]
    simp
  · rintro D Gn acc H3 e nD rfl ha w
    have tk1 : t.cols.take (as2.map V.ref).length = t.cols := List.take_of_length_le (by rw [List.length_map, ← Sw.Paired.len c2]; exact Nat.le_refl _)
    rw [tk1] at w
    refine g_addLA w (upd_old (e _ _ (s2 _ _ q1)) nD) upd_same (by rw [sizeLine_eq]; simp only [List.length_cons, List.length_nil, List.length_map]; have := ok.lc; omega) fun l5 G5 H5 n5 s5 q5 w => ?_
    have S5 : Same G G5 := Same.trans (Same.trans (Same.trans s1 s2) (Same.trans e (Same.newG nD))) s5
    walk_at "go"
    refine g_gf w (S5 _ _ h1) TF.cT TF.ng tf_gr ?_
    refine ⟨gl, rfl, ⟨_, SqL.of (w.get (S5 _ _ h4))⟩, ?_⟩
    have lus : us.length ≤ 1000 := by rw [← Sw.Paired.len h5]; exact ok.lg
    refine lc_it (itf_list (xs := us)) w (fun H e => SqL.of (e _ _ (S5 _ _ h4))) (by rw [sizeLine_eq]; omega) (fun i _ acc => acc = ((t.groups.take i).map grpText).map V.str) rfl ?_ ?_
    · rintro i y Gi acc D6 H6 H7 hi e6 nD6 rfl ha6 w6 ⟨rfl, hy⟩
      obtain ⟨g, hgi, gp, rfl, hgp⟩ := Sw.Paired.atR h5 hy
      obtain ⟨hg3, hgn⟩ := isGrp_names ok.co (ok.gr g (List.mem_of_getElem? hgi))
      walk_at "go"
      refine ⟨rfl, ?_⟩
      walk_at "go"
      refine ⟨gp, _, rfl, .inl (Evl.ex_t w6.sub (Evl.ex_t (Same.trans S5 (Same.trans e6 (Same.newG nD6))) hgp)), ?_⟩
      walk_at "go"
      refine g_newA w6 (by rw [sizeLine_eq]; simp only [List.length_cons, List.length_append, List.length_map, List.length_nil]; omega) fun l8 G8 H8 n8' s8 q8 w8 => ?_
      have q8' : G8 l8 = some (.lst ((("unique" : Str) :: g).map V.str)) := by rw [q8, List.append_nil]; rfl
      refine g_join w8 (SqL.of q8') (Nat.le_trans (grp_size hg3 hgn) (by decide)) ?_
      refine lc_keep (Pv := fun i _ acc => acc = ((t.groups.take i).map grpText).map V.str) (w8.drop s8) e6 nD6 ha6 hi (by rw [sizeLine_eq]; omega) ?_
      rw [List.take_add_one, hgi]
      simp [grpText]
    · rintro D6 Gn6 acc H6 e6 nD6 rfl ha6 w
      have tk2 : t.groups.take us.length = t.groups := List.take_of_length_le (by rw [← Sw.Paired.len h5]; exact Nat.le_refl _)
      rw [tk2] at w
      refine g_addLA w (upd_old (e6 _ _ q5) nD6) upd_same (by rw [sizeLine_eq]; simp only [List.length_cons, List.length_nil, List.length_map, List.length_append]; have := ok.lc; have := ok.lg; omega) fun l9 G9 H9 n9 s9 q9 w => ?_
      have S9 : Same G G9 := Same.trans S5 (Same.trans (Same.trans e6 (Same.newG nD6)) s9)
      refine k l9 G9 H9 S9 (Same.free (Same.trans S5 (Same.trans e6 (Same.newG nD6))) n9) ?_ w
      rw [q9]
      unfold Tab.lines
      simp
end
end Sv


set_option Elab.async false
set_option linter.all false
set_option maxRecDepth 100000
set_option maxHeartbeats 4000000
namespace Sv
open PySem PySem.Spec PyProof.Rows L2 Sw
local macro_rules | `(tactic| walk_at "go1") => `(tactic| first
  | ((with_reducible refine' g_var ?hv ?_); (case hv => rfl))
  | with_reducible refine g_c ?_
  | with_reducible refine g_op ?_
  | with_reducible refine g_un ?_
  | with_reducible refine g_seq ?_
  | with_reducible refine g_next ?_
  | with_reducible refine g_asg ?_
  | with_reducible refine g_name ?_
  | with_reducible refine g_drop ?_
  | with_reducible refine g_sub ?_
  | with_reducible refine g_ret ?_
  | with_reducible refine g_retN ?_
  | with_reducible refine g_ifS ?_
  | with_reducible refine g_if ?_
  | with_reducible refine g_test ?_
  | with_reducible refine g_bl ?_
  | with_reducible refine g_cons ?_
  | with_reducible refine g_nil ?_
  | with_reducible refine g_and ?_
  | with_reducible refine g_or ?_
  | with_reducible refine g_not ?_
  | with_reducible refine g_callB ?_
  | with_reducible refine g_addI ?_
  | with_reducible refine g_I0 ?_
  | with_reducible refine g_calG ?_
  | with_reducible refine g_mkG ?_
  | with_reducible refine g_tup ?_
  | with_reducible refine g_pairs1 ?_
  | with_reducible refine g_pairs0 ?_
  | with_reducible refine g_dget ?_
  | with_reducible refine g_lvals ?_
  | with_reducible refine g_forT ?_
  | with_reducible refine g_lcT ?_
  | with_reducible refine g_dput ?_
  | with_reducible refine g_lc2L ?_
  | with_reducible refine g_iList ?_
  | with_reducible refine g_lcX ?_
  | with_reducible refine g_js1 ?_
  | with_reducible refine g_js0 ?_
  | with_reducible refine g_fmt ?_
  | with_reducible refine g_tLenSet ?_
  | with_reducible refine g_mkV ?_
  | with_reducible refine g_mkV1 ?_
  | with_reducible refine g_lst ?_
  | with_reducible refine g_forL ?_
  | with_reducible refine g_forR ?_
  | with_reducible refine g_forR2 ?_
  | with_reducible refine g_forS ?_
  | with_reducible refine g_forE ?_
  | with_reducible refine g_lcL ?_
  | with_reducible refine g_lcR ?_
  | with_reducible refine g_lcS ?_
  | with_reducible refine g_lcE ?_
  | with_reducible refine g_orT ?_
  | with_reducible refine g_slc ?_
  | with_reducible refine g_noPart ?_
  | with_reducible refine g_part ?_
  | with_reducible refine g_bm ?_
  | with_reducible refine g_par ?_
  | with_reducible refine g_yes ?_
  | with_reducible refine g_tupG ?_
  | with_reducible refine g_lstG ?_
  | with_reducible refine g_gcons ?_
  | with_reducible refine g_gnil ?_
  | with_reducible refine g_chain ?_
  | with_reducible refine g_truB ?_
  | with_reducible refine g_truN ?_
  | with_reducible refine g_truI ?_
  | with_reducible refine g_m1 ?_
  | with_reducible refine g_fld ?_
  | with_reducible refine g_con ?_
  | with_reducible refine g_tru ?_
  | with_reducible refine g_U ?_
  | with_reducible refine g_xg ?_
  | with_reducible refine g_andT ?_
  | with_reducible refine g_exI ?_
  | with_reducible refine g_dnew ?_
  | with_reducible refine g_intB ?_
  | with_reducible refine g_meth ?_
  | with_reducible refine g_prop ?_
  | with_reducible refine g_exc1 ?_
  | with_reducible refine g_setF ?_
  | with_reducible refine g_star ?_
  | with_reducible refine g_strM ?_
  | with_reducible refine iteT ?_
  | with_reducible refine iteF ?_
  | with_reducible refine iteNT ?_
  | with_reducible refine iteNF ?_)
local macro_rules | `(tactic| walk_at "go") => `(tactic| repeat (walk_at "go1"))
local macro_rules | `(tactic| walk_at "sz") => `(tactic| (first | (rw [sizeLine_eq]; simp only [List.length_cons, List.length_nil, List.length_map, List.length_append, List.length_take]; omega) | (rw [sizeLine_eq]; omega)))
/-! ### schemas -/
def nKvs (ns : List Str) (as : List Addr) : List (Key × V) := (ns.zip as).map fun p => (Sum.inr p.1, V.ref p.2)
theorem nKvs_len {ns : List Str} {as : List Addr} : (nKvs ns as).length ≤ ns.length := by
  unfold nKvs
  rw [List.length_map, List.length_zip]
  exact Nat.min_le_left _ _
theorem nKvs_take {ns : List Str} {as : List Addr} (hl : ns.length = as.length) {i : Nat} {c : Str} {a : Addr} (hc : ns[i]? = some c) (ha : as[i]? = some a) : nKvs (ns.take (i + 1)) (as.take (i + 1)) = nKvs (ns.take i) (as.take i) ++ [(Sum.inr c, V.ref a)] := by
  unfold nKvs
  rw [List.take_add_one, List.take_add_one, hc, ha]
  have l : (ns.take i).length = (as.take i).length := by rw [List.length_take, List.length_take, hl]
  rw [Option.toList_some, Option.toList_some, List.zip_append l, List.map_append]
  rfl
theorem nKvs_has : ∀ {ns : List Str} {as : List Addr} (_ : ns.length = as.length) (n : Str), (valV (nKvs ns as) (.inr n)).isSome = decide (n ∈ ns)
  | [], [], _, n => rfl
  | m :: ns, a :: as, hl, n => by
    by_cases h : m = n
    · have : valV (nKvs (m :: ns) (a :: as)) (.inr n) = some (.ref a) := valV_pos (p := (Sum.inr m, V.ref a)) (by rw [h])
      rw [this, decide_eq_true (by rw [h]; exact List.mem_cons_self)]
      rfl
    · have : valV (nKvs (m :: ns) (a :: as)) (.inr n) = valV (nKvs ns as) (.inr n) := valV_neg (p := (Sum.inr m, V.ref a)) fun z => h (Sum.inr.inj z)
      rw [this, nKvs_has (by simpa using hl) n]
      apply Bool.eq_iff_iff.mpr
      rw [decide_eq_true_eq, decide_eq_true_eq, List.mem_cons]
      exact ⟨.inr, fun z => z.resolve_left fun q => h q.symm⟩
theorem nKvs_vals : ∀ {ns : List Str} {as : List Addr} (_ : ns.length = as.length), (nKvs ns as).map (·.2) = as.map V.ref
  | [], [], _ => rfl
  | m :: ns, a :: as, hl => by
    have := nKvs_vals (ns := ns) (as := as) (by simpa using hl)
    unfold nKvs at this ⊢
    rw [List.zip_cons_cons, List.map_cons, List.map_cons, List.map_cons, this]
def TabsAt (K : PySem.W.Frag) (A : Ad) (G : Hp) (ts : List Tab) (tas : List Addr) : Prop := Paired (fun t a => TabAt K A G a t) ts tas
theorem TabsAt.same {K : PySem.W.Frag} {A : Ad} {G G' : Hp} {ts : List Tab} {tas : List Addr} (h : TabsAt K A G ts tas) (e : Same G G') : TabsAt K A G' ts tas := Sw.Paired.imp (fun _ _ x => x.same e) h
def SchAt (K : PySem.W.Frag) (A : Ad) (G : Hp) (a : Addr) (ts : List Tab) : Prop := ∃ dx d tas, G a = some (.ins A.Schema dx [("by_name", .ref d)]) ∧ G d = some (.dK (nKvs (ts.map Tab.name) tas)) ∧ TabsAt K A G ts tas
theorem SchAt.same {K : PySem.W.Frag} {A : Ad} {G G' : Hp} {a : Addr} {ts : List Tab} (h : SchAt K A G a ts) (e : Same G G') : SchAt K A G' a ts := by
  obtain ⟨dx, d, tas, h1, h2, h3⟩ := h
  exact ⟨dx, d, tas, e _ _ h1, e _ _ h2, h3.same e⟩
def strange (ns : List Str) (c : Col) : Bool := decide (c.k = .ref) && decide (c.target ∉ ns)
def allCols (ts : List Tab) : List Col := ts.flatMap Tab.cols
inductive SRes where
  | name (n : Option Str) | unknown (n : Str) | ok
def schRes (ts : List Tab) : SRes := match firstDup [] (ts.map Tab.name) with
  | some n => .name (some n)
  | none => if ts = [] then .name none else match (allCols ts).find? (strange (ts.map Tab.name)) with
    | some c => .unknown c.target
    | none => .ok
def spSchInit (K : PySem.W.Frag) (A : Ad) : Sp := fun vs H Q E => ∃ G R x dx p ts tas, vs = [.ref x, .ref p] ∧ G x = none ∧ Wd (upd G x (.ins A.Schema dx [])) R H ∧ SqT K G p (tas.map V.ref) ∧ TabsAt K A G ts tas ∧ tas.length ≤ 1000 ∧
  match schRes ts with
  | .name o => XQ G R A.InvalidName "name" (optV o) E
  | .unknown n => XQ G R A.UnknownTable "name" (.str n) E
  | .ok => ∀ d G' H', Same G G' → G' x = some (.ins A.Schema dx [("by_name", .ref d)]) → G' d = some (.dK (nKvs (ts.map Tab.name) tas)) → Wd G' R H' → Q .non H'
section
variable {P : Program} {wo : World} {A : Ad} {K : PySem.W.Frag} {mg : Str → Option Value} {base : Heap}
theorem sc_Schema___init__ : FnScope (["self", "tables", "by_name", "table", "column"] : List Str) (["self", "tables"] : List Str) (defScope s_Schema___init__) := ⟨rfl, rfl, rfl, by decide +kernel, rfl, by decide +kernel, by decide +kernel⟩
theorem sch_body {f : Addr} {cdv : Value} {Ar : Around} {outer : List Env} {s : Shared} {H : Hp} {vs : List V} {Q : VK} {E : XK} (T : Txt K mg A) (CF : ColF K A) (TF : TabF K A) (GK : ∀ k, GPr P wo K mg base 1 (kcls A k) "kind" (fun vs _ => spKind A vs)) (GC : GPr P wo K mg base 1 A.Table "columns" (fun vs _ => spCols K A vs))
    (XN : Exc1 P wo K mg base "InvalidName" A.InvalidName "name") (XU : Exc1 P wo K mg base "UnknownTable" A.UnknownTable "name")
    (hr : Room 2 (Ar.deeper (envOfC "Schema.__init__" (defScope s_Schema___init__) s.heap.objs.size f cdv)))
    (tk : Takes (cxOf (L2.CX P wo) P wo K mg base (["self", "tables", "by_name", "table", "column"] : List Str) "Schema.__init__" (defScope s_Schema___init__) f cdv Ar outer s H E) (fun cls d _ H => E cls d H))
    (po : PassesOwn (model P wo) (Ar.deeper (envOfC "Schema.__init__" (defScope s_Schema___init__) s.heap.objs.size f cdv)) (envOfC "Schema.__init__" (defScope s_Schema___init__) s.heap.objs.size f cdv) (cxOf (L2.CX P wo) P wo K mg base (["self", "tables", "by_name", "table", "column"] : List Str) "Schema.__init__" (defScope s_Schema___init__) f cdv Ar outer s H E).xe)
    (h : spSchInit K A vs H Q E) :
    ∃ t, PSs (cxOf (L2.CX P wo) P wo K mg base (["self", "tables", "by_name", "table", "column"] : List Str) "Schema.__init__" (defScope s_Schema___init__) f cdv Ar outer s H E) (defBody s_Schema___init__) t ∧ t { nx := fun _ H' => Q .non H', rt := Q } (L2.start (["self", "tables", "by_name", "table", "column"] : List Str) vs) H := by
  obtain ⟨G, R, x, dx, p, ts, tas, rfl, nx, w, hp, hc, la, k⟩ := h
  refine ⟨_, (pss_cons (ps_set (i := 2) sc_Schema___init__.nd rfl (by first | exact Or.inl rfl | exact Or.inr rfl) pe_dnewK)
      (pss_cons (ps_for po rfl (ki_tup K (pv 1)) (pg_name (i := 3) sc_Schema___init__.nd rfl (by first | exact Or.inl rfl | exact Or.inr rfl)) (pss_cons (ps_if (pt_cmpR (op_inDk (L2.hu_of hr)) (ke_fld K (pv 3) rfl) (pv 2) (by first | exact nomark _ | rfl)) (pss_one (ps_raise rfl tk (pmk_exc1 XN (hr.mono (by decide)) (pa_cons (ke_fld K (pv 3) rfl) pa_nil)))) pss_nil)
      (pss_one (ps_dput (L2.hu_of hr) (pv 2) (ke_fld K (pv 3) rfl) (pv 3) rfl))))
      (pss_cons (ps_if (pt_cmpR (op_eqDE hr.units0) (pv 2) pe_dnewK (nomark _)) (pss_one (ps_raise rfl tk (pmk_exc1 XN (hr.mono (by decide)) (pa_cons pe_non pa_nil)))) pss_nil)
      (pss_cons (ps_for po rfl (ki_tup K (pv 1)) (pg_name (i := 3) sc_Schema___init__.nd rfl (by first | exact Or.inl rfl | exact Or.inr rfl)) (pss_one (ps_for po rfl (ki_list K (kp_prop (k := 1) P wo K mg base (pv 3) (hr.mono (by decide)))) (pg_name (i := 4) sc_Schema___init__.nd rfl (by first | exact Or.inl rfl | exact Or.inr rfl)) (pss_one (ps_if (PW.pt (pw_and (pt_cmpR (ka_eq K hr.units) (kp_prop (k := 1) P wo K mg base (pv 4) (hr.mono (by decide))) pe_str (nomark _)) (pw_and1 (pt_cmpR (op_niDk (L2.hu_of hr)) (ke_fld K (pv 4) rfl) (pv 2) (by first | exact nomark _ | rfl))))) (pss_one (ps_raise rfl tk (pmk_exc1 XU (hr.mono (by decide)) (pa_cons (ke_fld K (pv 4) rfl) pa_nil)))) pss_nil)))))
      (pss_one (ps_fld (pv 0) (pv 2) rfl)))))), ?_⟩
  have sx : Same G (upd G x (.ins A.Schema dx [])) := Same.newG nx
  have hx : upd G x (.ins A.Schema dx []) x = some (.ins A.Schema dx []) := upd_same
  walk_at "go"
  refine g_new w fun d H2 nd w => ?_
  walk_at "go"
  refine ⟨p, rfl, ⟨_, Evl.ex_t w.sub (Evl.ex_t (Same.trans sx (Same.newG nd)) hp)⟩, ?_⟩
  have ncs : (ts.map Tab.name).length = tas.length := by rw [List.length_map]; exact Sw.Paired.len hc
  generalize upd G x (.ins A.Schema dx []) = G1 at *
  refine for_it (itf_tup (xs := tas.map V.ref)) (fun i σ' H' => ∃ y3, σ' = [some (.ref x), some (.ref p), some (.ref d), y3, none] ∧ firstDup [] (ts.map Tab.name) = firstDup ((ts.map Tab.name).take i) ((ts.map Tab.name).drop i) ∧ Wd (upd G1 d (.dK (nKvs ((ts.map Tab.name).take i) (tas.take i)))) R H') ⟨_, rfl, rfl, w⟩ (fun i σ' H' _ h => ?_) ?_ ?_
  · obtain ⟨_, _, _, w⟩ := h
    exact Evl.ex_t w.sub (Evl.ex_t (Same.trans sx (Same.newG nd)) hp)
  · rintro i y σ' H3 H4 hi ⟨y3, rfl, hd1, w⟩ ⟨rfl, hy⟩
    rw [List.getElem?_map] at hy
    obtain ⟨a, ha, rfl⟩ := Option.map_eq_some_iff.mp hy
    obtain ⟨t, hti, hta⟩ := Sw.Paired.atR hc ha
    have S1 : Same G (upd G1 d (.dK (nKvs ((ts.map Tab.name).take i) (tas.take i)))) := Same.trans sx (Same.newG nd)
    obtain ⟨tx, td, tgl, tas', tus, ht1, ht2⟩ := hta.same S1
    have hnm : (ts.map Tab.name)[i]? = some t.name := by rw [List.getElem?_map, hti]; rfl
    have hdr : (ts.map Tab.name).drop i = t.name :: (ts.map Tab.name).drop (i + 1) := by
      have := List.drop_eq_getElem_cons (List.getElem?_eq_some_iff.mp hnm).1
      rw [(List.getElem?_eq_some_iff.mp hnm).2] at this
      exact this
    have ltake : ((ts.map Tab.name).take i).length = (tas.take i).length := by rw [List.length_take, List.length_take, ncs]
    walk_at "go"
    refine g_gf w ht1 TF.cT TF.nn tf_nm ?_
    walk_at "go"
    refine g_inDk w upd_same ?_
    rw [nKvs_has ltake]
    walk_at "go"
    refine iteD (fun h1 => ?_) (fun h1 => ?_)
    · walk_at "go"
      refine g_gf w ht1 TF.cT TF.nn tf_nm ?_
      walk_at "go"
      have e : firstDup [] (ts.map Tab.name) = some t.name := by rw [hd1]; exact firstDup_in h1 hdr
      have ek : schRes ts = .name (some t.name) := by
        unfold schRes
        rw [e]
      rw [ek] at k
      exact XQ.raise k w S1
    · walk_at "go"
      refine g_gf w ht1 TF.cT TF.nn tf_nm ?_
      have nv : valV (nKvs ((ts.map Tab.name).take i) (tas.take i)) (.inr t.name) = none := by
        have := nKvs_has ltake t.name
        rw [decide_eq_false h1] at this
        cases hv : valV (nKvs ((ts.map Tab.name).take i) (tas.take i)) (.inr t.name) with
        | none => rfl
        | some z => rw [hv] at this; cases this
      refine g_dputE w upd_same (by have := nKvs_len (ns := (ts.map Tab.name).take i) (as := tas.take i); rw [List.length_take] at this; rw [sizeLine_eq]; omega) fun H5 w => ?_
      rw [upd_upd, putK_new nv, ← nKvs_take ncs hnm ha] at w
      refine ⟨_, rfl, ?_, w⟩
      rw [hd1, firstDup_out h1 hdr, List.take_add_one, hnm]
      rfl
  · rintro σ' H3 ⟨y3, rfl, hd1, w⟩
    have e0 : firstDup [] (ts.map Tab.name) = none := by
      rw [hd1, List.length_map, ← ncs, List.drop_length]
      rfl
    rw [List.length_map] at w
    rw [List.take_of_length_le (by rw [← ncs]; exact Nat.le_refl _), List.take_of_length_le (Nat.le_refl _)] at w
    walk_at "go"
    refine g_new w fun d2 H4 n2 w2 => ?_
    refine g_eqDE w2 (upd_old upd_same n2) upd_same ?_
    replace w := w2.drop (Same.newG n2)
    clear w2
    have ee : (nKvs (ts.map Tab.name) tas).isEmpty = decide (ts = []) := by
      cases hc with
      | nil => rfl
      | cons _ _ => rfl
    rw [ee]
    walk_at "go"
    refine iteD (fun h1 => ?_) (fun h1 => ?_)
    · walk_at "go"
      have ek : schRes ts = .name none := by
        unfold schRes
        rw [e0]
        exact if_pos h1
      rw [ek] at k
      exact XQ.raise (v := .non) k w (Same.trans sx (Same.newG nd))
    · walk_at "go"
      have S1 : Same G (upd G1 d (.dK (nKvs (ts.map Tab.name) tas))) := Same.trans sx (Same.newG nd)
      refine ⟨p, rfl, ⟨_, Evl.ex_t w.sub (Evl.ex_t S1 hp)⟩, ?_⟩
      refine for_it (itf_tup (xs := tas.map V.ref)) (fun i σ' H' => ∃ y3 y4, σ' = [some (.ref x), some (.ref p), some (.ref d), y3, y4] ∧ (∀ c ∈ allCols (ts.take i), strange (ts.map Tab.name) c = false) ∧ Wd (upd G1 d (.dK (nKvs (ts.map Tab.name) tas))) R H') ⟨_, _, rfl, fun o z => (nomatch z), w⟩ (fun i σ' H' _ h => ?_) ?_ ?_
      · obtain ⟨_, _, _, _, w⟩ := h
        exact Evl.ex_t w.sub (Evl.ex_t S1 hp)
      · rintro i y σ' H5 H6 hi ⟨y3, y4, rfl, hg, w⟩ ⟨rfl, hy⟩
        rw [List.getElem?_map] at hy
        obtain ⟨a, ha, rfl⟩ := Option.map_eq_some_iff.mp hy
        obtain ⟨t, hti, hta⟩ := Sw.Paired.atR hc ha
        walk_at "go"
        refine prop_cols GC w (hta.same S1) fun cp cas G7 H7 s7 n7 q7 c7 w7 => ?_
        refine ⟨cp, rfl, ⟨_, SqL.of (w7.get q7)⟩, ?_⟩
        refine for_it (itf_list (xs := cas.map V.ref)) (fun j σ' H' => ∃ y4, σ' = [some (.ref x), some (.ref p), some (.ref d), some (.ref a), y4] ∧ (∀ c ∈ t.cols.take j, strange (ts.map Tab.name) c = false) ∧ Wd G7 R H') ⟨_, rfl, fun o z => (nomatch z), w7⟩ (fun i σ' H' _ h => ?_) ?_ ?_
        · obtain ⟨_, _, _, w⟩ := h
          exact SqL.of (w.get q7)
        · rintro j z σ' H8 H9 hj ⟨y4, rfl, hgj, w⟩ ⟨rfl, hz⟩
          rw [List.getElem?_map] at hz
          obtain ⟨ca, hca, rfl⟩ := Option.map_eq_some_iff.mp hz
          obtain ⟨c, hcj, hcc⟩ := Sw.Paired.atR c7 hca
          replace hcc := hcc.same s7
          have S7 : Same G G7 := Same.trans S1 s7
          have st : ∀ b, strange (ts.map Tab.name) c = b → ∃ u, b = u ∧ strange (ts.map Tab.name) c = u := fun b e => ⟨b, rfl, e⟩
          have go_on : strange (ts.map Tab.name) c = false → ∀ c' ∈ t.cols.take (j + 1), strange (ts.map Tab.name) c' = false := fun e c' hc' => by
            rw [List.take_add_one, hcj] at hc'
            rcases List.mem_append.mp hc' with q | q
            · exact hgj c' q
            · have : c' = c := by simpa using q
              rw [this]; exact e
          walk_at "go"
          refine prop_kind GK w hcc fun H10 w => ?_
          walk_at "go"
          refine g_eqS rfl ?_
          walk_at "go"
          have ekk : decide (V.str (kstr c.k) = V.str "ref") = decide (c.k = .ref) := by cases c.k <;> decide
          rw [ekk]
          refine iteD (fun h3 => ?_) (fun h3 => ?_)
          · obtain ⟨cx, hcx⟩ := hcc
            have hcx' : G7 ca = some (.ins A.RefColumn cx c.fs) := by rw [h3] at hcx; exact hcx
            have cR : Cls K A.RefColumn := CF.cls .ref
            walk_at "go"
            refine g_gf w hcx' cR CF.nt (c.l_target h3) ?_
            walk_at "go"
            refine g_niDk w (s7 _ _ upd_same) ?_
            rw [nKvs_has ncs]
            walk_at "go"
            refine iteN (fun h4 => ?_) (fun h4 => ?_)
            · walk_at "go"
              refine g_gf w hcx' cR CF.nt (c.l_target h3) ?_
              walk_at "go"
              have ek : schRes ts = .unknown c.target := by
                unfold schRes
                rw [e0]
                simp only [if_neg h1]
                have : (allCols ts).find? (strange (ts.map Tab.name)) = some c := by
                  rw [List.find?_eq_some_iff_append]
                  refine ⟨by unfold strange; rw [decide_eq_true h3, decide_eq_true h4]; rfl, allCols (ts.take i) ++ t.cols.take j, t.cols.drop (j + 1) ++ allCols (ts.drop (i + 1)), ?_, fun b hb => ?_⟩
                  · have e1 : ts = ts.take i ++ t :: ts.drop (i + 1) := by
                      have h5 := List.getElem?_eq_some_iff.mp hti
                      conv => lhs; rw [← List.take_append_drop i ts, List.drop_eq_getElem_cons h5.1, h5.2]
                    have e2 : t.cols = t.cols.take j ++ c :: t.cols.drop (j + 1) := by
                      have h5 := List.getElem?_eq_some_iff.mp hcj
                      conv => lhs; rw [← List.take_append_drop j t.cols, List.drop_eq_getElem_cons h5.1, h5.2]
                    conv => lhs; rw [e1]
                    unfold allCols
                    rw [List.flatMap_append, List.flatMap_cons]
                    conv => lhs; rw [e2]
                    simp
                  · rcases List.mem_append.mp hb with q | q
                    · rw [hg b q]; rfl
                    · rw [hgj b q]; rfl
                rw [this]
              rw [ek] at k
              exact XQ.raise k w S7
            · walk_at "go"
              exact ⟨_, rfl, go_on (by unfold strange; rw [decide_eq_true h3, decide_eq_false (fun z => z h4)]; rfl), w⟩
          · walk_at "go"
            exact ⟨_, rfl, go_on (by unfold strange; rw [decide_eq_false h3]; rfl), w⟩
        · rintro σ' H8 ⟨y4, rfl, hgj, w⟩
          walk_at "go"
          refine ⟨_, _, rfl, fun c' hc' => ?_, w.drop s7⟩
          unfold allCols at hc'
          rw [List.take_add_one, hti, Option.toList_some, List.flatMap_append] at hc'
          rcases List.mem_append.mp hc' with q | q
          · exact hg c' q
          · refine hgj c' ?_
            rw [List.take_of_length_le (by rw [List.length_map, ← Sw.Paired.len c7]; exact Nat.le_refl _)]
            simpa using q
      · rintro σ' H5 ⟨y3, y4, rfl, hg, w⟩
        have ek : schRes ts = .ok := by
          unfold schRes
          rw [e0]
          simp only [if_neg h1]
          have : (allCols ts).find? (strange (ts.map Tab.name)) = none := by
            rw [List.find?_eq_none]
            intro c hcm
            have := hg c (by rw [List.take_of_length_le (by rw [List.length_map, ← ncs, List.length_map]; exact Nat.le_refl _)]; exact hcm)
            rw [this]
            exact Bool.false_ne_true
          rw [this]
        rw [ek] at k
        have nxd : x ≠ d := ne_of_none hx nd
        walk_at "go"
        refine g_sf w (upd_old hx nd) TF.cS TF.sb (show 0 < 1000 by decide) fun H6 w => ?_
        rw [putF_nil] at w
        exact k d _ H6 (Same.setL S1 nx) upd_same (by rw [upd_ne nxd.symm]; exact upd_same) w
end
end Sv


set_option Elab.async false
set_option linter.all false
set_option maxRecDepth 100000
set_option maxHeartbeats 4000000
namespace Sv
open PySem PySem.Spec PyProof.Rows L2 Sw
def weight (ws : List Str) : Nat := (ws.map (·.length)).sum + ws.length
theorem weight_app (a b : List Str) : weight (a ++ b) = weight a + weight b := by
  unfold weight
  rw [List.map_append, List.sum_append, List.length_append]
  omega
theorem weight_take (ws : List Str) (n : Nat) : weight (ws.take n) ≤ weight ws := by
  have := weight_app (ws.take n) (ws.drop n)
  rw [List.take_append_drop] at this
  omega
theorem weight_drop (ws : List Str) (n : Nat) : weight (ws.drop n) ≤ weight ws := by
  have := weight_app (ws.take n) (ws.drop n)
  rw [List.take_append_drop] at this
  omega
theorem cutV_strs (ws : List Str) (lo hi : Option Int) : ∃ us : List Str, cutV (ws.map V.str) lo hi = us.map V.str ∧ weight us ≤ weight ws := by
  refine ⟨(ws.drop (HT.sIx (ws.map V.str).length 0 lo)).take (HT.sIx (ws.map V.str).length (ws.map V.str).length hi - HT.sIx (ws.map V.str).length 0 lo), ?_, Nat.le_trans (weight_take _ _) (weight_drop _ _)⟩
  unfold cutV
  rw [List.map_take, List.map_drop]
theorem join_weight (ws : List Str) : (Txt.join " " ws).length ≤ weight ws := by
  rw [TL.join_eq]
  cases ws with
  | nil => decide
  | cons a l =>
    rw [len_join_cons]
    unfold weight
    have e : (" " : Str).length = 1 := rfl
    rw [e, List.length_cons]
    omega
theorem split_weight' (s : Str) : weight (Txt.split s " ") ≤ s.length + 1 := split_weight s " " (by decide)
theorem mem_weight {ws : List Str} {x : Str} (h : x ∈ ws) : x.length ≤ weight ws := by
  have := le_sum (List.mem_map_of_mem (f := fun w : Str => w.length) h)
  unfold weight
  omega
end Sv

set_option Elab.async false
set_option linter.all false
set_option maxRecDepth 100000
set_option maxHeartbeats 4000000
namespace Sv
open PySem PySem.Spec PyProof.Rows L2 Sw
local macro_rules | `(tactic| walk_at "go1") => `(tactic| first
  | ((with_reducible refine' g_var ?hv ?_); (case hv => rfl))
  | with_reducible refine g_c ?_
  | with_reducible refine g_op ?_
  | with_reducible refine g_un ?_
  | with_reducible refine g_seq ?_
  | with_reducible refine g_next ?_
  | with_reducible refine g_asg ?_
  | with_reducible refine g_name ?_
  | with_reducible refine g_drop ?_
  | with_reducible refine g_sub ?_
  | with_reducible refine g_ret ?_
  | with_reducible refine g_retN ?_
  | with_reducible refine g_ifS ?_
  | with_reducible refine g_if ?_
  | with_reducible refine g_test ?_
  | with_reducible refine g_bl ?_
  | with_reducible refine g_cons ?_
  | with_reducible refine g_nil ?_
  | with_reducible refine g_and ?_
  | with_reducible refine g_or ?_
  | with_reducible refine g_not ?_
  | with_reducible refine g_callB ?_
  | with_reducible refine g_addI ?_
  | with_reducible refine g_I0 ?_
  | with_reducible refine g_calG ?_
  | with_reducible refine g_mkG ?_
  | with_reducible refine g_tup ?_
  | with_reducible refine g_pairs1 ?_
  | with_reducible refine g_pairs0 ?_
  | with_reducible refine g_dget ?_
  | with_reducible refine g_lvals ?_
  | with_reducible refine g_forT ?_
  | with_reducible refine g_lcT ?_
  | with_reducible refine g_dput ?_
  | with_reducible refine g_lc2L ?_
  | with_reducible refine g_iList ?_
  | with_reducible refine g_lcX ?_
  | with_reducible refine g_js1 ?_
  | with_reducible refine g_js0 ?_
  | with_reducible refine g_fmt ?_
  | with_reducible refine g_tLenSet ?_
  | with_reducible refine g_mkV ?_
  | with_reducible refine g_mkV1 ?_
  | with_reducible refine g_lst ?_
  | with_reducible refine g_forL ?_
  | with_reducible refine g_forR ?_
  | with_reducible refine g_forR2 ?_
  | with_reducible refine g_forS ?_
  | with_reducible refine g_forE ?_
  | with_reducible refine g_lcL ?_
  | with_reducible refine g_lcR ?_
  | with_reducible refine g_lcS ?_
  | with_reducible refine g_lcE ?_
  | with_reducible refine g_orT ?_
  | with_reducible refine g_slc ?_
  | with_reducible refine g_noPart ?_
  | with_reducible refine g_part ?_
  | with_reducible refine g_bm ?_
  | with_reducible refine g_par ?_
  | with_reducible refine g_yes ?_
  | with_reducible refine g_tupG ?_
  | with_reducible refine g_lstG ?_
  | with_reducible refine g_gcons ?_
  | with_reducible refine g_gnil ?_
  | with_reducible refine g_chain ?_
  | with_reducible refine g_truB ?_
  | with_reducible refine g_truN ?_
  | with_reducible refine g_truI ?_
  | with_reducible refine g_m1 ?_
  | with_reducible refine g_fld ?_
  | with_reducible refine g_con ?_
  | with_reducible refine g_tru ?_
  | with_reducible refine g_U ?_
  | with_reducible refine g_xg ?_
  | with_reducible refine g_andT ?_
  | with_reducible refine g_exI ?_
  | with_reducible refine g_dnew ?_
  | with_reducible refine g_intB ?_
  | with_reducible refine g_meth ?_
  | with_reducible refine g_prop ?_
  | with_reducible refine g_exc1 ?_
  | with_reducible refine g_setF ?_
  | with_reducible refine g_star ?_
  | with_reducible refine g_strM ?_
  | with_reducible refine iteT ?_
  | with_reducible refine iteF ?_
  | with_reducible refine iteNT ?_
  | with_reducible refine iteNF ?_)
local macro_rules | `(tactic| walk_at "go") => `(tactic| repeat (walk_at "go1"))
local macro_rules | `(tactic| walk_at "sz") => `(tactic| (first | (rw [sizeLine_eq]; simp only [List.length_cons, List.length_nil, List.length_map, List.length_append, List.length_take]; omega) | (rw [sizeLine_eq]; omega)))
def schLines (ts : List Tab) : List Str := ts.flatMap Tab.lines
def schText (ts : List Tab) : Str := Txt.join "" ((schLines ts).map (· ++ ("\n" : Str)))
theorem line_len {t : Tab} (ok : t.ok) {l : Str} (h : l ∈ t.lines) : l.length ≤ 70 := by
  unfold Tab.lines at h
  rcases List.mem_append.mp h with h | h
  · rcases List.mem_cons.mp h with rfl | h
    · have := isNm_len ok.nm
      rw [strLen_append]
      show 6 + t.name.length ≤ 70
      omega
    · obtain ⟨c, hc, rfl⟩ := List.mem_map.mp h
      have h1 := join_weight c.words
      have h2 := Col.text_len (ok.co c hc)
      unfold weight at h1
      exact Nat.le_trans h1 (by omega)
  · obtain ⟨g, hg, rfl⟩ := List.mem_map.mp h
    obtain ⟨g1, g2⟩ := isGrp_names ok.co (ok.gr g hg)
    have h1 := join_weight (("unique" : Str) :: g)
    have h2 := grp_size g1 g2
    unfold weight at h1
    have h3 : (" " : Str).length = 1 := rfl
    rw [h3] at h2
    unfold grpText
    omega
section
variable {P : Program} {wo : World} {A : Ad} {K : PySem.W.Frag} {mg : Str → Option Value} {base : Heap}
/-! ### Schema.tables -/
def spTables (K : PySem.W.Frag) (A : Ad) : Sp := fun vs H Q _ => ∃ G R x ts, vs = [.ref x] ∧ Wd G R H ∧ SchAt K A G x ts ∧ ∀ p tas G' H', Same G G' → G p = none → G' p = some (.lst (tas.map V.ref)) → TabsAt K A G ts tas → Wd G' R H' → Q (.ref p) H'
theorem sc_Schema_tables : FnScope (["self"] : List Str) (["self"] : List Str) (defScope s_Schema_tables) := ⟨rfl, rfl, rfl, by decide +kernel, rfl, by decide +kernel, by decide +kernel⟩
theorem ok_tables {f : Addr} {fd : FuncData} (F : Fun K "tables" "Schema.tables" s_Schema_tables f fd) (T : Txt K mg A) (TF : TabF K A) : FnOk P wo K mg base (L2.CX P wo) 1 f fd (["self"] : List Str) (spTables K A) := by
  refine okT F sc_Schema_tables (fun vs H Q E h => ?_) (fun cdv Ar outer s H vs Q E hr tk po h => ?_)
  · obtain ⟨_, _, _, _, rfl, _⟩ := h
    rfl
  obtain ⟨G, R, x, ts, rfl, w, ⟨dx, d, tas, h1, h2, h3⟩, k⟩ := h
  refine ⟨_, (pss_one (ps_ret (pe_listVals rfl (by rfl) T.nb_list (by decide +kernel) (ke_fld K (pv 0) rfl)))), ?_⟩
  walk_at "go"
  refine g_gf w h1 TF.cS TF.sb lk_eq ?_
  refine ⟨d, _, rfl, w.get h2, ?_⟩
  rw [nKvs_vals (by rw [List.length_map]; exact Sw.Paired.len h3)]
  refine g_newO w fun p G1 H1 n1 s1 q1 w1 => ?_
  exact k p tas G1 H1 s1 n1 q1 h3 w1
theorem prop_tables {G H : Hp} {R : Res} {a : Addr} {ts : List Tab} {Q : VK} (GS : GPr P wo K mg base 1 A.Schema "tables" (fun vs _ => spTables K A vs)) (w : Wd G R H) (h : SchAt K A G a ts) (k : ∀ p tas G' H', Same G G' → G p = none → G' p = some (.lst (tas.map V.ref)) → TabsAt K A G ts tas → Wd G' R H' → Q (.ref p) H') :
    ∃ a' C dx fs sp, V.ref a = .ref a' ∧ H a' = some (.ins C dx fs) ∧ GPr P wo K mg base 1 C "tables" sp ∧ sp [.ref a'] [] H Q E0 := by
  obtain ⟨dx, d, tas, h1, h2⟩ := id h
  exact ⟨a, _, dx, _, _, rfl, w.get h1, GS, G, R, a, ts, rfl, w, h, k⟩
/-! ### Schema.text -/
def spSText (K : PySem.W.Frag) (A : Ad) : Sp := fun vs H Q _ => ∃ G R x ts, vs = [.ref x] ∧ Wd G R H ∧ SchAt K A G x ts ∧ (∀ t ∈ ts, t.ok) ∧ (schLines ts).length ≤ 100000 ∧ ∀ H', Wd G R H' → Q (.str (schText ts)) H'
theorem sc_Schema_text : FnScope (["self", "lines", "line", "table"] : List Str) (["self"] : List Str) (defScope s_Schema_text) := ⟨rfl, rfl, rfl, by decide +kernel, rfl, by decide +kernel, by decide +kernel⟩
theorem ok_stext {f : Addr} {fd : FuncData} (F : Fun K "text" "Schema.text" s_Schema_text f fd) (T : Txt K mg A) (TF : TabF K A) (GS : GPr P wo K mg base 1 A.Schema "tables" (fun vs _ => spTables K A vs)) (ML : GMt P wo K mg base 5 A.Table "lines" 0 [] (fun vs _ => spLines K A vs)) :
    FnOk P wo K mg base (L2.CX P wo) 6 f fd (["self"] : List Str) (spSText K A) := by
  refine okT F sc_Schema_text (fun vs H Q E h => ?_) (fun cdv Ar outer s H vs Q E hr tk po h => ?_)
  · obtain ⟨_, _, _, _, rfl, _⟩ := h
    rfl
  obtain ⟨G, R, x, ts, rfl, w, hs, ok, hl, k⟩ := h
  refine ⟨_, (pss_cons (ps_setLc2 (i := 1) (own := [("table", 3), ("line", 2)]) (vs1 := [2]) (g := (gName 3)) (g1 := (gName 2)) (tt := tYes) (tt1 := tYes) rfl sc_Schema_text.nd rfl rfl (sw_true rfl rfl rfl (by decide +kernel)) (ki_list K (kp_prop (k := 1) P wo K mg base (pv 0) (hr.mono (by decide)))) (blkOk_by (N := (["self", "lines", "line", "table"] : List Str)) (sc := defScope s_Schema_text) (by decide +kernel)) (by decide) (fun _ _ _ _ _ => (pg_name (i := 3) sc_Schema_text.nd rfl (by first | exact Or.inl rfl | exact Or.inr rfl))) (fun _ _ _ _ _ => pts_nil) (fun _ _ _ _ _ => (ki_list K (kp_meth0 (k := 5) (n := 0) P wo K mg base (pv 3) (hr.mono (by decide)) takes0 pk_nil))) (fun _ _ _ _ _ => (pg_name (i := 2) sc_Schema_text.nd rfl (by first | exact Or.inl rfl | exact Or.inr rfl))) (fun _ _ _ _ _ => pts_nil) (fun _ _ _ _ _ => (pv 2)))
      (pss_one (ps_ret (ke_join K pe_str (pe_lc (own := [("line", 2)]) (g := (gName 2)) (tt := tYes) rfl sc_Schema_text.nd (ki_list K (pv 1)) (blkOk_by (N := (["self", "lines", "line", "table"] : List Str)) (sc := defScope s_Schema_text) (by decide +kernel)) (fun _ _ _ _ _ => (pg_name (i := 2) sc_Schema_text.nd rfl (by first | exact Or.inl rfl | exact Or.inr rfl))) (fun _ _ _ _ _ => pts_nil) (fun _ _ _ _ _ => (pe_op (ka_add K) (pv 2) pe_str))))))), ?_⟩
  walk_at "go"
  refine prop_tables GS w hs fun p tas G1 H1 s1 n1 q1 t1 w => ?_
  refine ⟨p, rfl, ⟨_, SqL.of (w.get q1)⟩, ?_⟩
  have sub : ∀ i, (schLines (ts.take i)).length ≤ 100000 := fun i => by
    have e : schLines ts = schLines (ts.take i) ++ schLines (ts.drop i) := by
      unfold schLines
      rw [← List.flatMap_append, List.take_append_drop]
    rw [e, List.length_append] at hl
    omega
  refine lc2_it (itf_list (xs := tas.map V.ref)) w (fun H e => SqL.of (e _ _ q1)) (fun i _ acc => acc = (schLines (ts.take i)).map V.str) rfl ?_ ?_
  · rintro i y Gi acc D H2 H3 hi e nD rfl wi ⟨rfl, hy⟩
    rw [List.getElem?_map] at hy
    obtain ⟨a, ha, rfl⟩ := Option.map_eq_some_iff.mp hy
    obtain ⟨t, hti, hta⟩ := Sw.Paired.atR t1 ha
    have S2 : Same G (upd Gi D (.lst ((schLines (ts.take i)).map V.str))) := Same.trans (Same.trans s1 e) (Same.newG nD)
    have hta' := hta.same S2
    obtain ⟨dx, d, gl, as, us, h1, h2⟩ := id hta'
    walk_at "go"
    refine ⟨rfl, ?_⟩
    walk_at "go"
    refine ⟨a, _, dx, _, _, rfl, wi.get h1, tf_lines, ML, ?_⟩
    walk_at "go"
    refine ⟨rfl, rfl, _, R, a, t, rfl, wi, hta', ok t (List.mem_of_getElem? hti), fun l G4 H4 s4 n4 q4 w4 => ?_⟩
    refine ⟨l, rfl, ⟨_, SqL.of (w4.get q4)⟩, ?_⟩
    have e4 : schLines (ts.take (i + 1)) = schLines (ts.take i) ++ t.lines := by
      unfold schLines
      rw [List.take_add_one, hti, List.flatMap_append]
      simp
    have nDl : D ≠ l := ne_of_none upd_same n4
    -- the new list apart
    obtain ⟨Gm, em, nm, qm, wm⟩ : ∃ Gm, Same Gi Gm ∧ Gm D = none ∧ Gm l = some (.lst (t.lines.map V.str)) ∧ Wd (upd Gm D (.lst ((schLines (ts.take i)).map V.str))) R H4 := by
      obtain ⟨Gm, em, nm, am, wm⟩ := Wd.apart s4 nD w4
      exact ⟨Gm, em, nm, by rw [am l nDl.symm]; exact q4, wm⟩
    refine in_it (itf_list (xs := t.lines.map V.str)) wm nm (fun H e => SqL.of (e _ _ qm)) (fun j _ acc => acc = (schLines (ts.take i) ++ t.lines.take j).map V.str) (by simp) ?_ ?_
    · rintro j z Gj acc H5 H6 hj ej nDj rfl wj ⟨rfl, hz⟩
      rw [List.getElem?_map] at hz
      obtain ⟨ln, hln, rfl⟩ := Option.map_eq_some_iff.mp hz
      walk_at "go"
      refine ⟨rfl, ?_⟩
      walk_at "go"
      refine nx_keep (Pv := fun j _ acc => acc = (schLines (ts.take i) ++ t.lines.take j).map V.str) wj ej nDj ?_ ?_
      · have := sub (i + 1)
        rw [e4, List.length_append] at this
        rw [sizeLine_eq, List.length_map, List.length_append, List.length_take]
        omega
      · rw [List.take_add_one, hln]
        simp
    · rintro Gn acc H5 en nDn rfl wn
      refine ⟨Gn, _, Same.trans e (Same.trans em en), nDn, ?_, wn⟩
      show _ = (schLines (ts.take (i + 1))).map V.str
      rw [e4, List.length_map, List.take_length]
  · rintro D Gn acc H2 e nD rfl w
    have et : ts.take (tas.map V.ref).length = ts := List.take_of_length_le (by rw [List.length_map, ← Sw.Paired.len t1]; exact Nat.le_refl _)
    rw [et] at w
    walk_at "go"
    refine ⟨D, rfl, ⟨_, SqL.of (w.get upd_same)⟩, ?_⟩
    refine lc_it (itf_list (xs := (schLines ts).map V.str)) w (fun H e => SqL.of (e _ _ upd_same)) (by rw [sizeLine_eq, List.length_map]; omega) (fun i _ acc => acc = (((schLines ts).take i).map (· ++ ("\n" : Str))).map V.str) rfl ?_ ?_
    · rintro i y Gi acc D2 H3 H4 hi e2 nD2 rfl ha w3 ⟨rfl, hy⟩
      rw [List.getElem?_map] at hy
      obtain ⟨ln, hln, rfl⟩ := Option.map_eq_some_iff.mp hy
      have lnl : ln.length ≤ 70 := by
        obtain ⟨t, ht, hm⟩ := List.mem_flatMap.mp (List.mem_of_getElem? hln)
        exact line_len (ok t ht) hm
      walk_at "go"
      refine ⟨rfl, ?_⟩
      walk_at "go"
      refine g_addS (by rw [sizeLine_eq]; show ln.length + 1 ≤ _; omega) ?_
      refine lc_keep (Pv := fun i _ acc => acc = (((schLines ts).take i).map (· ++ ("\n" : Str))).map V.str) w3 e2 nD2 ha hi (by rw [sizeLine_eq, List.length_map]; omega) ?_
      rw [List.take_add_one, hln]
      simp
    · rintro D2 Gn2 acc H3 e2 nD2 rfl ha w
      rw [List.length_map, List.take_length] at w
      walk_at "go"
      refine g_join w (SqL.of upd_same) ?_ ?_
      · have b : ∀ l : List Str, (∀ x ∈ l, x.length ≤ 70) → ((l.map (· ++ ("\n" : Str))).map (·.length)).sum ≤ 71 * l.length := fun l => by
          induction l with
          | nil => intro _; exact Nat.le_refl _
          | cons x l ih =>
            intro h
            have h1 := h x List.mem_cons_self
            have h2 := ih fun y hy => h y (List.mem_cons_of_mem _ hy)
            rw [List.map_cons, List.map_cons, List.sum_cons, List.length_cons, strLen_append]
            show x.length + 1 + _ ≤ _
            omega
        have := b (schLines ts) fun x hx => by
          obtain ⟨t, ht, hm⟩ := List.mem_flatMap.mp hx
          exact line_len (ok t ht) hm
        have z : ("" : Str).length = 0 := rfl
        rw [z]
        omega
      · exact k _ (w.drop (Same.trans (Same.trans s1 (Same.trans e (Same.newG nD))) (Same.trans e2 (Same.newG nD2))))
end
end Sv


set_option Elab.async false
set_option linter.all false
set_option maxRecDepth 100000
set_option maxHeartbeats 4000000
namespace Sv
open PySem PySem.Spec PyProof.Rows L2 Sw
local macro_rules | `(tactic| walk_at "go1") => `(tactic| first
  | ((with_reducible refine' g_var ?hv ?_); (case hv => rfl))
  | with_reducible refine g_c ?_
  | with_reducible refine g_op ?_
  | with_reducible refine g_un ?_
  | with_reducible refine g_seq ?_
  | with_reducible refine g_next ?_
  | with_reducible refine g_asg ?_
  | with_reducible refine g_name ?_
  | with_reducible refine g_drop ?_
  | with_reducible refine g_sub ?_
  | with_reducible refine g_ret ?_
  | with_reducible refine g_retN ?_
  | with_reducible refine g_ifS ?_
  | with_reducible refine g_if ?_
  | with_reducible refine g_test ?_
  | with_reducible refine g_bl ?_
  | with_reducible refine g_cons ?_
  | with_reducible refine g_nil ?_
  | with_reducible refine g_and ?_
  | with_reducible refine g_or ?_
  | with_reducible refine g_not ?_
  | with_reducible refine g_callB ?_
  | with_reducible refine g_addI ?_
  | with_reducible refine g_I0 ?_
  | with_reducible refine g_calG ?_
  | with_reducible refine g_mkG ?_
  | with_reducible refine g_tup ?_
  | with_reducible refine g_pairs1 ?_
  | with_reducible refine g_pairs0 ?_
  | with_reducible refine g_dget ?_
  | with_reducible refine g_lvals ?_
  | with_reducible refine g_forT ?_
  | with_reducible refine g_lcT ?_
  | with_reducible refine g_dput ?_
  | with_reducible refine g_lc2L ?_
  | with_reducible refine g_iList ?_
  | with_reducible refine g_lcX ?_
  | with_reducible refine g_js1 ?_
  | with_reducible refine g_js0 ?_
  | with_reducible refine g_fmt ?_
  | with_reducible refine g_tLenSet ?_
  | with_reducible refine g_mkV ?_
  | with_reducible refine g_mkV1 ?_
  | with_reducible refine g_lst ?_
  | with_reducible refine g_forL ?_
  | with_reducible refine g_forR ?_
  | with_reducible refine g_forR2 ?_
  | with_reducible refine g_forS ?_
  | with_reducible refine g_forE ?_
  | with_reducible refine g_lcL ?_
  | with_reducible refine g_lcR ?_
  | with_reducible refine g_lcS ?_
  | with_reducible refine g_lcE ?_
  | with_reducible refine g_orT ?_
  | with_reducible refine g_slc ?_
  | with_reducible refine g_noPart ?_
  | with_reducible refine g_part ?_
  | with_reducible refine g_bm ?_
  | with_reducible refine g_par ?_
  | with_reducible refine g_yes ?_
  | with_reducible refine g_tupG ?_
  | with_reducible refine g_lstG ?_
  | with_reducible refine g_gcons ?_
  | with_reducible refine g_gnil ?_
  | with_reducible refine g_chain ?_
  | with_reducible refine g_truB ?_
  | with_reducible refine g_truN ?_
  | with_reducible refine g_truI ?_
  | with_reducible refine g_m1 ?_
  | with_reducible refine g_fld ?_
  | with_reducible refine g_con ?_
  | with_reducible refine g_tru ?_
  | with_reducible refine g_U ?_
  | with_reducible refine g_xg ?_
  | with_reducible refine g_andT ?_
  | with_reducible refine g_exI ?_
  | with_reducible refine g_dnew ?_
  | with_reducible refine g_intB ?_
  | with_reducible refine g_meth ?_
  | with_reducible refine g_prop ?_
  | with_reducible refine g_exc1 ?_
  | with_reducible refine g_setF ?_
  | with_reducible refine g_star ?_
  | with_reducible refine g_strM ?_
  | with_reducible refine iteT ?_
  | with_reducible refine iteF ?_
  | with_reducible refine iteNT ?_
  | with_reducible refine iteNF ?_)
local macro_rules | `(tactic| walk_at "go") => `(tactic| repeat (walk_at "go1"))
local macro_rules | `(tactic| walk_at "sz") => `(tactic| (first | (rw [sizeLine_eq]; simp only [List.length_cons, List.length_nil, List.length_map, List.length_append, List.length_take]; omega) | (rw [sizeLine_eq]; omega)))
theorem Same.updR {G G' : Hp} {p : Addr} {o : HO} (e : Same G G') (h : G' p = some o) : Same (upd G p o) G' := fun b u z => by
  by_cases hb : b = p
  · subst hb
    rw [upd_same] at z
    cases z
    exact h
  · rw [upd_ne hb] at z
    exact e _ _ z
theorem Wd.take {G H : Hp} {R : Res} {l : Addr} {o : HO} (w : Wd G R H) (h : G l = some o) : ∃ Gm, Gm l = none ∧ (∀ b, b ≠ l → Gm b = G b) ∧ Wd (upd Gm l o) R H := by
  refine ⟨fun b => if b = l then none else G b, if_pos rfl, fun b hb => if_neg hb, ?_⟩
  have : upd (fun b => if b = l then none else G b) l o = G := by
    funext b
    by_cases hb : b = l
    · rw [hb, upd_same, h]
    · rw [upd_ne hb]
      exact if_neg hb
  rw [this]
  exact w
/-! ### took_column -/
structure ExT (K : PySem.W.Frag) (A : Ad) : Prop where
  tt : PySem.W.exmOne K (.ref A.InvalidText) (.ref A.InvalidText) = some true
def spTookCol (K : PySem.W.Frag) (A : Ad) : Sp := fun vs H Q _ => ∃ G R l xs line, vs = [.ref l, .str line] ∧ G l = none ∧ Wd (upd G l (.lst xs)) R H ∧ line.length ≤ 1000000 ∧ xs.length ≤ 1000 ∧
  (∀ c, parseT line = some c → ∀ x G' H', Same G G' → G x = none → x ≠ l → G' l = none → ColAt A G' x c → Wd (upd G' l (.lst (xs ++ [.ref x]))) R H' → Q (.bl true) H') ∧ (parseT line = none → ∀ H', Wd (upd G l (.lst xs)) R H' → Q (.bl false) H')
section
variable {P : Program} {wo : World} {A : Ad} {K : PySem.W.Frag} {mg : Str → Option Value} {base : Heap}
theorem sc_took_column : FnScope (["columns", "line", "found"] : List Str) (["columns", "line"] : List Str) (defScope s_took_column) := ⟨rfl, rfl, rfl, by decide +kernel, rfl, by decide +kernel, by decide +kernel⟩
theorem ok_took_col {f : Addr} {fd : FuncData} (F : Fun K "took_column" "took_column" s_took_column f fd) (T : Txt K mg A) (ET : ExT K A) (Gpar : GSt P wo K mg base 7 "Column" "parse" 1 [] (fun vs _ => spParse K A vs)) : FnOk P wo K mg base (L2.CX P wo) 8 f fd (["columns", "line"] : List Str) (spTookCol K A) := by
  refine okT F sc_took_column (fun vs H Q E h => ?_) (fun cdv Ar outer s H vs Q E hr tk po h => ?_)
  · obtain ⟨_, _, _, _, _, rfl, _⟩ := h
    rfl
  obtain ⟨G, R, l, xs, line, rfl, nl, w, hline, hxs, k1, k2⟩ := h
  refine ⟨_, (pss_cons (ps_set (i := 2) sc_took_column.nd rfl (by first | exact Or.inl rfl | exact Or.inr rfl) pe_non)
      (pss_cons (ps_try_only rfl rfl (names_of rfl T.g_InvalidText) tk (fun _ _ _ tk po => (pss_one (ps_set (i := 2) sc_took_column.nd rfl (by first | exact Or.inl rfl | exact Or.inr rfl) (pe_static Gpar (hr.mono (by decide)) tk (pa_cons (pv 1) pa_nil) pk_nil)))) (fun _ _ _ _ _ hz hf => (pss_one (ps_ret pe_bl))))
      (pss_cons (ps_expr (pe_bm PySem.F.plainAttrs_list PySem.F.slot_list_append PySem.F.type_list_append mt_append (pv 0) (pa_cons (pv 2) pa_nil)))
      (pss_one (ps_ret pe_bl))))), ?_⟩
  walk_at "go"
  refine ⟨rfl, rfl, _, R, .str line, rfl, w, .inl ⟨line, rfl, hline, fun c hc x G' H1 e1 nx hx w1 => ?_, fun hc G' d H1 e1 nd hd w1 => ?_⟩⟩
  · walk_at "go"
    have hl1 : G' l = some (.lst xs) := e1 _ _ upd_same
    refine g_tyL w1 hl1 ?_
    walk_at "go"
    refine g_app w1 hl1 (by rw [sizeLine_eq]; omega) fun H2 w2 => ?_
    walk_at "go"
    obtain ⟨nx1, nx2⟩ := upd_nonne nx
    obtain ⟨Gm, n1, n2, w3⟩ := Sv.Wd.take w2 upd_same
    have am : ∀ b, b ≠ l → Gm b = G' b := fun b hb => by rw [n2 b hb, upd_ne hb]
    refine k1 c hc x Gm H2 (fun b u e => ?_) nx1 nx2 n1 ?_ w3
    · have hb : b ≠ l := ne_of_none e nl
      rw [am b hb]
      exact e1 _ _ (by rw [upd_ne hb]; exact e)
    · obtain ⟨dx, hx⟩ := hx
      exact ⟨dx, by rw [am x nx2]; exact hx⟩
  · refine ⟨true, ET.tt, fun _ ea he => ?_, fun z => Bool.noConfusion z⟩
    walk_at "go"
    exact k2 hc _ (w1.drop e1)
/-! ### took_line -/
end
abbrev Part := Str × List Col × List (List Str)
def tookLine (parts : List Part) (line : Str) : Option (List Part) :=
  if wAt (Txt.split line " ") 0 = "table" ∧ (Txt.split line " ").length = 2 ∧ isNm (wAt (Txt.split line " ") 1) = true then some (parts ++ [(wAt (Txt.split line " ") 1, [], [])])
  else match parts.getLast? with
    | none => none
    | some p =>
      if wAt (Txt.split line " ") 0 = "unique" then
        if 2 ≤ (Txt.split line " ").length ∧ (Txt.split line " ").length ≤ 4 ∧ ((Txt.split line " ").drop 1).all isNm = true then some (parts.dropLast ++ [(p.1, p.2.1, p.2.2 ++ [(Txt.split line " ").drop 1])]) else none
      else if p.2.2 = [] then match parseT line with
        | some c => some (parts.dropLast ++ [(p.1, p.2.1 ++ [c], p.2.2)])
        | none => none
      else none
def FrozAt (K : PySem.W.Frag) (A : Ad) (G : Hp) (ps : List Part) (ts : List Addr) : Prop := Paired (fun p t => ∃ cl gl as us, G t = some (.tup [.str p.1, .ref cl, .ref gl]) ∧ G cl = some (.lst (as.map V.ref)) ∧ ColsAt A G p.2.1 as ∧ G gl = some (.lst us) ∧ GrpsAt K G p.2.2 us) ps ts
theorem FrozAt.same {K : PySem.W.Frag} {A : Ad} {G G' : Hp} {ps : List Part} {ts : List Addr} (h : FrozAt K A G ps ts) (e : Same G G') : FrozAt K A G' ps ts :=
  Sw.Paired.imp (fun _ _ ⟨cl, gl, as, us, h1, h2, h3, h4, h5⟩ => ⟨cl, gl, as, us, e _ _ h1, e _ _ h2, h3.same e, e _ _ h4, h5.same e⟩) h
/-- the parts so far: those before the last are frozen -/
def LastAt (K : PySem.W.Frag) (A : Ad) (G0 G1 : Hp) (pl : Addr) (parts : List Part) (ts : List Addr) : Prop :=
  (parts = [] ∧ ts = [] ∧ Same G0 G1) ∨
  ∃ G init p ts0 t cl gl as us, parts = init ++ [p] ∧ ts = ts0 ++ [t] ∧ Same G0 G ∧ G pl = none ∧ G cl = none ∧ G gl = none ∧ pl ≠ cl ∧ pl ≠ gl ∧ cl ≠ gl ∧ FrozAt K A G init ts0 ∧ G t = some (.tup [.str p.1, .ref cl, .ref gl]) ∧ ColsAt A G p.2.1 as ∧ GrpsAt K G p.2.2 us ∧
    G1 = upd (upd G cl (.lst (as.map V.ref))) gl (.lst us)
def PState (K : PySem.W.Frag) (A : Ad) (G0 : Hp) (R : Res) (pl : Addr) (parts : List Part) (H : Hp) : Prop :=
  ∃ G1 ts, LastAt K A G0 G1 pl parts ts ∧ G1 pl = none ∧ Wd (upd G1 pl (.lst (ts.map V.ref))) R H
theorem LastAt.froz {K : PySem.W.Frag} {A : Ad} {G0 G1 : Hp} {pl : Addr} {parts : List Part} {ts : List Addr} (h : LastAt K A G0 G1 pl parts ts) : Same G0 G1 ∧ FrozAt K A G1 parts ts := by
  rcases h with ⟨rfl, rfl, e⟩ | ⟨G, init, p, ts0, t, cl, gl, as, us, rfl, rfl, e, n1, n2, n3, d1, d2, d3, hf, ht, hc, hg, rfl⟩
  · exact ⟨e, .nil⟩
  · have s3 : Same G (upd (upd G cl (.lst (as.map V.ref))) gl (.lst us)) := Same.setL (Same.newG n2) n3
    refine ⟨Same.trans e s3, Sw.Paired.app (hf.same s3) (.cons ⟨cl, gl, as, us, s3 _ _ ht, ?_, hc.same s3, upd_same, hg.same s3⟩ .nil)⟩
    rw [upd_ne d3]; exact upd_same
/-- one more table -/
theorem PState.table {K : PySem.W.Frag} {A : Ad} {G0 G G2 : Hp} {R : Res} {pl c g t : Addr} {parts : List Part} {ts : List Addr} {H : Hp} {n : Str} (e : Same G0 G) (np : G pl = none) (nc : G c = none) (ng : G g = none) (d1 : pl ≠ c) (d2 : pl ≠ g) (d3 : c ≠ g) (hf : FrozAt K A G parts ts) (ht : G t = some (.tup [.str n, .ref c, .ref g]))
    (s : Same G G2) (h1 : G2 pl = some (.lst ((ts ++ [t]).map V.ref))) (h2 : G2 c = some (.lst [])) (h3 : G2 g = some (.lst [])) (w : Wd G2 R H) : PState K A G0 R pl (parts ++ [(n, [], [])]) H :=
  ⟨_, ts ++ [t], .inr ⟨G, parts, (n, [], []), ts, t, c, g, [], [], rfl, rfl, e, np, nc, ng, d1, d2, d3, hf, ht, .nil, .nil, rfl⟩, by rw [upd_ne d2, upd_ne d1]; exact np, w.drop (Same.updR (Same.updR (Same.updR s h2) h3) h1)⟩
/-- the last table's lists changed -/
theorem PState.last {K : PySem.W.Frag} {A : Ad} {G0 G G2 : Hp} {R : Res} {pl cl gl t : Addr} {init : List Part} {ts0 : List Addr} {H : Hp} {p : Part} {as : List Addr} {us : List V} (e : Same G0 G) (n1 : G pl = none) (n2 : G cl = none) (n3 : G gl = none) (d1 : pl ≠ cl) (d2 : pl ≠ gl) (d3 : cl ≠ gl) (hf : FrozAt K A G init ts0) (ht : G t = some (.tup [.str p.1, .ref cl, .ref gl]))
    (hc : ColsAt A G p.2.1 as) (hg : GrpsAt K G p.2.2 us) (s : Same G G2) (h1 : G2 pl = some (.lst ((ts0 ++ [t]).map V.ref))) (h2 : G2 cl = some (.lst (as.map V.ref))) (h3 : G2 gl = some (.lst us)) (w : Wd G2 R H) : PState K A G0 R pl (init ++ [p]) H :=
  ⟨_, ts0 ++ [t], .inr ⟨G, init, p, ts0, t, cl, gl, as, us, rfl, rfl, e, n1, n2, n3, d1, d2, d3, hf, ht, hc, hg, rfl⟩, by rw [upd_ne d2, upd_ne d1]; exact n1, w.drop (Same.updR (Same.updR (Same.updR s h2) h3) h1)⟩
def Psz (parts : List Part) (i : Nat) : Prop := parts.length ≤ i ∧ ∀ p ∈ parts, p.2.1.length ≤ i ∧ p.2.2.length ≤ i
def spTookLine (K : PySem.W.Frag) (A : Ad) : Sp := fun vs H Q _ => ∃ G0 R pl parts line i, vs = [.ref pl, .str line] ∧ PState K A G0 R pl parts H ∧ line.length ≤ 1000000 ∧ Psz parts i ∧ i ≤ 1000 ∧
  (∀ ps, tookLine parts line = some ps → ∀ H', PState K A G0 R pl ps H' → Q (.bl true) H') ∧ (tookLine parts line = none → ∀ H', Wd G0 R H' → Q (.bl false) H')
def tbLine (ws : List Str) : Prop := wAt ws 0 = "table" ∧ ws.length = 2 ∧ isNm (wAt ws 1) = true
theorem tl_table {parts : List Part} {line : Str} (h : tbLine (Txt.split line " ")) : tookLine parts line = some (parts ++ [(wAt (Txt.split line " ") 1, [], [])]) := if_pos h
theorem tl_nil {line : Str} (h : ¬ tbLine (Txt.split line " ")) : tookLine [] line = none := if_neg h
theorem tl_last {init : List Part} {p : Part} {line : Str} (h : ¬ tbLine (Txt.split line " ")) : tookLine (init ++ [p]) line =
    if wAt (Txt.split line " ") 0 = "unique" then
        if 2 ≤ (Txt.split line " ").length ∧ (Txt.split line " ").length ≤ 4 ∧ ((Txt.split line " ").drop 1).all isNm = true then some (init ++ [(p.1, p.2.1, p.2.2 ++ [(Txt.split line " ").drop 1])]) else none
      else if p.2.2 = [] then match parseT line with
        | some c => some (init ++ [(p.1, p.2.1 ++ [c], p.2.2)])
        | none => none
      else none := by
  unfold tookLine
  rw [List.getLast?_concat, List.dropLast_concat]
  exact if_neg h
section
variable {P : Program} {wo : World} {A : Ad} {K : PySem.W.Frag} {mg : Str → Option Value} {base : Heap}
theorem wAt_get {ws : List Str} {i : Nat} (h : i < ws.length) : (ws.map V.str)[i]? = some (.str (wAt ws i)) := by
  rw [List.getElem?_map, List.getElem?_eq_getElem h]
  unfold wAt
  rw [List.getD_eq_getElem?_getD, List.getElem?_eq_getElem h]
  rfl
theorem atI_nat {xs : List V} {v : V} {i : Nat} (h : xs[i]? = some v) : atI xs (i : Int) = some v := by
  have hj : i < xs.length := (List.getElem?_eq_some_iff.mp h).1
  unfold atI ixN
  rw [if_pos (by omega)]
  rw [if_pos (by omega)]
  exact h
theorem g_ixW {G H : Hp} {R : Res} {p : Addr} {ws : List Str} {i : Nat} {Q : VK} (w : Wd G R H) (h : G p = some (.lst (ws.map V.str))) (hi : i < ws.length) (k : Q (.str (wAt ws i)) H) : rIx K (.ref p) (.int (i : Int)) H Q :=
  g_ixL w (SqL.of h) (atI_nat (wAt_get hi)) k
theorem wAt_mem {ws : List Str} {i : Nat} (h : i < ws.length) : wAt ws i ∈ ws := by
  unfold wAt
  rw [List.getD_eq_getElem?_getD, List.getElem?_eq_getElem h]
  exact List.getElem_mem h
theorem joinQ {c : TT} {σ : L2.St} {H : Hp} {QT : Bool → Hp → Prop} {C : Bool → Hp → Prop} (h : ∀ QT : Bool → Hp → Prop, (∀ b H', C b H' → QT b H') → c σ H QT) (k : ∀ b H', C b H' → QT b H') : c σ H QT := h QT k
theorem cut_one {ws : List Str} : cutV (ws.map V.str) (some 1) none = (ws.drop 1).map V.str := by
  have h1 : HT.sIx (ws.map V.str).length 0 (some 1) = min 1 (ws.map V.str).length := HT.sIx_nat _ _ 1
  have h2 : HT.sIx (ws.map V.str).length (ws.map V.str).length none = (ws.map V.str).length := rfl
  unfold cutV
  rw [h1, h2, List.length_map]
  cases ws with
  | nil => rfl
  | cons a l =>
    have e : min 1 (a :: l).length = 1 := by rw [List.length_cons]; omega
    rw [e, ← List.map_drop, List.take_of_length_le]
    rw [List.length_map, List.length_drop]
    exact Nat.le_refl _
theorem sc_took_line : FnScope (["parts", "line", "words", "name", "columns", "groups", "word"] : List Str) (["parts", "line"] : List Str) (defScope s_took_line) := ⟨rfl, rfl, rfl, by decide +kernel, rfl, by decide +kernel, by decide +kernel⟩
theorem ok_took_line {f : Addr} {fd : FuncData} (F : Fun K "took_line" "took_line" s_took_line f fd) (T : Txt K mg A) (Gn : GFn P wo K mg base 1 "is_name" 1 [] (fun vs _ => spIsName K vs)) (Gtc : GFn P wo K mg base 8 "took_column" 2 [] (fun vs _ => spTookCol K A vs)) : FnOk P wo K mg base (L2.CX P wo) 9 f fd (["parts", "line"] : List Str) (spTookLine K A) := by
  refine okT F sc_took_line (fun vs H Q E h => ?_) (fun cdv Ar outer s H vs Q E hr tk po h => ?_)
  · obtain ⟨_, _, _, _, _, _, rfl, _⟩ := h
    rfl
  obtain ⟨G0, R, pl, parts, line, i, rfl, ⟨G1, tsA, hla, npl, w⟩, hline, hz, hi, k1, k2⟩ := h
  refine ⟨_, (pss_cons (ps_set (i := 2) sc_took_line.nd rfl (by first | exact Or.inl rfl | exact Or.inr rfl) (ke_split (pv 1) pe_str))
      (pss_cons (ps_if (PW.pt (pw_and (pt_cmpR (ka_eq K hr.units) (pe_ix (ka_ix K) (pv 2) pe_int (fun _ _ => rfl)) pe_str (nomark _)) (pw_and (pt_cmpR (ka_eq K hr.units) (pe_callB (ka_len K) (by rfl) T.nb_len (by decide +kernel) (pa_cons (pv 2) pa_nil)) pe_int (nomark _)) (pw_and1 (kt_truth K (pe_callG Gn (hr.mono (by decide)) tk (pa_cons (pe_ix (ka_ix K) (pv 2) pe_int (fun _ _ => rfl)) pa_nil) pk_nil) (by intro _; rfl)))))) (pss_cons (ps_expr (pe_bm PySem.F.plainAttrs_list PySem.F.slot_list_append PySem.F.type_list_append mt_append (pv 0) (pa_cons (pe_tup (pa_cons (pe_ix (ka_ix K) (pv 2) pe_int (fun _ _ => rfl)) (pa_cons (pe_lst pa_nil) (pa_cons (pe_lst pa_nil) pa_nil)))) pa_nil)))
      (pss_one (ps_ret pe_bl))) pss_nil)
      (pss_cons (ps_if (pt_cmpR (op_eqL0 K hr.units) (pv 0) (pe_lst pa_nil) (nomark _)) (pss_one (ps_ret pe_bl)) pss_nil)
      (pss_cons (ps_asg (pe_ix (ka_ix K) (pv 0) (pe_un un_neg pe_int) (fun _ _ => rfl)) (kg_tup (n := 3) K rfl (pgs_cons (pg_name (i := 3) sc_took_line.nd rfl (by first | exact Or.inl rfl | exact Or.inr rfl)) (pgs_cons (pg_name (i := 4) sc_took_line.nd rfl (by first | exact Or.inl rfl | exact Or.inr rfl)) (pgs_cons (pg_name (i := 5) sc_took_line.nd rfl (by first | exact Or.inl rfl | exact Or.inr rfl)) pgs_nil)))))
      (pss_cons (ps_if (pt_cmpR (ka_eq K hr.units) (pe_ix (ka_ix K) (pv 2) pe_int (fun _ _ => rfl)) pe_str (nomark _)) (pss_cons (ps_expr (pe_bm PySem.F.plainAttrs_list PySem.F.slot_list_append PySem.F.type_list_append mt_append (pv 5) (pa_cons (pe_callTy call_tuple_of (by rfl) T.nb_tuple (by decide +kernel) (pa_cons (pe_slice (ka_sl K) (pv 2) (po_some pe_int) po_none) pa_nil)) pa_nil)))
      (pss_one (ps_ret (ke_andT K (pe_chain op_le op_le pe_int (pe_callB (ka_len K) (by rfl) T.nb_len (by decide +kernel) (pa_cons (pv 2) pa_nil)) (pe_op (ka_add K) pe_int (pe_globE (by rfl) T.g_MOST_IN_GROUP))) (pe_one (pe_callB (ka_all K rfl) (by rfl) T.nb_all (by decide +kernel) (pa_cons (pe_lc (own := [("word", 6)]) (g := (gName 6)) (tt := tYes) rfl sc_took_line.nd (ki_list K (pe_slice (ka_sl K) (pv 2) (po_some pe_int) po_none)) (blkOk_by (N := (["parts", "line", "words", "name", "columns", "groups", "word"] : List Str)) (sc := defScope s_took_line) (by decide +kernel)) (fun _ _ _ _ _ => (pg_name (i := 6) sc_took_line.nd rfl (by first | exact Or.inl rfl | exact Or.inr rfl))) (fun _ _ _ _ _ => pts_nil) (fun _ _ _ _ _ => (pe_callG Gn (hr.mono (by decide)) takes0 (pa_cons (pv 6) pa_nil) pk_nil))) pa_nil))))))) pss_nil)
      (pss_one (ps_ret (ke_andT K (pe_cmpR (op_eqL0 K hr.units) (pv 5) (pe_lst pa_nil) (nomark _)) (pe_one (pe_callG Gtc (hr.mono (by decide)) tk (pa_cons (pv 4) (pa_cons (pv 1) pa_nil)) pk_nil)))))))))), ?_⟩
  obtain ⟨e1, hfA⟩ := hla.froz
  have hsz : tsA.length ≤ 1000 := by rw [← Sw.Paired.len hfA]; exact Nat.le_trans hz.1 hi
  have s1 : Same G1 (upd G1 pl (.lst (tsA.map V.ref))) := Same.newG npl
  have hpl : upd G1 pl (.lst (tsA.map V.ref)) pl = some (.lst (tsA.map V.ref)) := upd_same
  generalize upd G1 pl (.lst (tsA.map V.ref)) = G2 at w s1 hpl
  walk_at "go"
  refine g_split w (by decide) (by rw [sizeLine_eq]; omega) fun wl H1 nwl w => ?_
  have hw : ∀ x ∈ Txt.split line " ", x.length ≤ 1000000 := fun x hx => Nat.le_trans (word_len hx) hline
  have hwl := split_weight' line
  have sw : 0 < (Txt.split line " ").length := List.length_pos_iff.mpr (split_ne line)
  have tlt := @tl_table parts line
  have tln := @tl_nil line
  have tll := @tl_last
  replace tll := fun init p => @tll init p line
  generalize hws : Txt.split line " " = ws at *
  have hlw : ws.length ≤ 1000001 := by unfold weight at hwl; omega
  have s2 : Same G2 (upd G2 wl (.lst (ws.map V.str))) := Same.newG nwl
  have hwlG : upd G2 wl (.lst (ws.map V.str)) wl = some (.lst (ws.map V.str)) := upd_same
  have dwl : wl ≠ pl := (ne_of_none hpl nwl).symm
  generalize upd G2 wl (.lst (ws.map V.str)) = G3 at w s2 hwlG
  refine g_name ?_
  with_reducible refine g_seq ?_
  with_reducible refine g_ifS ?_
  refine joinQ (C := fun b H' => Wd G3 R H' ∧ (b = true ↔ tbLine ws)) (fun QT hQ => ?_) (fun b H2 hb => ?_)
  · walk_at "go"
    refine g_ixW (i := 0) w hwlG sw ?_
    walk_at "go"
    refine g_eqS rfl ?_
    walk_at "go"
    refine iteD (fun h1 => ?_) (fun h1 => ?_)
    · walk_at "go"
      refine g_lenL w (SqL.of hwlG) ?_
      rw [List.length_map]
      walk_at "go"
      refine g_eqS rfl ?_
      walk_at "go"
      refine iteD (fun h2 => ?_) (fun h2 => ?_)
      · walk_at "go"
        have h2' : ws.length = 2 := by have := V.int.inj h2; omega
        refine g_ixW (i := 1) w hwlG (by omega) ?_
        walk_at "go"
        refine ⟨rfl, rfl, _, rfl, .inl ⟨_, rfl, hw _ (wAt_mem (by omega)), fun H3 e3 => ?_⟩⟩
        walk_at "go"
        refine hQ _ _ ⟨w.same e3, ?_⟩
        exact ⟨fun z => ⟨V.str.inj h1, h2', z⟩, fun z => z.2.2⟩
      · walk_at "go"
        exact hQ _ _ ⟨w, fun z => Bool.noConfusion z, fun z => absurd (congrArg (fun n : Nat => V.int (n : Int)) z.2.1) h2⟩
    · walk_at "go"
      exact hQ _ _ ⟨w, fun z => Bool.noConfusion z, fun z => absurd (congrArg V.str z.1) h1⟩
  obtain ⟨w, hb⟩ := hb
  cases b with
  | true =>
    have ht := hb.mp rfl
    walk_at "go"
    refine g_tyL w (s2 _ _ hpl) ?_
    walk_at "go"
    refine g_ixW (i := 1) w hwlG (by have := ht.2.1; omega) ?_
    walk_at "go"
    refine g_newA w (by walk_at "sz") fun c G4 H4 n4 s4 q4 w => ?_
    walk_at "go"
    refine g_newA w (by walk_at "sz") fun g G5 H5 n5 s5 q5 w => ?_
    walk_at "go"
    refine g_newA w (by walk_at "sz") fun t G6 H6 n6 s6 q6 w => ?_
    walk_at "go"
    have p3 := s2 _ _ hpl
    have p6 := s6 _ _ (s5 _ _ (s4 _ _ p3))
    refine g_app w p6 (by rw [sizeLine_eq, List.length_map]; omega) fun H7 w => ?_
    walk_at "go"
    have S6 : Same G1 G5 := Same.trans s1 (Same.trans s2 (Same.trans s4 s5))
    have n6' := Same.free S6 n6
    have dtp : t ≠ pl := (ne_of_none (s5 _ _ (s4 _ _ p3)) n6).symm
    have dcp : c ≠ pl := (ne_of_none p3 n4).symm
    have dgp : g ≠ pl := (ne_of_none (s4 _ _ p3) n5).symm
    have dgc : g ≠ c := (ne_of_none q4 n5).symm
    have dtc : t ≠ c := (ne_of_none (s5 _ _ q4) n6).symm
    have dtg : t ≠ g := (ne_of_none q5 n6).symm
    refine k1 _ (tlt ht) _ (PState.table (G := upd G1 t (.tup [.str (wAt ws 1), .ref c, .ref g])) (t := t) (c := c) (g := g) (Same.trans e1 (Same.newG n6')) ?_ ?_ ?_ dcp.symm dgp.symm dgc.symm (hfA.same (Same.newG n6')) upd_same
      (Same.setL (Same.updR (Same.trans S6 s6) q6) ?_) ?_ ?_ ?_ w)
    · rw [upd_ne dtp.symm]; exact npl
    · rw [upd_ne dtc.symm]; exact Same.free (Same.trans s1 s2) n4
    · rw [upd_ne dtg.symm]; exact Same.free (Same.trans s1 (Same.trans s2 s4)) n5
    · rw [upd_ne dtp.symm]; exact npl
    · rw [upd_same, List.map_append]; rfl
    · rw [upd_ne dcp]; exact s6 _ _ (s5 _ _ q4)
    · rw [upd_ne dgp]; exact s6 _ _ q5
  | false =>
    have ht : ¬ tbLine ws := fun z => Bool.noConfusion (hb.mpr z)
    have S2 : Same G1 G3 := Same.trans s1 s2
    walk_at "go"
    refine g_newA w (by walk_at "sz") fun l0 G4 H4 n4 s4 q4 w => ?_
    have S4 : Same G1 G4 := Same.trans S2 s4
    have hp4 := s4 _ _ (s2 _ _ hpl)
    have hw4 := s4 _ _ hwlG
    refine g_eqL0 w (SqL.of hp4) (SqL.of q4) ?_
    rcases hla with ⟨rfl, rfl, _⟩ | ⟨G, init, p, ts0, t, cl, gl, as, us, rfl, rfl, e, n1, n2, n3, d1, d2, d3, hf, htp, hc, hg, rfl⟩
    · walk_at "go"
      exact k2 (tln ht) _ (w.drop (Same.trans e1 S4))
    have emp : ((ts0 ++ [t]).map V.ref).isEmpty = false := by rw [List.map_append]; cases ts0 <;> rfl
    rw [emp]
    walk_at "go"
    have hcl : G4 cl = some (.lst (as.map V.ref)) := S4 _ _ (by rw [upd_ne d3]; exact upd_same)
    have hgl : G4 gl = some (.lst us) := S4 _ _ upd_same
    have SG : Same G (upd (upd G cl (.lst (as.map V.ref))) gl (.lst us)) := Same.setL (Same.newG n2) n3
    have S5 : Same G G4 := Same.trans SG S4
    have hpz := hz.2 p (by simp)
    have las : as.length ≤ 1000 := by rw [← Sw.Paired.len hc]; omega
    have lus : us.length ≤ 1000 := by rw [← Sw.Paired.len hg]; omega
    refine g_ixL w (SqL.of hp4) (v := .ref t) (atI_neg1 (by simp)) ?_
    walk_at "go"
    refine ⟨t, _, rfl, SqT.of (w.get (S5 _ _ htp)), rfl, ?_⟩
    walk_at "go"
    refine g_ixW (i := 0) w hw4 sw ?_
    walk_at "go"
    refine g_eqS rfl ?_
    walk_at "go"
    have tl := tll init p ht
    refine iteD (fun h1 => ?_) (fun h1 => ?_)
    · rw [if_pos (V.str.inj h1)] at tl
      walk_at "go"
      refine g_tyL w hgl ?_
      walk_at "go"
      refine g_slLA w (SqL.of hw4) fun l5 G6 H6 n6 s6 q6 w => ?_
      rw [cut_one] at q6
      walk_at "go"
      refine ⟨l5, _, rfl, .inl ⟨SqL.of (w.get q6), fun tp htp7 => ?_⟩⟩
      have n7 := w.free htp7
      replace w := Wd.new w (o := .tup ((ws.drop 1).map V.str)) htp7
      have s7 : Same G6 (upd G6 tp (.tup ((ws.drop 1).map V.str))) := Same.newG n7
      have q7 : upd G6 tp (.tup ((ws.drop 1).map V.str)) tp = some (.tup ((ws.drop 1).map V.str)) := upd_same
      generalize upd G6 tp (.tup ((ws.drop 1).map V.str)) = G7 at w s7 q7
      have S7 : Same G4 G7 := Same.trans s6 s7
      walk_at "go"
      refine g_app w (S7 _ _ hgl) (by rw [sizeLine_eq]; omega) fun H8 w => ?_
      have S8 : Same G (upd G7 gl (.lst (us ++ [.ref tp]))) := Same.setL (Same.trans S5 S7) n3
      have nS := Same.free (Same.trans S5 s6) n7
      have dgl : tp ≠ gl := (ne_of_none (s6 _ _ hgl) n7).symm
      have dcl : tp ≠ cl := (ne_of_none (s6 _ _ hcl) n7).symm
      have dpl : tp ≠ pl := (ne_of_none (s6 _ _ hp4) n7).symm
      have hw8 : upd G7 gl (.lst (us ++ [.ref tp])) wl = some (.lst (ws.map V.str)) := by
        rw [upd_ne (ne_of_none (s1 _ _ upd_same) nwl).symm]
        exact S7 _ _ hw4
      have ht8 : upd G7 gl (.lst (us ++ [.ref tp])) tp = some (.tup ((ws.drop 1).map V.str)) := by rw [upd_ne dgl]; exact q7
      have hc8 : upd G7 gl (.lst (us ++ [.ref tp])) cl = some (.lst (as.map V.ref)) := by rw [upd_ne d3]; exact S7 _ _ hcl
      have hp8 : upd G7 gl (.lst (us ++ [.ref tp])) pl = some (.lst ((ts0 ++ [t]).map V.ref)) := by rw [upd_ne d2]; exact S7 _ _ hp4
      have hg8 : upd G7 gl (.lst (us ++ [.ref tp])) gl = some (.lst (us ++ [.ref tp])) := upd_same
      generalize upd G7 gl (.lst (us ++ [.ref tp])) = G8 at *
      walk_at "go"
      refine g_lenL w (SqL.of hw8) ?_
      rw [List.length_map]
      walk_at "go"
      refine iteD (fun h2 => ?_) (fun h2 => ?_)
      · walk_at "go"
        refine iteD (fun h3 => ?_) (fun h3 => ?_)
        · walk_at "go"
          refine g_slLA w (SqL.of hw8) fun l9 G9 H9 n9 s9 q9 w => ?_
          rw [cut_one] at q9
          refine ⟨l9, rfl, ⟨_, SqL.of (w.get q9)⟩, ?_⟩
          have ldr : (ws.drop 1).length ≤ 3 := by rw [List.length_drop]; omega
          refine lc_it (itf_list (xs := (ws.drop 1).map V.str)) w (fun H e => SqL.of (e _ _ q9)) (by rw [sizeLine_eq, List.length_map]; omega) (fun j _ acc => acc = (((ws.drop 1).take j).map isNm).map V.bl) rfl ?_ ?_
          · rintro j y Gi acc D Ha Hb hj ej nD rfl ha wj ⟨rfl, hy⟩
            rw [List.getElem?_map] at hy
            obtain ⟨x, hx, rfl⟩ := Option.map_eq_some_iff.mp hy
            walk_at "go"
            refine ⟨rfl, ?_⟩
            walk_at "go"
            refine ⟨rfl, rfl, _, rfl, .inl ⟨x, rfl, hw x (List.mem_of_mem_drop (List.mem_of_getElem? hx)), fun Hc ec => ?_⟩⟩
            refine lc_keep (Pv := fun j _ acc => acc = (((ws.drop 1).take j).map isNm).map V.bl) (wj.same ec) ej nD ha hj (by rw [sizeLine_eq, List.length_map]; omega) ?_
            rw [List.take_add_one, hx]
            simp
          · rintro D Gn acc Ha ej nD rfl ha w
            rw [List.length_map, List.take_length] at w
            walk_at "go"
            refine g_all w (SqL.of upd_same) ?_
            have SF : Same G8 (upd Gn D (.lst (((ws.drop 1).map isNm).map V.bl))) := Same.trans s9 (Same.trans ej (Same.newG nD))
            have eall : ((ws.drop 1).map isNm).all id = (ws.drop 1).all isNm := by rw [List.all_map]; rfl
            rw [eall]
            cases hal : (ws.drop 1).all isNm with
            | true =>
              rw [if_pos ⟨by omega, by omega, hal⟩] at tl
              refine k1 _ tl _ (PState.last (G := upd G tp (.tup ((ws.drop 1).map V.str))) (Same.trans e (Same.newG nS)) ?_ ?_ ?_ d1 d2 d3 (hf.same (Same.newG nS)) (t := t) (Same.newG nS _ _ htp) (hc.same (Same.newG nS)) (Sw.Paired.app (hg.same (Same.newG nS)) (.cons ⟨tp, rfl, SqT.of upd_same⟩ .nil)) (Same.updR (Same.trans S8 SF) (SF _ _ ht8)) (SF _ _ hp8) (SF _ _ hc8) (SF _ _ hg8) w)
              · rw [upd_ne dpl.symm]; exact n1
              · rw [upd_ne dcl.symm]; exact n2
              · rw [upd_ne dgl.symm]; exact n3
            | false =>
              rw [if_neg (fun z => by rw [hal] at z; exact Bool.noConfusion z.2.2)] at tl
              exact k2 tl _ (w.drop (Same.trans e (Same.trans S8 SF)))
        · rw [if_neg (fun z => h3 (by omega))] at tl
          rw [decide_eq_false h3]
          walk_at "go"
          exact k2 tl _ (w.drop (Same.trans e S8))
      · rw [if_neg (fun z => h2 (by omega))] at tl
        walk_at "go"
        exact k2 tl _ (w.drop (Same.trans e S8))
    · rw [if_neg (fun z => h1 (congrArg V.str z))] at tl
      walk_at "go"
      refine g_newA w (by walk_at "sz") fun l5 G5 H5 n5 s5 q5 w => ?_
      have S6 : Same G G5 := Same.trans S5 s5
      refine g_eqL0 w (SqL.of (s5 _ _ hgl)) (SqL.of q5) ?_
      walk_at "go"
      have lug : p.2.2.length = us.length := Sw.Paired.len hg
      cases us with
      | cons u us =>
        rw [if_neg (fun z => by rw [z] at lug; cases lug)] at tl
        walk_at "go"
        exact k2 tl _ (w.drop (Same.trans e S6))
      | nil =>
        rw [if_pos (List.length_eq_zero_iff.mp lug)] at tl
        refine iteT ?_
        walk_at "go"
        obtain ⟨Gm, m1, m2, w3⟩ := Sv.Wd.take w (s5 _ _ hcl)
        have Sm : Same G Gm := fun b u z => by rw [m2 b (ne_of_none z n2)]; exact S6 _ _ z
        refine ⟨rfl, rfl, Gm, R, cl, as.map V.ref, line, rfl, m1, w3, hline, by rw [List.length_map]; exact las, fun c hpc x G' H' e7 nx dx nl hx w => ?_, fun hpc H' w => ?_⟩
        · rw [hpc] at tl
          have hpm : Gm pl = some (.lst ((ts0 ++ [t]).map V.ref)) := by rw [m2 pl d1]; exact s5 _ _ hp4
          have hgm : Gm gl = some (.lst []) := by rw [m2 gl d3.symm]; exact s5 _ _ hgl
          obtain ⟨dd, hxx⟩ := hx
          have nGx := Same.free Sm nx
          refine k1 _ tl _ (PState.last (G := upd G x (.ins (kcls A c.k) dd c.fs)) (Same.trans e (Same.newG nGx)) ?_ ?_ ?_ d1 d2 d3 (hf.same (Same.newG nGx)) (t := t) (Same.newG nGx _ _ htp) (as := as ++ [x]) (Sw.Paired.app (hc.same (Same.newG nGx)) (.cons ⟨dd, upd_same⟩ .nil)) (hg.same (Same.newG nGx)) (Same.setL (Same.updR (Same.trans Sm e7) hxx) ?_) ?_ ?_ ?_ w)
          · rw [upd_ne (ne_of_none hpm nx)]; exact n1
          · rw [upd_ne dx.symm]; exact n2
          · rw [upd_ne (ne_of_none hgm nx)]; exact n3
          · rw [upd_ne dx.symm]; exact n2
          · rw [upd_ne d1]; exact e7 _ _ hpm
          · rw [upd_same, List.map_append]; rfl
          · rw [upd_ne d3.symm]; exact e7 _ _ hgm
        · rw [hpc] at tl
          exact k2 tl _ (w.drop (Same.trans e (Same.setL Sm n2)))
end
end Sv


set_option Elab.async false
set_option linter.all false
set_option maxRecDepth 100000
set_option maxHeartbeats 4000000
namespace Sv
open PySem PySem.Spec PyProof.Rows L2 Sw
local macro_rules | `(tactic| walk_at "go1") => `(tactic| first
  | ((with_reducible refine' g_var ?hv ?_); (case hv => rfl))
  | with_reducible refine g_c ?_
  | with_reducible refine g_op ?_
  | with_reducible refine g_un ?_
  | with_reducible refine g_seq ?_
  | with_reducible refine g_next ?_
  | with_reducible refine g_asg ?_
  | with_reducible refine g_name ?_
  | with_reducible refine g_drop ?_
  | with_reducible refine g_sub ?_
  | with_reducible refine g_ret ?_
  | with_reducible refine g_retN ?_
  | with_reducible refine g_ifS ?_
  | with_reducible refine g_if ?_
  | with_reducible refine g_test ?_
  | with_reducible refine g_bl ?_
  | with_reducible refine g_cons ?_
  | with_reducible refine g_nil ?_
  | with_reducible refine g_and ?_
  | with_reducible refine g_or ?_
  | with_reducible refine g_not ?_
  | with_reducible refine g_callB ?_
  | with_reducible refine g_addI ?_
  | with_reducible refine g_I0 ?_
  | with_reducible refine g_calG ?_
  | with_reducible refine g_mkG ?_
  | with_reducible refine g_tup ?_
  | with_reducible refine g_pairs1 ?_
  | with_reducible refine g_pairs0 ?_
  | with_reducible refine g_dget ?_
  | with_reducible refine g_lvals ?_
  | with_reducible refine g_forT ?_
  | with_reducible refine g_lcT ?_
  | with_reducible refine g_dput ?_
  | with_reducible refine g_lc2L ?_
  | with_reducible refine g_iList ?_
  | with_reducible refine g_lcX ?_
  | with_reducible refine g_js1 ?_
  | with_reducible refine g_js0 ?_
  | with_reducible refine g_fmt ?_
  | with_reducible refine g_tLenSet ?_
  | with_reducible refine g_mkV ?_
  | with_reducible refine g_mkV1 ?_
  | with_reducible refine g_lst ?_
  | with_reducible refine g_forL ?_
  | with_reducible refine g_forR ?_
  | with_reducible refine g_forR2 ?_
  | with_reducible refine g_forS ?_
  | with_reducible refine g_forE ?_
  | with_reducible refine g_lcL ?_
  | with_reducible refine g_lcR ?_
  | with_reducible refine g_lcS ?_
  | with_reducible refine g_lcE ?_
  | with_reducible refine g_orT ?_
  | with_reducible refine g_slc ?_
  | with_reducible refine g_noPart ?_
  | with_reducible refine g_part ?_
  | with_reducible refine g_bm ?_
  | with_reducible refine g_par ?_
  | with_reducible refine g_yes ?_
  | with_reducible refine g_tupG ?_
  | with_reducible refine g_lstG ?_
  | with_reducible refine g_gcons ?_
  | with_reducible refine g_gnil ?_
  | with_reducible refine g_chain ?_
  | with_reducible refine g_truB ?_
  | with_reducible refine g_truN ?_
  | with_reducible refine g_truI ?_
  | with_reducible refine g_m1 ?_
  | with_reducible refine g_fld ?_
  | with_reducible refine g_con ?_
  | with_reducible refine g_tru ?_
  | with_reducible refine g_U ?_
  | with_reducible refine g_xg ?_
  | with_reducible refine g_andT ?_
  | with_reducible refine g_exI ?_
  | with_reducible refine g_dnew ?_
  | with_reducible refine g_intB ?_
  | with_reducible refine g_meth ?_
  | with_reducible refine g_prop ?_
  | with_reducible refine g_exc1 ?_
  | with_reducible refine g_setF ?_
  | with_reducible refine g_star ?_
  | with_reducible refine g_strM ?_
  | with_reducible refine iteT ?_
  | with_reducible refine iteF ?_
  | with_reducible refine iteNT ?_
  | with_reducible refine iteNF ?_)
local macro_rules | `(tactic| walk_at "go") => `(tactic| repeat (walk_at "go1"))
local macro_rules | `(tactic| walk_at "sz") => `(tactic| (first | (rw [sizeLine_eq]; simp only [List.length_cons, List.length_nil, List.length_map, List.length_append, List.length_take]; omega) | (rw [sizeLine_eq]; omega)))
theorem joinS {s : TS} {D : Ends} {σ : L2.St} {H : Hp} {C : L2.St → Hp → Prop} (h : ∀ N : L2.St → Hp → Prop, (∀ σ' H', C σ' H' → N σ' H') → s { D with nx := N } σ H) (k : ∀ σ' H', C σ' H' → D.nx σ' H') : s D σ H := h D.nx k
/-! ### what a text of a schema is -/
inductive PRes where
  | text (i : Nat) | grp (i : Nat) | name (n : Option Str) | col (n : Option Str) | unknown (n : Str) | ok (ts : List Tab)
def partTab (p : Part) : Tab := ⟨p.1, p.2.1, p.2.2⟩
def runL : List Part → Nat → List Str → Nat ⊕ List Part
  | ps, _, [] => .inr ps
  | ps, i, l :: r => match tookLine ps l with
    | some ps' => runL ps' (i + 1) r
    | none => .inl i
def partsErr : List Part → Option PRes
  | [] => none
  | p :: r => match tabRes true p.2.1 (p.2.2.map some) with
    | .name => some (.name (some p.1))
    | .col o => some (.col o)
    | .grp i => some (.grp i)
    | .ok => partsErr r
def schP (ps : List Part) : PRes := match partsErr ps with
  | some e => e
  | none => match schRes (ps.map partTab) with
    | .name o => .name o
    | .unknown n => .unknown n
    | .ok => .ok (ps.map partTab)
def lastS (s : Str) : Str := wAt (Txt.split s "\n") ((Txt.split s "\n").length - 1)
def linesS (s : Str) : List Str := if lastS s = "" then (Txt.split s "\n").dropLast else Txt.split s "\n"
def parseS (s : Str) : PRes := match runL [] 0 (linesS s) with
  | .inl i => .text i
  | .inr ps => if lastS s = "" then schP ps else .text (linesS s).length
def Pok (ps : List Part) : Prop := ∀ p ∈ ps, isNm p.1 = true ∧ (∀ c ∈ p.2.1, c.ok) ∧ ∀ g ∈ p.2.2, g.length ≤ 3
theorem parseT_ok {l : Str} {c : Col} (h : parseT l = some c) : c.ok := by
  unfold parseT at h
  split at h
  · rename_i c' hc
    split at h
    · cases h
      exact parseW_ok hc
    · cases h
  · cases h
theorem parts_view (ps : List Part) : ps = [] ∨ ∃ init p, ps = init ++ [p] := by
  rcases List.eq_nil_or_concat ps with h | ⟨l, b, h⟩
  · exact .inl h
  · exact .inr ⟨l, b, by rw [h, List.concat_eq_append]⟩
theorem took_keep {ps ps' : List Part} {l : Str} {i : Nat} (h : tookLine ps l = some ps') (ok : Pok ps) (sz : Psz ps i) : Pok ps' ∧ Psz ps' (i + 1) := by
  by_cases ht : tbLine (Txt.split l " ")
  · rw [tl_table ht] at h
    cases h
    refine ⟨fun p hp => ?_, ?_, fun p hp => ?_⟩
    · rcases List.mem_append.mp hp with hp | hp
      · exact ok p hp
      · obtain rfl := List.mem_singleton.mp hp
        exact ⟨ht.2.2, fun _ z => absurd z List.not_mem_nil, fun _ z => absurd z List.not_mem_nil⟩
    · rw [List.length_append]
      have := sz.1
      simp
      omega
    · rcases List.mem_append.mp hp with hp | hp
      · have := sz.2 p hp
        omega
      · obtain rfl := List.mem_singleton.mp hp
        exact ⟨Nat.zero_le _, Nat.zero_le _⟩
  · rcases parts_view ps with rfl | ⟨init, p, rfl⟩
    · rw [tl_nil ht] at h
      cases h
    · rw [tl_last ht] at h
      have okp := ok p (by simp)
      have szp := sz.2 p (by simp)
      have key : ∀ q : Part, isNm q.1 = true → (∀ c ∈ q.2.1, c.ok) → (∀ g ∈ q.2.2, g.length ≤ 3) → q.2.1.length ≤ i + 1 → q.2.2.length ≤ i + 1 → Pok (init ++ [q]) ∧ Psz (init ++ [q]) (i + 1) := fun q a1 a2 a3 a4 a5 => by
        refine ⟨fun p hp => ?_, ?_, fun p hp => ?_⟩
        · rcases List.mem_append.mp hp with hp | hp
          · exact ok p (List.mem_append.mpr (.inl hp))
          · obtain rfl := List.mem_singleton.mp hp
            exact ⟨a1, a2, a3⟩
        · have := sz.1
          rw [List.length_append] at this ⊢
          simp at this ⊢
          omega
        · rcases List.mem_append.mp hp with hp | hp
          · have := sz.2 p (List.mem_append.mpr (.inl hp))
            omega
          · obtain rfl := List.mem_singleton.mp hp
            exact ⟨a4, a5⟩
      split at h
      · split at h
        · rename_i hu hc
          cases h
          refine key _ okp.1 okp.2.1 (fun g hg => ?_) (Nat.le_succ_of_le szp.1) (by have := szp.2; simp; omega)
          rcases List.mem_append.mp hg with hg | hg
          · exact okp.2.2 g hg
          · obtain rfl := List.mem_singleton.mp hg
            rw [List.length_drop]
            omega
        · cases h
      · split at h
        · split at h
          · rename_i c hc
            cases h
            refine key _ okp.1 (fun c' hc' => ?_) okp.2.2 (by have := szp.1; simp; omega) (Nat.le_succ_of_le szp.2)
            rcases List.mem_append.mp hc' with hc' | hc'
            · exact okp.2.1 c' hc'
            · obtain rfl := List.mem_singleton.mp hc'
              exact parseT_ok hc
          · cases h
        · cases h
theorem XQ.up {G G1 : Hp} {R : Res} {C : Addr} {fld : Str} {v : V} {E : XK} (k : XQ G R C fld v E) (e : Same G G1) : XQ G1 R C fld v E :=
  fun G' d H' s n h w => k G' d H' (Same.trans e s) (Same.free e n) h w
def PQ (K : PySem.W.Frag) (A : Ad) (G : Hp) (R : Res) (Q : VK) (E : XK) : PRes → Prop
  | .text i => XQ G R A.InvalidText "line" (.int (i : Nat)) E
  | .grp i => XQ G R A.InvalidGroup "index" (.int (i : Nat)) E
  | .name o => XQ G R A.InvalidName "name" (optV o) E
  | .col o => XQ G R A.InvalidColumn "name" (optV o) E
  | .unknown n => XQ G R A.UnknownTable "name" (.str n) E
  | .ok ts => ∀ x G' H', Same G G' → G x = none → SchAt K A G' x ts → Wd G' R H' → Q (.ref x) H'
theorem PQ.up {K : PySem.W.Frag} {A : Ad} {G G1 : Hp} {R : Res} {Q : VK} {E : XK} {r : PRes} (k : PQ K A G R Q E r) (e : Same G G1) : PQ K A G1 R Q E r := by
  cases r with
  | ok ts => exact fun x G' H' s n h w => k x G' H' (Same.trans e s) (Same.free e n) h w
  | text i => exact XQ.up k e
  | grp i => exact XQ.up k e
  | name i => exact XQ.up k e
  | col i => exact XQ.up k e
  | unknown i => exact XQ.up k e
/-! ### making tables and schemas -/
def spTabV (K : PySem.W.Frag) (A : Ad) : SpC := fun vs zs H Q E => ∃ ws rest, vs = ws ++ rest ∧ ws.length = 2 ∧ rest.length ≤ sizeLine ∧ ∀ p, H p = none → spTabInit K A (ws ++ zs ++ [V.ref p]) (upd H p (.tup rest)) Q E
def spSchV (K : PySem.W.Frag) (A : Ad) : SpC := fun vs zs H Q E => ∃ ws rest, vs = ws ++ rest ∧ ws.length = 1 ∧ rest.length ≤ sizeLine ∧ ∀ p, H p = none → spSchInit K A (ws ++ zs ++ [V.ref p]) (upd H p (.tup rest)) Q E
theorem grps_os {K : PySem.W.Frag} {G : Hp} : ∀ {gs : List (List Str)} {us : List V} (_ : GrpsAt K G gs us) (_ : ∀ g ∈ gs, g.length ≤ 3), Paired (fun u o => GrpV K G u o) us (gs.map some)
  | _, _, .nil, _ => .nil
  | _, _, .cons ⟨p, e1, e2⟩ t, h => .cons (.inl ⟨p, _, e1, rfl, e2, Nat.le_trans (h _ List.mem_cons_self) (by decide)⟩) (grps_os t fun g hg => h g (List.mem_cons_of_mem _ hg))
def TbQ (K : PySem.W.Frag) (A : Ad) (G : Hp) (R : Res) (Q : VK) (E : XK) (n : Str) (cs : List Col) (gs : List (List Str)) (as : List Addr) (us : List V) : Prop := match tabRes true cs (gs.map some) with
  | .name => XQ G R A.InvalidName "name" (.str n) E
  | .col o => XQ G R A.InvalidColumn "name" (optV o) E
  | .grp i => XQ G R A.InvalidGroup "index" (.int (i : Nat)) E
  | .ok => ∀ x dx d gl G' H', Same G G' → G x = none → G d = none → G gl = none → G' x = some (.ins A.Table dx (tabFs (.str n) d gl)) → G' d = some (.dK (colKvs cs as)) → G' gl = some (.lst us) → Wd G' R H' → Q (.ref x) H'
theorem mk_tab {K : PySem.W.Frag} {A : Ad} {G H : Hp} {R : Res} {n : Str} {cs : List Col} {gs : List (List Str)} {as : List Addr} {us : List V} {gl : Addr} {Q : VK} {E : XK} (w : Wd G R H) (hn : isNm n = true) (hc : ColsAt A G cs as) (hq : G gl = some (.lst us)) (hg : GrpsAt K G gs us) (h3 : ∀ g ∈ gs, g.length ≤ 3)
    (la : as.length ≤ 1000) (lu : us.length ≤ 1000) (k : TbQ K A G R Q E n cs gs as us) : MkI (spTabV K A) A.Table (.str n :: as.map V.ref) [.ref gl] H Q E := fun x dx hx hdx hne => by
  refine ⟨[.ref x, .str n], as.map V.ref, rfl, rfl, by rw [List.length_map, sizeLine_eq]; omega, fun p hp => ?_⟩
  have w1 := w.new (o := .own x) hdx
  have hx1 : upd H dx (.own x) x = none := by rw [upd_ne hne.symm]; exact hx
  have w2 := w1.new (o := .ins A.Table dx []) hx1
  have w3 := w2.new (o := .tup (as.map V.ref)) hp
  obtain ⟨p1, p2⟩ := upd_nonne (w2.free hp)
  rw [upd_comm p2] at w3
  have S1 : Same G (upd G dx (.own x)) := Same.newG (w.free hdx)
  have S2 : Same G (upd (upd G dx (.own x)) p (.tup (as.map V.ref))) := Same.trans S1 (Same.newG p1)
  have nx2 : upd (upd G dx (.own x)) p (.tup (as.map V.ref)) x = none := by rw [upd_ne p2.symm]; exact w1.free hx1
  refine ⟨_, R, x, dx, .str n, true, p, gl, cs, as, us, gs.map some, rfl, nx2, w3, SqT.of upd_same, hc.same S2, ?_, SqL.of (S2 _ _ hq), grps_os (hg.same S2) h3, la, lu, ?_⟩
  · exact .inl ⟨n, rfl, Nat.le_trans (isNm_len hn) (by decide), hn.symm⟩
  · unfold TbQ at k
    cases e : tabRes true cs (gs.map some) with
    | name => rw [e] at k; exact XQ.up k S2
    | col o => rw [e] at k; exact XQ.up k S2
    | grp i => rw [e] at k; exact XQ.up k S2
    | ok =>
      rw [e] at k
      exact fun d gl' G' H' f1 f2 s h1 h2 h3 w' => ⟨rfl, k x dx d gl' G' H' (Same.trans S2 s) (w.free hx) (Same.free S2 f1) (Same.free S2 f2) h1 h2 h3 w'⟩
def ScQ (K : PySem.W.Frag) (A : Ad) (G : Hp) (R : Res) (Q : VK) (E : XK) (ts : List Tab) : Prop := match schRes ts with
  | .name o => XQ G R A.InvalidName "name" (optV o) E
  | .unknown n => XQ G R A.UnknownTable "name" (.str n) E
  | .ok => ∀ x G' H', Same G G' → G x = none → SchAt K A G' x ts → Wd G' R H' → Q (.ref x) H'
theorem mk_sch {K : PySem.W.Frag} {A : Ad} {G H : Hp} {R : Res} {ts : List Tab} {tas : List Addr} {Q : VK} {E : XK} (w : Wd G R H) (hc : TabsAt K A G ts tas) (la : tas.length ≤ 1000) (k : ScQ K A G R Q E ts) :
    MkI (spSchV K A) A.Schema (tas.map V.ref) [] H Q E := fun x dx hx hdx hne => by
  refine ⟨[.ref x], tas.map V.ref, rfl, rfl, by rw [List.length_map, sizeLine_eq]; omega, fun p hp => ?_⟩
  have w1 := w.new (o := .own x) hdx
  have hx1 : upd H dx (.own x) x = none := by rw [upd_ne hne.symm]; exact hx
  have w2 := w1.new (o := .ins A.Schema dx []) hx1
  have w3 := w2.new (o := .tup (tas.map V.ref)) hp
  obtain ⟨p1, p2⟩ := upd_nonne (w2.free hp)
  rw [upd_comm p2] at w3
  have S1 : Same G (upd G dx (.own x)) := Same.newG (w.free hdx)
  have S2 : Same G (upd (upd G dx (.own x)) p (.tup (tas.map V.ref))) := Same.trans S1 (Same.newG p1)
  have nx2 : upd (upd G dx (.own x)) p (.tup (tas.map V.ref)) x = none := by rw [upd_ne p2.symm]; exact w1.free hx1
  refine ⟨_, R, x, dx, p, ts, tas, rfl, nx2, w3, SqT.of upd_same, hc.same S2, la, ?_⟩
  unfold ScQ at k
  cases e : schRes ts with
  | name => rw [e] at k; exact XQ.up k S2
  | unknown o => rw [e] at k; exact XQ.up k S2
  | ok =>
    rw [e] at k
    exact fun d G' H' s h1 h2 w' => ⟨rfl, k x G' H' (Same.trans S2 s) (w.free hx) ⟨dx, d, tas, h1, h2, hc.same (Same.trans S2 s)⟩ w'⟩
end Sv


set_option Elab.async false
set_option linter.all false
set_option maxRecDepth 100000
set_option maxHeartbeats 4000000
namespace Sv
open PySem PySem.Spec PyProof.Rows L2 Sw
local macro_rules | `(tactic| walk_at "go1") => `(tactic| first
  | ((with_reducible refine' g_var ?hv ?_); (case hv => rfl))
  | with_reducible refine g_c ?_
  | with_reducible refine g_op ?_
  | with_reducible refine g_un ?_
  | with_reducible refine g_seq ?_
  | with_reducible refine g_next ?_
  | with_reducible refine g_asg ?_
  | with_reducible refine g_name ?_
  | with_reducible refine g_drop ?_
  | with_reducible refine g_sub ?_
  | with_reducible refine g_ret ?_
  | with_reducible refine g_retN ?_
  | with_reducible refine g_ifS ?_
  | with_reducible refine g_if ?_
  | with_reducible refine g_test ?_
  | with_reducible refine g_bl ?_
  | with_reducible refine g_cons ?_
  | with_reducible refine g_nil ?_
  | with_reducible refine g_and ?_
  | with_reducible refine g_or ?_
  | with_reducible refine g_not ?_
  | with_reducible refine g_callB ?_
  | with_reducible refine g_addI ?_
  | with_reducible refine g_I0 ?_
  | with_reducible refine g_calG ?_
  | with_reducible refine g_mkG ?_
  | with_reducible refine g_tup ?_
  | with_reducible refine g_pairs1 ?_
  | with_reducible refine g_pairs0 ?_
  | with_reducible refine g_dget ?_
  | with_reducible refine g_lvals ?_
  | with_reducible refine g_forT ?_
  | with_reducible refine g_lcT ?_
  | with_reducible refine g_dput ?_
  | with_reducible refine g_lc2L ?_
  | with_reducible refine g_iList ?_
  | with_reducible refine g_lcX ?_
  | with_reducible refine g_js1 ?_
  | with_reducible refine g_js0 ?_
  | with_reducible refine g_fmt ?_
  | with_reducible refine g_tLenSet ?_
  | with_reducible refine g_mkV ?_
  | with_reducible refine g_mkV1 ?_
  | with_reducible refine g_lst ?_
  | with_reducible refine g_forL ?_
  | with_reducible refine g_forR ?_
  | with_reducible refine g_forR2 ?_
  | with_reducible refine g_forS ?_
  | with_reducible refine g_forE ?_
  | with_reducible refine g_lcL ?_
  | with_reducible refine g_lcR ?_
  | with_reducible refine g_lcS ?_
  | with_reducible refine g_lcE ?_
  | with_reducible refine g_orT ?_
  | with_reducible refine g_slc ?_
  | with_reducible refine g_noPart ?_
  | with_reducible refine g_part ?_
  | with_reducible refine g_bm ?_
  | with_reducible refine g_par ?_
  | with_reducible refine g_yes ?_
  | with_reducible refine g_tupG ?_
  | with_reducible refine g_lstG ?_
  | with_reducible refine g_gcons ?_
  | with_reducible refine g_gnil ?_
  | with_reducible refine g_chain ?_
  | with_reducible refine g_truB ?_
  | with_reducible refine g_truN ?_
  | with_reducible refine g_truI ?_
  | with_reducible refine g_m1 ?_
  | with_reducible refine g_fld ?_
  | with_reducible refine g_con ?_
  | with_reducible refine g_tru ?_
  | with_reducible refine g_U ?_
  | with_reducible refine g_xg ?_
  | with_reducible refine g_andT ?_
  | with_reducible refine g_exI ?_
  | with_reducible refine g_dnew ?_
  | with_reducible refine g_intB ?_
  | with_reducible refine g_meth ?_
  | with_reducible refine g_prop ?_
  | with_reducible refine g_exc1 ?_
  | with_reducible refine g_setF ?_
  | with_reducible refine g_star ?_
  | with_reducible refine g_strM ?_
  | with_reducible refine iteT ?_
  | with_reducible refine iteF ?_
  | with_reducible refine iteNT ?_
  | with_reducible refine iteNF ?_)
local macro_rules | `(tactic| walk_at "go") => `(tactic| repeat (walk_at "go1"))
local macro_rules | `(tactic| walk_at "sz") => `(tactic| (first | (rw [sizeLine_eq]; simp only [List.length_cons, List.length_nil, List.length_map, List.length_append, List.length_take]; omega) | (rw [sizeLine_eq]; omega)))
def CTs (K : PySem.W.Frag) (G : Hp) (cs : List Col) (as : List Addr) : Prop := Paired (fun c a => SqT K G a (colTup c)) cs as
theorem CTs.same {K : PySem.W.Frag} {G G' : Hp} {cs : List Col} {as : List Addr} (h : CTs K G cs as) (e : Same G G') : CTs K G' cs as := Sw.Paired.imp (fun _ _ x => Evl.ex_t e x) h
theorem CTs.sub {K : PySem.W.Frag} {G : Hp} {cs : List Col} {as : List Addr} (h : CTs K G cs as) : ∀ ys : List V, (∀ y ∈ ys, y ∈ as.map V.ref) → ∃ cs' as', ys = as'.map V.ref ∧ CTs K G cs' as' ∧ ∀ c ∈ cs', c ∈ cs
  | [], _ => ⟨[], [], rfl, .nil, fun _ z => absurd z List.not_mem_nil⟩
  | y :: ys, hy => by
    obtain ⟨cs', as', e1, e2, e3⟩ := CTs.sub h ys fun z hz => hy z (List.mem_cons_of_mem _ hz)
    obtain ⟨a, ha, rfl⟩ := List.mem_map.mp (hy y List.mem_cons_self)
    obtain ⟨i, hi⟩ := List.getElem?_of_mem ha
    obtain ⟨c, hc, hca⟩ := Sw.Paired.atR h hi
    refine ⟨c :: cs', a :: as', by rw [e1]; rfl, .cons hca e2, fun z hz => ?_⟩
    rcases List.mem_cons.mp hz with rfl | hz
    · exact List.mem_of_getElem? hc
    · exact e3 z hz
theorem colTup0 (c : Col) : atI (colTup c) 0 = some (.str (kstr c.k)) := rfl
theorem colTup1 (c : Col) : atI (colTup c) 1 = some (.str c.name) := rfl
theorem colTup2 (c : Col) : atI (colTup c) 2 = some (if c.k = .ref then .str c.target else .non) := rfl
theorem colTup3 (c : Col) : atI (colTup c) 3 = some (.bl c.opt) := rfl
theorem cut_hi (xs : List V) (k : Nat) : (cutV xs none (some (k : Int))) = xs.take k := by
  have h1 : HT.sIx xs.length 0 none = 0 := rfl
  have h2 : HT.sIx xs.length xs.length (some (k : Int)) = min k xs.length := HT.sIx_nat _ _ k
  unfold cutV
  rw [h1, h2, List.drop_zero, Nat.sub_zero]
  rcases Nat.le_total k xs.length with h | h
  · rw [Nat.min_eq_left h]
  · rw [Nat.min_eq_right h, List.take_of_length_le (Nat.le_refl _), List.take_of_length_le h]
theorem kstr_ref (c : Col) : decide (V.str (kstr c.k) = V.str "ref") = decide (c.k = .ref) := by
  cases c.k <;> decide
def Gok (gs : List (List Str)) : Prop := ∀ g ∈ gs, g.length ≤ 3 ∧ ∀ n ∈ g, isNm n = true
section
variable {P : Program} {wo : World} {A : Ad} {K : PySem.W.Frag} {mg : Str → Option Value} {base : Heap}
/-! ### _law_groups -/
def spLGroups (K : PySem.W.Frag) : Sp := fun vs H Q _ => ∃ G a c l cs as, vs = [.ref a, .ref l] ∧ Wd G (RD a c) H ∧ G l = some (.lst (as.map V.ref)) ∧ CTs K G cs as ∧ as.length ≤ 20 ∧ (∀ c ∈ cs, isNm c.name = true) ∧
  ∀ p us gs G' H', G p = none → Same G G' → G' p = some (.lst us) → GrpsAt K G' gs us → gs.length ≤ 3 → Gok gs → Wd G' (RD a c) H' → Q (.ref p) H'
theorem sc__law_groups : FnScope (["_law_state", "_law_columns", "_law_found", "_law_turn", "_law_some", "_law_column_here"] : List Str) (["_law_state", "_law_columns"] : List Str) (defScope s__law_groups) := ⟨rfl, rfl, rfl, by decide +kernel, rfl, by decide +kernel, by decide +kernel⟩
theorem ok_lgroups {f : Addr} {fd : FuncData} (F : Fun K "_law_groups" "_law_groups" s__law_groups f fd) (T : Txt K mg A) (Gd : GFn P wo K mg base 1 "_law_draw" 2 [] (fun vs _ => spDraw vs)) (Gm : GFn P wo K mg base 2 "_law_mixed" 2 [] (fun vs _ => spMixed K vs)) : FnOk P wo K mg base (L2.CX P wo) 3 f fd (["_law_state", "_law_columns"] : List Str) (spLGroups K) := by
  refine okT F sc__law_groups (fun vs H Q E h => ?_) (fun cdv Ar outer s H vs Q E hr tk po h => ?_)
  · obtain ⟨_, _, _, _, _, _, rfl, _⟩ := h
    rfl
  obtain ⟨G, a, c, l, cs, as, rfl, w, hl, hc, la, hn, k⟩ := h
  refine ⟨_, (pss_cons (ps_set (i := 2) sc__law_groups.nd rfl (by first | exact Or.inl rfl | exact Or.inr rfl) (pe_lst pa_nil))
      (pss_cons (ps_for po rfl (pi_range1 (by rfl) T.nb_range (pa_cons (pe_callG Gd (hr.mono (by decide)) tk (pa_cons (pv 0) (pa_cons pe_int pa_nil)) pk_nil) pa_nil)) (pg_name (i := 3) sc__law_groups.nd rfl (by first | exact Or.inl rfl | exact Or.inr rfl)) (pss_cons (ps_set (i := 4) sc__law_groups.nd rfl (by first | exact Or.inl rfl | exact Or.inr rfl) (pe_slice (ka_sl K) (pe_callG Gm (hr.mono (by decide)) tk (pa_cons (pv 0) (pa_cons (pv 1) pa_nil)) pk_nil) po_none (po_some (pe_op (ka_add K) pe_int (pe_callG Gd (hr.mono (by decide)) tk (pa_cons (pv 0) (pa_cons pe_int pa_nil)) pk_nil)))))
      (pss_one (ps_if (pt_cmpR (op_neL0 K hr.units) (pe_lc (own := [("_law_column_here", 5)]) (g := (gName 5)) (tt := _) rfl sc__law_groups.nd (ki_list K (pv 4)) (blkOk_by (N := (["_law_state", "_law_columns", "_law_found", "_law_turn", "_law_some", "_law_column_here"] : List Str)) (sc := defScope s__law_groups) (by decide +kernel)) (fun _ _ _ _ _ => (pg_name (i := 5) sc__law_groups.nd rfl (by first | exact Or.inl rfl | exact Or.inr rfl))) (fun _ _ _ _ _ => (pts_one (PW.pt (pw_or (pt_cmpR (ka_ne K hr.units) (pe_ix (ka_ix K) (pv 5) pe_int (fun _ _ => rfl)) pe_str (nomark _)) (pw_or1 (kt_truth K (pe_ix (ka_ix K) (pv 5) pe_int (fun _ _ => rfl)) (by intro _; rfl))))))) (fun _ _ _ _ _ => (pv 5))) (pe_lst pa_nil) (nomark _)) (pss_one (ps_expr (pe_bm PySem.F.plainAttrs_list PySem.F.slot_list_append PySem.F.type_list_append mt_append (pv 2) (pa_cons (pe_callTy call_tuple_of (by rfl) T.nb_tuple (by decide +kernel) (pa_cons (pe_lc (own := [("_law_column_here", 5)]) (g := (gName 5)) (tt := tYes) rfl sc__law_groups.nd (ki_list K (pv 4)) (blkOk_by (N := (["_law_state", "_law_columns", "_law_found", "_law_turn", "_law_some", "_law_column_here"] : List Str)) (sc := defScope s__law_groups) (by decide +kernel)) (fun _ _ _ _ _ => (pg_name (i := 5) sc__law_groups.nd rfl (by first | exact Or.inl rfl | exact Or.inr rfl))) (fun _ _ _ _ _ => pts_nil) (fun _ _ _ _ _ => (pe_ix (ka_ix K) (pv 5) pe_int (fun _ _ => rfl)))) pa_nil)) pa_nil)))) pss_nil))))
      (pss_one (ps_ret (pv 2))))), ?_⟩
  walk_at "go"
  refine g_newL w (by walk_at "sz") fun p H1 np w => ?_
  walk_at "go"
  refine ⟨rfl, rfl, _, a, c, _, rfl, w, by decide, by decide, fun r H2 r0 r1 w => ?_⟩
  walk_at "go"
  refine ⟨_, rfl, by omega, by omega, ?_⟩
  refine for_it itf_range (fun i σ' H' => ∃ y3 y4 GI us gs, σ' = [some (.ref a), some (.ref l), some (.ref p), y3, y4, none] ∧ Same G GI ∧ GI p = none ∧ Wd (upd GI p (.lst us)) (RD a c) H' ∧ GrpsAt K GI gs us ∧ gs.length ≤ i ∧ Gok gs)
    ⟨_, _, G, [], [], rfl, Same.refl _, np, w, .nil, Nat.le_refl _, fun _ z => absurd z List.not_mem_nil⟩ (fun i σ' H' _ h => True.intro) ?_ ?_
  · rintro i x σ' H3 H4 hi ⟨y3, y4, GI, us, gs, rfl, e1, npI, w, hg, lg, gok⟩ ⟨rfl, rfl⟩
    have hpW : upd GI p (.lst us) p = some (.lst us) := upd_same
    have sW : Same GI (upd GI p (.lst us)) := Same.newG npI
    generalize upd GI p (.lst us) = GW at w hpW sW
    have lus : us.length = gs.length := (Sw.Paired.len hg).symm
    walk_at "go"
    refine ⟨rfl, rfl, GW, a, c, l, _, rfl, w, SqL.of (sW _ _ (e1 _ _ hl)), by rw [List.length_map]; omega, fun p3 H5 ys h1 h2 n3 w => ?_⟩
    walk_at "go"
    refine ⟨rfl, rfl, _, a, c, _, rfl, w, by decide, by decide, fun r2 H6 r20 r21 w => ?_⟩
    obtain ⟨kr, rfl⟩ : ∃ j : Nat, r2 = j := ⟨r2.toNat, by omega⟩
    walk_at "go"
    refine g_slLA w (SqL.of upd_same) fun p5 G5 H5 n5 s5 q5 w => ?_
    rw [show (1 : Int) + (kr : Int) = ((kr + 1 : Nat) : Int) by omega, cut_hi] at q5
    obtain ⟨cs', as', ey, hct, hcm⟩ := CTs.sub hc (ys.take (kr + 1)) (fun y hy => h1 y (List.mem_of_mem_take hy))
    have l3 : as'.length ≤ 3 := by
      have := congrArg List.length ey
      rw [List.length_map, List.length_take] at this
      omega
    rw [ey] at q5
    have S5 : Same GW G5 := Same.trans (Same.newG n3) s5
    have SG : Same G GW := Same.trans e1 sW
    walk_at "go"
    refine ⟨p5, rfl, ⟨_, SqL.of (w.get q5)⟩, ?_⟩
    refine lc_it (itf_list (xs := as'.map V.ref)) w (fun H e => SqL.of (e _ _ q5)) (by rw [sizeLine_eq, List.length_map]; omega) (fun _ _ _ => True) True.intro ?_ ?_
    · rintro j y Gi acc D Ha Hb hj ej nD _ ha wj ⟨rfl, hy⟩
      rw [List.getElem?_map] at hy
      obtain ⟨ca, hca, rfl⟩ := Option.map_eq_some_iff.mp hy
      obtain ⟨cc, hcc, hct2⟩ := Sw.Paired.atR hct hca
      have ht : SqT K (upd Gi D (.lst acc)) ca (colTup cc) := Evl.ex_t (Same.trans (Same.trans SG S5) (Same.trans ej (Same.newG nD))) hct2
      have keep : Wd (upd Gi D (.lst acc)) (RD a c) Hb → _ := fun w' => lc_keep (Pv := fun _ _ _ => True) (y := .ref ca) w' ej nD ha hj (by rw [sizeLine_eq, List.length_map]; omega) True.intro
      walk_at "go"
      refine ⟨rfl, ?_⟩
      walk_at "go"
      refine g_ixT wj ht (colTup0 cc) ?_
      walk_at "go"
      refine g_neS rfl ?_
      walk_at "go"
      refine iteN (fun z1 => ?_) (fun z1 => ?_)
      · walk_at "go"
        exact keep wj
      · walk_at "go"
        refine g_ixT wj ht (colTup3 cc) ?_
        walk_at "go"
        cases cc.opt with
        | true =>
          walk_at "go"
          exact keep wj
        | false =>
          walk_at "go"
          exact lc_drop (Pv := fun _ _ _ => True) wj ej nD ha True.intro
    · rintro D Gn acc Ha ej nD _ ha w
      have hpn : upd Gn D (.lst acc) p = some (.lst us) := upd_old (ej _ _ (S5 _ _ hpW)) nD
      have S6 : Same GW (upd Gn D (.lst acc)) := Same.trans S5 (Same.trans ej (Same.newG nD))
      have hD : upd Gn D (.lst acc) D = some (.lst acc) := upd_same
      have q6 : upd Gn D (.lst acc) p5 = some (.lst (as'.map V.ref)) := upd_old (ej _ _ q5) nD
      generalize upd Gn D (.lst acc) = G6 at *
      walk_at "go"
      refine g_newA w (by walk_at "sz") fun p7 G7 H7 n7 s7 q7 w => ?_
      refine g_neL0 w (SqL.of (s7 _ _ hD)) (SqL.of q7) ?_
      walk_at "go"
      have S7 : Same GW G7 := Same.trans S6 s7
      cases acc with
      | nil =>
        refine iteNT ?_
        walk_at "go"
        refine ⟨_, _, GI, us, gs, rfl, e1, npI, w.drop (Same.updR (Same.trans sW S7) (S7 _ _ hpW)), hg, Nat.le_succ_of_le lg, gok⟩
      | cons ac acc =>
        refine iteNF ?_
        walk_at "go"
        refine g_tyL w (S7 _ _ hpW) ?_
        walk_at "go"
        refine ⟨p5, rfl, ⟨_, SqL.of (w.get (s7 _ _ q6))⟩, ?_⟩
        refine lc_it (itf_list (xs := as'.map V.ref)) w (fun H e => SqL.of (e _ _ (s7 _ _ q6))) (by rw [sizeLine_eq, List.length_map]; omega) (fun i _ acc => acc = ((cs'.take i).map Col.name).map V.str) rfl ?_ ?_
        · rintro j y Gi acc2 D2 Hc Hd hj ej2 nD2 rfl ha2 wj ⟨rfl, hy⟩
          rw [List.getElem?_map] at hy
          obtain ⟨ca, hca, rfl⟩ := Option.map_eq_some_iff.mp hy
          obtain ⟨cc, hcc, hct2⟩ := Sw.Paired.atR hct hca
          have ht : SqT K (upd Gi D2 (.lst (((cs'.take j).map Col.name).map V.str))) ca (colTup cc) := Evl.ex_t (Same.trans (Same.trans SG S7) (Same.trans ej2 (Same.newG nD2))) hct2
          walk_at "go"
          refine ⟨rfl, ?_⟩
          walk_at "go"
          refine g_ixT wj ht (colTup1 cc) ?_
          refine lc_keep (Pv := fun i _ acc => acc = ((cs'.take i).map Col.name).map V.str) wj ej2 nD2 ha2 hj (by rw [sizeLine_eq, List.length_map]; omega) ?_
          rw [List.take_add_one, hcc]
          simp
        · rintro D2 Gn2 acc2 Hc ej2 nD2 rfl ha2 w
          rw [List.length_map, ← Sw.Paired.len hct, List.take_length] at w
          walk_at "go"
          refine ⟨D2, _, rfl, .inl ⟨SqL.of (w.get upd_same), fun tp htp => ?_⟩⟩
          have S8 : Same GW (upd Gn2 D2 (.lst ((cs'.map Col.name).map V.str))) := Same.trans S7 (Same.trans ej2 (Same.newG nD2))
          have n8 := w.free htp
          replace w := w.new (o := .tup ((cs'.map Col.name).map V.str)) htp
          have s8 : Same (upd Gn2 D2 (.lst ((cs'.map Col.name).map V.str))) (upd (upd Gn2 D2 (.lst ((cs'.map Col.name).map V.str))) tp (.tup ((cs'.map Col.name).map V.str))) := Same.newG n8
          have q8 : upd (upd Gn2 D2 (.lst ((cs'.map Col.name).map V.str))) tp (.tup ((cs'.map Col.name).map V.str)) tp = some (.tup ((cs'.map Col.name).map V.str)) := upd_same
          have S9 := Same.trans S8 s8
          have ntI : GI tp = none := Same.free (Same.trans sW S8) n8
          have dtp : tp ≠ p := (ne_of_none (S8 _ _ hpW) n8).symm
          generalize upd (upd Gn2 D2 (.lst ((cs'.map Col.name).map V.str))) tp (.tup ((cs'.map Col.name).map V.str)) = G9 at *
          walk_at "go"
          refine g_app w (S9 _ _ hpW) (by rw [sizeLine_eq]; omega) fun H9 w => ?_
          walk_at "go"
          refine ⟨_, _, upd GI tp (.tup ((cs'.map Col.name).map V.str)), us ++ [.ref tp], gs ++ [cs'.map Col.name], rfl, Same.trans e1 (Same.newG ntI), by rw [upd_ne dtp.symm]; exact npI, w.drop (Same.updR (Same.updR (Same.setL (Same.trans sW S9) npI) ?_) upd_same), Sw.Paired.app (hg.same (Same.newG ntI)) (.cons ⟨tp, rfl, SqT.of upd_same⟩ .nil), ?_, fun g hgm => ?_⟩
          · rw [upd_ne dtp]; exact q8
          · rw [List.length_append]; simp; omega
          · rcases List.mem_append.mp hgm with hgm | hgm
            · exact gok g hgm
            · rw [List.mem_singleton.mp hgm]
              refine ⟨by rw [List.length_map, Sw.Paired.len hct]; exact l3, fun n hnm => ?_⟩
              obtain ⟨cc, hcc, rfl⟩ := List.mem_map.mp hnm
              exact hn cc (hcm cc hcc)
  · rintro σ' H3 ⟨y3, y4, GI, us, gs, rfl, e1, npI, w, hg, lg, gok⟩
    walk_at "go"
    exact k p us gs _ H3 np (Same.trans e1 (Same.newG npI)) upd_same (hg.same (Same.newG npI)) (by omega) gok w
end
end Sv


set_option Elab.async false
set_option linter.all false
set_option maxRecDepth 100000
set_option maxHeartbeats 4000000
namespace Sv
open PySem PySem.Spec PyProof.Rows L2 Sw
local macro_rules | `(tactic| walk_at "go1") => `(tactic| first
  | ((with_reducible refine' g_var ?hv ?_); (case hv => rfl))
  | with_reducible refine g_c ?_
  | with_reducible refine g_op ?_
  | with_reducible refine g_un ?_
  | with_reducible refine g_seq ?_
  | with_reducible refine g_next ?_
  | with_reducible refine g_asg ?_
  | with_reducible refine g_name ?_
  | with_reducible refine g_drop ?_
  | with_reducible refine g_sub ?_
  | with_reducible refine g_ret ?_
  | with_reducible refine g_retN ?_
  | with_reducible refine g_ifS ?_
  | with_reducible refine g_if ?_
  | with_reducible refine g_test ?_
  | with_reducible refine g_bl ?_
  | with_reducible refine g_cons ?_
  | with_reducible refine g_nil ?_
  | with_reducible refine g_and ?_
  | with_reducible refine g_or ?_
  | with_reducible refine g_not ?_
  | with_reducible refine g_callB ?_
  | with_reducible refine g_addI ?_
  | with_reducible refine g_I0 ?_
  | with_reducible refine g_calG ?_
  | with_reducible refine g_mkG ?_
  | with_reducible refine g_tup ?_
  | with_reducible refine g_pairs1 ?_
  | with_reducible refine g_pairs0 ?_
  | with_reducible refine g_dget ?_
  | with_reducible refine g_lvals ?_
  | with_reducible refine g_forT ?_
  | with_reducible refine g_lcT ?_
  | with_reducible refine g_dput ?_
  | with_reducible refine g_lc2L ?_
  | with_reducible refine g_iList ?_
  | with_reducible refine g_lcX ?_
  | with_reducible refine g_js1 ?_
  | with_reducible refine g_js0 ?_
  | with_reducible refine g_fmt ?_
  | with_reducible refine g_tLenSet ?_
  | with_reducible refine g_mkV ?_
  | with_reducible refine g_mkV1 ?_
  | with_reducible refine g_lst ?_
  | with_reducible refine g_forL ?_
  | with_reducible refine g_forR ?_
  | with_reducible refine g_forR2 ?_
  | with_reducible refine g_forS ?_
  | with_reducible refine g_forE ?_
  | with_reducible refine g_lcL ?_
  | with_reducible refine g_lcR ?_
  | with_reducible refine g_lcS ?_
  | with_reducible refine g_lcE ?_
  | with_reducible refine g_orT ?_
  | with_reducible refine g_slc ?_
  | with_reducible refine g_noPart ?_
  | with_reducible refine g_part ?_
  | with_reducible refine g_bm ?_
  | with_reducible refine g_par ?_
  | with_reducible refine g_yes ?_
  | with_reducible refine g_tupG ?_
  | with_reducible refine g_lstG ?_
  | with_reducible refine g_gcons ?_
  | with_reducible refine g_gnil ?_
  | with_reducible refine g_chain ?_
  | with_reducible refine g_truB ?_
  | with_reducible refine g_truN ?_
  | with_reducible refine g_truI ?_
  | with_reducible refine g_m1 ?_
  | with_reducible refine g_fld ?_
  | with_reducible refine g_con ?_
  | with_reducible refine g_tru ?_
  | with_reducible refine g_U ?_
  | with_reducible refine g_xg ?_
  | with_reducible refine g_andT ?_
  | with_reducible refine g_exI ?_
  | with_reducible refine g_dnew ?_
  | with_reducible refine g_intB ?_
  | with_reducible refine g_meth ?_
  | with_reducible refine g_prop ?_
  | with_reducible refine g_exc1 ?_
  | with_reducible refine g_setF ?_
  | with_reducible refine g_star ?_
  | with_reducible refine g_strM ?_
  | with_reducible refine iteT ?_
  | with_reducible refine iteF ?_
  | with_reducible refine iteNT ?_
  | with_reducible refine iteNF ?_)
local macro_rules | `(tactic| walk_at "go") => `(tactic| repeat (walk_at "go1"))
local macro_rules | `(tactic| walk_at "sz") => `(tactic| (first | (rw [sizeLine_eq]; simp only [List.length_cons, List.length_nil, List.length_map, List.length_append, List.length_take]; omega) | (rw [sizeLine_eq]; omega)))
def SpecAt (K : PySem.W.Frag) (G : Hp) (ps : List Part) (ts : List Addr) : Prop := Paired (fun p t => ∃ cl gl as us, G t = some (.tup [.str p.1, .ref cl, .ref gl]) ∧ G cl = some (.lst (as.map V.ref)) ∧ CTs K G p.2.1 as ∧ G gl = some (.lst us) ∧ GrpsAt K G p.2.2 us) ps ts
theorem SpecAt.same {K : PySem.W.Frag} {G G' : Hp} {ps : List Part} {ts : List Addr} (h : SpecAt K G ps ts) (e : Same G G') : SpecAt K G' ps ts :=
  Sw.Paired.imp (fun _ _ ⟨cl, gl, as, us, h1, h2, h3, h4, h5⟩ => ⟨cl, gl, as, us, e _ _ h1, e _ _ h2, h3.same e, e _ _ h4, h5.same e⟩) h
/-- all stays but the list at p -/
structure But (p : Addr) (G G' : Hp) : Prop where
  e : ∀ b u, b ≠ p → G b = some u → G' b = some u
  l : ∃ L, G p = some (.lst L)
theorem But.t {K : PySem.W.Frag} {p a : Addr} {G G' : Hp} {xs : List V} (e : But p G G') (h : SqT K G a xs) : SqT K G' a xs := by
  obtain ⟨L, hl⟩ := e.l
  rcases h with (h | ⟨o, h⟩) | h
  · refine .inl (.inl (e.e a _ (fun z => ?_) h))
    rw [z, hl] at h
    cases h
  · refine .inl (.inr ⟨o, e.e a _ (fun z => ?_) h⟩)
    rw [z, hl] at h
    cases h
  · exact .inr h
theorem But.cts {K : PySem.W.Frag} {p : Addr} {G G' : Hp} {cs : List Col} {as : List Addr} (e : But p G G') (h : CTs K G cs as) : CTs K G' cs as := Sw.Paired.imp (fun _ _ x => e.t x) h
theorem But.grps {K : PySem.W.Frag} {p : Addr} {G G' : Hp} {gs : List (List Str)} {us : List V} (e : But p G G') (h : GrpsAt K G gs us) : GrpsAt K G' gs us := Sw.Paired.imp (fun _ _ ⟨q, h1, h2⟩ => ⟨q, h1, e.t h2⟩) h
def Pgd (p : Part) : Prop := isNm p.1 = true ∧ (∀ c ∈ p.2.1, c.ok) ∧ p.2.1.length ≤ 6 ∧ p.2.2.length ≤ 3 ∧ Gok p.2.2
section
variable {P : Program} {wo : World} {A : Ad} {K : PySem.W.Frag} {mg : Str → Option Value} {base : Heap}
/-! ### _law_spec -/
def spLSpec (K : PySem.W.Frag) : Sp := fun vs H Q _ => ∃ G a c, vs = [.ref a, .int 3] ∧ Wd G (RD a c) H ∧
  ∀ p ps ts G' H', Same G G' → G' p = some (.lst (ts.map V.ref)) → SpecAt K G' ps ts → ps.length ≤ 3 → (∀ q ∈ ps, Pgd q) → Wd G' (RD a c) H' → Q (.ref p) H'
theorem sc__law_spec : FnScope (["_law_state", "_law_most", "_law_tables", "_law_found", "_law_name", "_law_names_here", "_law_columns", "_law_one"] : List Str) (["_law_state", "_law_most"] : List Str) (defScope s__law_spec) := ⟨rfl, rfl, rfl, by decide +kernel, rfl, by decide +kernel, by decide +kernel⟩
theorem ok_lspec {f : Addr} {fd : FuncData} (F : Fun K "_law_spec" "_law_spec" s__law_spec f fd) (T : Txt K mg A) (Gd : GFn P wo K mg base 1 "_law_draw" 2 [] (fun vs _ => spDraw vs)) (Gns : GFn P wo K mg base 3 "_law_names" 2 [] (fun vs _ => spNames vs)) (Glc : GFn P wo K mg base 3 "_law_column" 3 [] (fun vs _ => spColumn K vs))
    (Glg : GFn P wo K mg base 3 "_law_groups" 2 [] (fun vs _ => spLGroups K vs)) : FnOk P wo K mg base (L2.CX P wo) 4 f fd (["_law_state", "_law_most"] : List Str) (spLSpec K) := by
  refine okT F sc__law_spec (fun vs H Q E h => ?_) (fun cdv Ar outer s H vs Q E hr tk po h => ?_)
  · obtain ⟨_, _, _, rfl, _⟩ := h
    rfl
  obtain ⟨G, a, c, rfl, w, k⟩ := h
  refine ⟨_, (pss_cons (ps_asg (pe_tup (pa_cons (pe_callG Gns (hr.mono (by decide)) tk (pa_cons (pv 0) (pa_cons (pe_op (ka_add K) pe_int (pe_callG Gd (hr.mono (by decide)) tk (pa_cons (pv 0) (pa_cons (pv 1) pa_nil)) pk_nil)) pa_nil)) pk_nil) (pa_cons (pe_lst pa_nil) pa_nil))) (kg_tup (n := 2) K rfl (pgs_cons (pg_name (i := 2) sc__law_spec.nd rfl (by first | exact Or.inl rfl | exact Or.inr rfl)) (pgs_cons (pg_name (i := 3) sc__law_spec.nd rfl (by first | exact Or.inl rfl | exact Or.inr rfl)) pgs_nil))))
      (pss_cons (ps_for po rfl (ki_list K (pv 2)) (pg_name (i := 4) sc__law_spec.nd rfl (by first | exact Or.inl rfl | exact Or.inr rfl)) (pss_cons (ps_set (i := 5) sc__law_spec.nd rfl (by first | exact Or.inl rfl | exact Or.inr rfl) (pe_callG Gns (hr.mono (by decide)) tk (pa_cons (pv 0) (pa_cons (pe_op (ka_add K) pe_int (pe_callG Gd (hr.mono (by decide)) tk (pa_cons (pv 0) (pa_cons pe_int pa_nil)) pk_nil)) pa_nil)) pk_nil))
      (pss_cons (ps_setLc (i := 6) (own := [("_law_one", 7)]) (g := (gName 7)) (tt := tYes) rfl sc__law_spec.nd rfl rfl (sw_true rfl rfl rfl (by decide +kernel)) (ki_list K (pv 5)) (blkOk_by (N := (["_law_state", "_law_most", "_law_tables", "_law_found", "_law_name", "_law_names_here", "_law_columns", "_law_one"] : List Str)) (sc := defScope s__law_spec) (by decide +kernel)) (fun _ _ _ _ _ => (pg_name (i := 7) sc__law_spec.nd rfl (by first | exact Or.inl rfl | exact Or.inr rfl))) (fun _ _ _ _ _ => pts_nil) (fun _ _ _ _ _ => (pe_callG Glc (hr.mono (by decide)) takes0 (pa_cons (pv 0) (pa_cons (pv 2) (pa_cons (pv 7) pa_nil))) pk_nil)))
      (pss_one (ps_expr (pe_bm PySem.F.plainAttrs_list PySem.F.slot_list_append PySem.F.type_list_append mt_append (pv 3) (pa_cons (pe_tup (pa_cons (pv 4) (pa_cons (pv 6) (pa_cons (pe_callG Glg (hr.mono (by decide)) tk (pa_cons (pv 0) (pa_cons (pv 6) pa_nil)) pk_nil) pa_nil)))) pa_nil)))))))
      (pss_one (ps_ret (pv 3))))), ?_⟩
  walk_at "go"
  refine ⟨rfl, rfl, _, a, c, _, rfl, w, by decide, by decide, fun r H2 r0 r1 w => ?_⟩
  walk_at "go"
  refine ⟨rfl, rfl, G, a, c, _, rfl, by omega, by omega, w, fun tl H3 tn ltn htn _ ntl w => ?_⟩
  walk_at "go"
  refine g_newL w (by walk_at "sz") fun p H4 np w => ?_
  walk_at "go"
  refine g_newL w (by walk_at "sz") fun tp H5 ntp w => ?_
  walk_at "go"
  refine ⟨tp, _, rfl, SqT.of (w.get upd_same), rfl, ?_⟩
  replace w := w.drop (Same.newG ntp)
  walk_at "go"
  have htl : upd G tl (.lst (tn.map V.str)) tl = some (.lst (tn.map V.str)) := upd_same
  have s1 : Same G (upd G tl (.lst (tn.map V.str))) := Same.newG ntl
  generalize upd G tl (.lst (tn.map V.str)) = G1 at *
  refine ⟨tl, rfl, ⟨_, SqL.of (w.get (upd_old htl np))⟩, ?_⟩
  refine for_it (itf_list (xs := tn.map V.str)) (fun i σ' H' => ∃ y4 y5 y6 GI ps ts, σ' = [some (.ref a), some (.int 3), some (.ref tl), some (.ref p), y4, y5, y6, none] ∧ Same G1 GI ∧ GI p = none ∧ Wd (upd GI p (.lst (ts.map V.ref))) (RD a c) H' ∧ SpecAt K GI ps ts ∧ ps.length = i ∧ ∀ q ∈ ps, Pgd q)
    ⟨_, _, _, G1, [], [], rfl, Same.refl _, np, w, .nil, rfl, fun _ z => absurd z List.not_mem_nil⟩ (fun i σ' H' _ h => ?_) ?_ ?_
  · obtain ⟨_, _, _, GI, _, _, _, e, n, w, _⟩ := h
    exact Evl.ex_l w.sub (SqL.of (upd_old (e _ _ htl) n))
  · rintro i x σ' H6 H7 hi ⟨y4, y5, y6, GI, ps, ts, rfl, e1, npI, w, hsp, lps, hgd⟩ ⟨rfl, hx⟩
    rw [List.getElem?_map] at hx
    obtain ⟨nm, hnm, rfl⟩ := Option.map_eq_some_iff.mp hx
    have hnm' := htn nm (List.mem_of_getElem? hnm)
    have hpW : upd GI p (.lst (ts.map V.ref)) p = some (.lst (ts.map V.ref)) := upd_same
    have sW : Same GI (upd GI p (.lst (ts.map V.ref))) := Same.newG npI
    generalize upd GI p (.lst (ts.map V.ref)) = GW at w hpW sW
    have hlt : ts.length ≤ 3 := by
      rw [← Sw.Paired.len hsp, lps]
      rw [List.length_map] at hi
      omega
    have SG : Same G1 GW := Same.trans e1 sW
    walk_at "go"
    refine ⟨rfl, rfl, _, a, c, _, rfl, w, by decide, by decide, fun r2 H8 r20 r21 w => ?_⟩
    walk_at "go"
    refine ⟨rfl, rfl, GW, a, c, _, rfl, by omega, by omega, w, fun nl H9 cn lcn hcn _ nnl w => ?_⟩
    have s2 : Same GW (upd GW nl (.lst (cn.map V.str))) := Same.newG nnl
    have hnl : upd GW nl (.lst (cn.map V.str)) nl = some (.lst (cn.map V.str)) := upd_same
    generalize upd GW nl (.lst (cn.map V.str)) = G2 at *
    have lcn' : cn.length ≤ 6 := by omega
    walk_at "go"
    refine ⟨nl, rfl, ⟨_, SqL.of (w.get hnl)⟩, ?_⟩
    refine lc_it (itf_list (xs := cn.map V.str)) w (fun H e => SqL.of (e _ _ hnl)) (by rw [sizeLine_eq, List.length_map]; omega) (fun i Gi acc => ∃ cs as, acc = as.map V.ref ∧ CTs K Gi cs as ∧ cs.length = i ∧ ∀ c ∈ cs, c.ok) ⟨[], [], rfl, .nil, rfl, fun _ z => absurd z List.not_mem_nil⟩ ?_ ?_
    · rintro j y Gi acc D Ha Hb hj ej nD ⟨cs, as, rfl, hct, lcs, hcok⟩ ha wj ⟨rfl, hy⟩
      rw [List.getElem?_map] at hy
      obtain ⟨cnm, hcnm, rfl⟩ := Option.map_eq_some_iff.mp hy
      walk_at "go"
      refine ⟨rfl, ?_⟩
      walk_at "go"
      refine ⟨rfl, rfl, _, a, c, tl, cnm, tn, rfl, wj, upd_old (ej _ _ (s2 _ _ (SG _ _ htl))) nD, by omega, by omega, fun co p2 Hc e2 e3 n2 w2 => ?_⟩
      obtain ⟨n2a, n2b⟩ := upd_nonne n2
      rw [upd_comm n2b] at w2
      refine lc_keep (Pv := fun i Gi acc => ∃ cs as, acc = as.map V.ref ∧ CTs K Gi cs as ∧ cs.length = i ∧ ∀ c ∈ cs, c.ok) w2 (Same.trans ej (Same.newG n2a)) (by rw [upd_ne n2b.symm]; exact nD) ha hj (by rw [sizeLine_eq, List.length_map]; omega)
        ⟨cs ++ [co], as ++ [p2], by rw [List.map_append]; rfl, Sw.Paired.app (hct.same (Same.newG n2a)) (.cons (SqT.of upd_same) .nil), by rw [List.length_append, lcs]; rfl, fun z hz => ?_⟩
      rcases List.mem_append.mp hz with hz | hz
      · exact hcok z hz
      · rw [List.mem_singleton.mp hz]
        exact ⟨by rw [e2]; exact hcn cnm (List.mem_of_getElem? hcnm), fun z => ⟨htn _ (e3 z).1, (e3 z).2⟩⟩
    · rintro D Gn acc Ha ej nD ⟨cs, as, rfl, hct, lcs, hcok⟩ ha w
      rw [List.length_map] at lcs
      have S3 : Same G2 (upd Gn D (.lst (as.map V.ref))) := Same.trans ej (Same.newG nD)
      have hD : upd Gn D (.lst (as.map V.ref)) D = some (.lst (as.map V.ref)) := upd_same
      have hct3 := hct.same (Same.newG nD (o := .lst (as.map V.ref)))
      generalize upd Gn D (.lst (as.map V.ref)) = G3 at *
      have las : as.length ≤ 6 := by rw [← Sw.Paired.len hct, lcs]; exact lcn'
      walk_at "go"
      refine g_tyL w (S3 _ _ (s2 _ _ hpW)) ?_
      walk_at "go"
      refine ⟨rfl, rfl, G3, a, c, D, cs, as, rfl, w, hD, hct3, by omega, fun cc hcc => (hcok cc hcc).1, fun gp us gs G4 H10 n4 s4 q4 hg4 lg4 gok w => ?_⟩
      walk_at "go"
      refine g_newA w (by walk_at "sz") fun tp2 G5 H11 n5 s5 q5 w => ?_
      have SA : Same GW G5 := Same.trans s2 (Same.trans S3 (Same.trans s4 s5))
      walk_at "go"
      refine g_app w (SA _ _ hpW) (by rw [sizeLine_eq, List.length_map]; omega) fun H12 w => ?_
      walk_at "go"
      -- all but the list itself
      obtain ⟨Gm, m1, m2, w3⟩ := Sv.Wd.take w upd_same
      have mm : ∀ b, b ≠ p → Gm b = G5 b := fun b hb => by rw [m2 b hb, upd_ne hb]
      have Sm : Same GI Gm := fun b u z => by
        have hb : b ≠ p := ne_of_none z npI
        rw [mm b hb]
        exact SA _ _ (sW _ _ z)
      have bt : But p G5 Gm := ⟨fun b u hb z => by rw [mm b hb]; exact z, _, SA _ _ hpW⟩
      have h3p : G3 p = some (.lst (ts.map V.ref)) := S3 _ _ (s2 _ _ hpW)
      have dD : D ≠ p := (ne_of_none (ej _ _ (s2 _ _ hpW)) nD).symm
      have dg : gp ≠ p := (ne_of_none h3p n4).symm
      have dt : tp2 ≠ p := (ne_of_none (s4 _ _ h3p) n5).symm
      refine ⟨_, _, _, Gm, ps ++ [(nm, cs, gs)], ts ++ [tp2], rfl, Same.trans e1 Sm, m1, ?_, Sw.Paired.app (hsp.same Sm) (.cons ⟨D, gp, as, us, by rw [mm tp2 dt]; exact q5, by rw [mm D dD]; exact s5 _ _ (s4 _ _ hD), bt.cts (hct3.same (Same.trans s4 s5)), by rw [mm gp dg]; exact s5 _ _ q4, bt.grps (hg4.same s5)⟩ .nil), by rw [List.length_append, lps]; rfl, fun q hq => ?_⟩
      · rw [List.map_append]; exact w3
      · rcases List.mem_append.mp hq with hq | hq
        · exact hgd q hq
        · rw [List.mem_singleton.mp hq]
          exact ⟨hnm', hcok, by rw [lcs]; exact lcn', lg4, gok⟩
  · rintro σ' H6 ⟨y4, y5, y6, GI, ps, ts, rfl, e1, npI, w, hsp, lps, hgd⟩
    walk_at "go"
    rw [List.length_map] at lps
    refine k p ps ts _ H6 (Same.trans s1 (Same.trans e1 (Same.newG npI))) upd_same (hsp.same (Same.newG npI)) (by omega) hgd w
end
end Sv


set_option Elab.async false
set_option linter.all false
set_option maxRecDepth 100000
set_option maxHeartbeats 4000000
namespace Sv
open PySem PySem.Spec PyProof.Rows L2 Sw
/-! ### measures of texts -/
structure Addv (f : Str → Nat) : Prop where
  a : ∀ x y, f (x ++ y) = f x + f y
  e : f "" = 0
def sf (f : Str → Nat) (ls : List Str) : Nat := (ls.map f).sum
theorem sf_app (f : Str → Nat) (a b : List Str) : sf f (a ++ b) = sf f a + sf f b := by
  unfold sf
  rw [List.map_append, List.sum_append]
theorem sf_cons (f : Str → Nat) (a : Str) (b : List Str) : sf f (a :: b) = f a + sf f b := by
  unfold sf
  rw [List.map_cons, List.sum_cons]
theorem sf_take (f : Str → Nat) (ws : List Str) (n : Nat) : sf f (ws.take n) ≤ sf f ws := by
  have := sf_app f (ws.take n) (ws.drop n)
  rw [List.take_append_drop] at this
  omega
theorem sf_drop (f : Str → Nat) (ws : List Str) (n : Nat) : sf f (ws.drop n) ≤ sf f ws := by
  have := sf_app f (ws.take n) (ws.drop n)
  rw [List.take_append_drop] at this
  omega
theorem sf_mem {f : Str → Nat} {ws : List Str} {x : Str} (h : x ∈ ws) : f x ≤ sf f ws := le_sum (List.mem_map_of_mem (f := f) h)
theorem sf_set (f : Str → Nat) : ∀ (ws : List Str) (i : Nat) (x : Str), sf f (ws.set i x) ≤ sf f ws + f x
  | [], _, _ => Nat.zero_le _
  | a :: r, 0, x => by
    show sf f (x :: r) ≤ _
    rw [sf_cons, sf_cons]
    omega
  | a :: r, i + 1, x => by
    show sf f (a :: r.set i x) ≤ _
    rw [sf_cons, sf_cons]
    have := sf_set f r i x
    omega
theorem join_sf {f : Str → Nat} (F : Addv f) (y : Str) : ∀ ls : List Str, f (Str.join y ls) + (if ls = [] then 0 else f y) = sf f ls + ls.length * f y
  | [] => by
    have : f (Str.join y []) = 0 := F.e
    rw [this]
    simp [sf]
  | [p] => by
    show f p + (if [p] = [] then 0 else f y) = sf f [p] + 1 * f y
    rw [if_neg (fun z => nomatch z), sf_cons]
    simp [sf]
  | p :: q :: r => by
    have ih := join_sf F y (q :: r)
    rw [if_neg (fun z => nomatch z)] at ih ⊢
    show f (p ++ y ++ Str.join y (q :: r)) + f y = _
    rw [F.a, F.a, sf_cons, List.length_cons, Nat.add_mul]
    omega
theorem join_le {f : Str → Nat} (F : Addv f) (y : Str) (ls : List Str) : f (Txt.join y ls) ≤ sf f ls + ls.length * f y := by
  rw [TL.join_eq]
  have := join_sf F y ls
  omega
theorem split_sf {f : Str → Nat} (F : Addv f) (s y : Str) (h : Txt.split s y ≠ []) : sf f (Txt.split s y) + (Txt.split s y).length * f y = f s + f y := by
  have := join_sf F y (Txt.split s y)
  rw [StrLaws.join_split, if_neg h] at this
  omega
def nl (s : Str) : Nat := s.cps.toList.count 10
theorem nl_add : Addv nl := ⟨fun x y => by
    unfold nl
    have : (x ++ y).cps.toList = x.cps.toList ++ y.cps.toList := TL.tl_append x y
    rw [this, List.count_append], rfl⟩
theorem len_add : Addv Str.length := ⟨fun x y => strLen_append x y, rfl⟩
theorem nl_cut (s : Str) (lo hi : Option Int) : nl (cutS s lo hi) ≤ nl s := by
  unfold nl cutS
  simp only [List.toList_toArray]
  exact (List.Sublist.trans (List.take_sublist _ _) (List.drop_sublist _ _)).count_le 10
theorem cutV_sf (ws : List Str) (lo hi : Option Int) : ∃ us : List Str, cutV (ws.map V.str) lo hi = us.map V.str ∧ (∀ f, sf f us ≤ sf f ws) ∧ us.length ≤ ws.length := by
  refine ⟨(ws.drop (HT.sIx (ws.map V.str).length 0 lo)).take (HT.sIx (ws.map V.str).length (ws.map V.str).length hi - HT.sIx (ws.map V.str).length 0 lo), ?_, fun f => Nat.le_trans (sf_take _ _ _) (sf_drop _ _ _), ?_⟩
  · unfold cutV
    rw [List.map_take, List.map_drop]
  · rw [List.length_take, List.length_drop]
    omega
theorem low_nl {s : Str} (h : lowS s = true) : nl s = 0 := by
  unfold nl
  refine List.count_eq_zero.mpr fun z => ?_
  unfold lowS at h
  have := List.all_eq_true.mp h 10 z
  rw [decide_eq_true_eq] at this
  revert this
  decide +kernel
theorem nm_nl {s : Str} (h : isNm s = true) : nl s = 0 := low_nl (by
  unfold isNm at h
  exact (Bool.and_eq_true_iff.mp h).2)
theorem sf_zero {f : Str → Nat} : ∀ {ws : List Str}, (∀ w ∈ ws, f w = 0) → sf f ws = 0
  | [], _ => rfl
  | a :: r, h => by rw [sf_cons, h a List.mem_cons_self, sf_zero fun w hw => h w (List.mem_cons_of_mem _ hw)]
theorem join_nl {ws : List Str} (h : ∀ w ∈ ws, nl w = 0) : nl (Txt.join " " ws) = 0 := by
  have := join_le nl_add " " ws
  rw [sf_zero h, show nl (" " : Str) = 0 from rfl] at this
  omega
theorem words_nl {c : Col} (h : c.ok) : ∀ w ∈ c.words, nl w = 0 := by
  have hk : nl (kstr c.k) = 0 := by
    cases c.k <;> decide +kernel
  have hn := nm_nl h.1
  have ho : ∀ w ∈ optW c.opt, nl w = 0 := by
    unfold optW
    split
    · decide +kernel
    · intro w hw
      cases hw
  intro w hw
  unfold Col.words at hw
  split at hw
  · rename_i e
    obtain ⟨h2, h3⟩ := h.2 e
    simp only [List.mem_append, List.mem_cons, List.not_mem_nil, or_false] at hw
    rcases hw with ((rfl | rfl | rfl) | hw) | rfl
    · exact hk
    · exact hn
    · exact nm_nl h2
    · exact ho w hw
    · rcases ruleOk_mem h3 with q | q | q <;> rw [q] <;> decide +kernel
  · unfold Col.words0 at hw
    simp only [List.mem_append, List.mem_cons, List.not_mem_nil, or_false] at hw
    rcases hw with (rfl | rfl) | hw
    · exact hk
    · exact hn
    · exact ho w hw
theorem text_nl {c : Col} (h : c.ok) : nl c.text = 0 := join_nl (words_nl h)
end Sv

set_option Elab.async false
set_option linter.all false
set_option maxRecDepth 100000
set_option maxHeartbeats 4000000
namespace Sv
open PySem PySem.Spec PyProof.Rows L2 Sw
local macro_rules | `(tactic| walk_at "go1") => `(tactic| first
  | ((with_reducible refine' g_var ?hv ?_); (case hv => rfl))
  | with_reducible refine g_c ?_
  | with_reducible refine g_op ?_
  | with_reducible refine g_un ?_
  | with_reducible refine g_seq ?_
  | with_reducible refine g_next ?_
  | with_reducible refine g_asg ?_
  | with_reducible refine g_name ?_
  | with_reducible refine g_drop ?_
  | with_reducible refine g_sub ?_
  | with_reducible refine g_ret ?_
  | with_reducible refine g_retN ?_
  | with_reducible refine g_ifS ?_
  | with_reducible refine g_if ?_
  | with_reducible refine g_test ?_
  | with_reducible refine g_bl ?_
  | with_reducible refine g_cons ?_
  | with_reducible refine g_nil ?_
  | with_reducible refine g_and ?_
  | with_reducible refine g_or ?_
  | with_reducible refine g_not ?_
  | with_reducible refine g_callB ?_
  | with_reducible refine g_addI ?_
  | with_reducible refine g_I0 ?_
  | with_reducible refine g_calG ?_
  | with_reducible refine g_mkG ?_
  | with_reducible refine g_tup ?_
  | with_reducible refine g_pairs1 ?_
  | with_reducible refine g_pairs0 ?_
  | with_reducible refine g_dget ?_
  | with_reducible refine g_lvals ?_
  | with_reducible refine g_forT ?_
  | with_reducible refine g_lcT ?_
  | with_reducible refine g_dput ?_
  | with_reducible refine g_lc2L ?_
  | with_reducible refine g_iList ?_
  | with_reducible refine g_lcX ?_
  | with_reducible refine g_js1 ?_
  | with_reducible refine g_js0 ?_
  | with_reducible refine g_fmt ?_
  | with_reducible refine g_tLenSet ?_
  | with_reducible refine g_mkV ?_
  | with_reducible refine g_mkV1 ?_
  | with_reducible refine g_lst ?_
  | with_reducible refine g_forL ?_
  | with_reducible refine g_forR ?_
  | with_reducible refine g_forR2 ?_
  | with_reducible refine g_forS ?_
  | with_reducible refine g_forE ?_
  | with_reducible refine g_lcL ?_
  | with_reducible refine g_lcR ?_
  | with_reducible refine g_lcS ?_
  | with_reducible refine g_lcE ?_
  | with_reducible refine g_orT ?_
  | with_reducible refine g_slc ?_
  | with_reducible refine g_noPart ?_
  | with_reducible refine g_part ?_
  | with_reducible refine g_bm ?_
  | with_reducible refine g_par ?_
  | with_reducible refine g_yes ?_
  | with_reducible refine g_tupG ?_
  | with_reducible refine g_lstG ?_
  | with_reducible refine g_gcons ?_
  | with_reducible refine g_gnil ?_
  | with_reducible refine g_chain ?_
  | with_reducible refine g_truB ?_
  | with_reducible refine g_truN ?_
  | with_reducible refine g_truI ?_
  | with_reducible refine g_m1 ?_
  | with_reducible refine g_fld ?_
  | with_reducible refine g_con ?_
  | with_reducible refine g_tru ?_
  | with_reducible refine g_U ?_
  | with_reducible refine g_xg ?_
  | with_reducible refine g_andT ?_
  | with_reducible refine g_exI ?_
  | with_reducible refine g_dnew ?_
  | with_reducible refine g_intB ?_
  | with_reducible refine g_meth ?_
  | with_reducible refine g_prop ?_
  | with_reducible refine g_exc1 ?_
  | with_reducible refine g_setF ?_
  | with_reducible refine g_star ?_
  | with_reducible refine g_strM ?_
  | with_reducible refine iteT ?_
  | with_reducible refine iteF ?_
  | with_reducible refine iteNT ?_
  | with_reducible refine iteNF ?_)
local macro_rules | `(tactic| walk_at "go") => `(tactic| repeat (walk_at "go1"))
local macro_rules | `(tactic| walk_at "sz") => `(tactic| (first | (rw [sizeLine_eq]; simp only [List.length_cons, List.length_nil, List.length_map, List.length_append, List.length_take]; omega) | (rw [sizeLine_eq]; omega)))
theorem grp_weight {g : List Str} (h1 : g.length ≤ 3) (h2 : ∀ n ∈ g, isNm n = true) : weight g ≤ 33 := by
  have := grp_size h1 h2
  unfold weight
  rw [List.map_cons, List.sum_cons, List.length_cons] at this
  have e1 : ("unique" : Str).length = 6 := rfl
  have e2 : (" " : Str).length = 1 := rfl
  rw [e1, e2] at this
  omega
theorem sum71 : ∀ l : List Str, (∀ x ∈ l, x.length ≤ 70) → ((l.map (· ++ ("\n" : Str))).map (·.length)).sum ≤ 71 * l.length
  | [], _ => Nat.le_refl _
  | x :: l, h => by
    have h1 := h x List.mem_cons_self
    have h2 := sum71 l fun y hy => h y (List.mem_cons_of_mem _ hy)
    rw [List.map_cons, List.map_cons, List.sum_cons, List.length_cons, strLen_append]
    show x.length + 1 + _ ≤ _
    omega
theorem join0_len (l : List Str) : (Txt.join "" l).length = (l.map (·.length)).sum := by
  rw [TL.join_eq]
  cases l with
  | nil => rfl
  | cons a l =>
    rw [len_join_cons]
    have e : ("" : Str).length = 0 := rfl
    rw [e, Nat.mul_zero, Nat.add_zero]
section
variable {P : Program} {wo : World} {A : Ad} {K : PySem.W.Frag} {mg : Str → Option Value} {base : Heap}
/-! ### _law_schema_text -/
def spLSchT (K : PySem.W.Frag) : Sp := fun vs H Q _ => ∃ G R p ps ts, vs = [.ref p] ∧ Wd G R H ∧ G p = some (.lst (ts.map V.ref)) ∧ SpecAt K G ps ts ∧ ps.length ≤ 3 ∧ (∀ q ∈ ps, Pgd q) ∧ ∀ t H', t.length ≤ 3000 → nl t ≤ 30 → Wd G R H' → Q (.str t) H'
theorem sc__law_schema_text : FnScope (["_law_spec_here", "_law_lines", "_law_name", "_law_columns", "_law_groups_here", "_law_column_here", "_law_group", "_law_line"] : List Str) (["_law_spec_here"] : List Str) (defScope s__law_schema_text) := ⟨rfl, rfl, rfl, by decide +kernel, rfl, by decide +kernel, by decide +kernel⟩
theorem ok_lscht {f : Addr} {fd : FuncData} (F : Fun K "_law_schema_text" "_law_schema_text" s__law_schema_text f fd) (T : Txt K mg A) (Glct : GFn P wo K mg base 1 "_law_column_text" 1 [] (fun vs _ => spColText K vs)) : FnOk P wo K mg base (L2.CX P wo) 2 f fd (["_law_spec_here"] : List Str) (spLSchT K) := by
  refine okT F sc__law_schema_text (fun vs H Q E h => ?_) (fun cdv Ar outer s H vs Q E hr tk po h => ?_)
  · obtain ⟨_, _, _, _, _, rfl, _⟩ := h
    rfl
  obtain ⟨G, R, p, ps, ts, rfl, w, hp, hsp, lps, hgd, k⟩ := h
  refine ⟨_, (pss_cons (ps_set (i := 1) sc__law_schema_text.nd rfl (by first | exact Or.inl rfl | exact Or.inr rfl) (pe_lst pa_nil))
      (pss_cons (ps_for po rfl (ki_list K (pv 0)) (kg_tup (n := 3) K rfl (pgs_cons (pg_name (i := 2) sc__law_schema_text.nd rfl (by first | exact Or.inl rfl | exact Or.inr rfl)) (pgs_cons (pg_name (i := 3) sc__law_schema_text.nd rfl (by first | exact Or.inl rfl | exact Or.inr rfl)) (pgs_cons (pg_name (i := 4) sc__law_schema_text.nd rfl (by first | exact Or.inl rfl | exact Or.inr rfl)) pgs_nil)))) (pss_cons (ps_expr (pe_bm PySem.F.plainAttrs_list PySem.F.slot_list_append PySem.F.type_list_append mt_append (pv 1) (pa_cons (pe_op (ka_add K) pe_str (pv 2)) pa_nil)))
      (pss_cons (ps_set (i := 1) sc__law_schema_text.nd rfl (by first | exact Or.inl rfl | exact Or.inr rfl) (pe_op (ka_add K) (pv 1) (pe_lc (own := [("_law_column_here", 5)]) (g := (gName 5)) (tt := tYes) rfl sc__law_schema_text.nd (ki_list K (pv 3)) (blkOk_by (N := (["_law_spec_here", "_law_lines", "_law_name", "_law_columns", "_law_groups_here", "_law_column_here", "_law_group", "_law_line"] : List Str)) (sc := defScope s__law_schema_text) (by decide +kernel)) (fun _ _ _ _ _ => (pg_name (i := 5) sc__law_schema_text.nd rfl (by first | exact Or.inl rfl | exact Or.inr rfl))) (fun _ _ _ _ _ => pts_nil) (fun _ _ _ _ _ => (pe_callG Glct (hr.mono (by decide)) takes0 (pa_cons (pv 5) pa_nil) pk_nil)))))
      (pss_one (ps_set (i := 1) sc__law_schema_text.nd rfl (by first | exact Or.inl rfl | exact Or.inr rfl) (pe_op (ka_add K) (pv 1) (pe_lc (own := [("_law_group", 6)]) (g := (gName 6)) (tt := tYes) rfl sc__law_schema_text.nd (ki_list K (pv 4)) (blkOk_by (N := (["_law_spec_here", "_law_lines", "_law_name", "_law_columns", "_law_groups_here", "_law_column_here", "_law_group", "_law_line"] : List Str)) (sc := defScope s__law_schema_text) (by decide +kernel)) (fun _ _ _ _ _ => (pg_name (i := 6) sc__law_schema_text.nd rfl (by first | exact Or.inl rfl | exact Or.inr rfl))) (fun _ _ _ _ _ => pts_nil) (fun _ _ _ _ _ => (pe_op (ka_add K) pe_str (ke_join K pe_str (pe_callTy (ka_list K) (by rfl) T.nb_list (by decide +kernel) (pa_cons (pv 6) pa_nil))))))))))))
      (pss_one (ps_ret (ke_join K pe_str (pe_lc (own := [("_law_line", 7)]) (g := (gName 7)) (tt := tYes) rfl sc__law_schema_text.nd (ki_list K (pv 1)) (blkOk_by (N := (["_law_spec_here", "_law_lines", "_law_name", "_law_columns", "_law_groups_here", "_law_column_here", "_law_group", "_law_line"] : List Str)) (sc := defScope s__law_schema_text) (by decide +kernel)) (fun _ _ _ _ _ => (pg_name (i := 7) sc__law_schema_text.nd rfl (by first | exact Or.inl rfl | exact Or.inr rfl))) (fun _ _ _ _ _ => pts_nil) (fun _ _ _ _ _ => (pe_op (ka_add K) (pv 7) pe_str)))))))), ?_⟩
  walk_at "go"
  refine g_newL w (by walk_at "sz") fun ll H1 nll w => ?_
  walk_at "go"
  refine ⟨p, rfl, ⟨_, SqL.of (w.get (upd_old hp nll))⟩, ?_⟩
  refine for_it (itf_list (xs := ts.map V.ref)) (fun i σ' H' => ∃ l2 y2 y3 y4 GI, ∃ ls : List Str, σ' = [some (.ref p), some (.ref l2), y2, y3, y4, none, none, none] ∧ Same G GI ∧ GI l2 = none ∧ Wd (upd GI l2 (.lst (ls.map V.str))) R H' ∧ ls.length ≤ 10 * i ∧ ∀ l ∈ ls, l.length ≤ 70 ∧ nl l = 0)
    ⟨_, _, _, _, G, [], rfl, Same.refl _, nll, w, Nat.zero_le _, fun _ z => absurd z List.not_mem_nil⟩ (fun i σ' H' _ h => ?_) ?_ ?_
  · obtain ⟨_, _, _, _, GI, _, _, e, n, w, _⟩ := h
    exact Evl.ex_l w.sub (SqL.of (upd_old (e _ _ hp) n))
  · rintro i x σ' H6 H7 hi ⟨l2, y2, y3, y4, GI, ls, rfl, e1, nI, w, lls, h70⟩ ⟨rfl, hx⟩
    rw [List.getElem?_map] at hx
    obtain ⟨t, ht, rfl⟩ := Option.map_eq_some_iff.mp hx
    obtain ⟨q, hq, cl, gl, as, us, ht1, hcl, hct, hgl, hgr⟩ := Sw.Paired.atR hsp ht
    obtain ⟨qn, qc, ql, qg, qo⟩ := hgd q (List.mem_of_getElem? hq)
    have n8 := isNm_len qn
    have hi3 : i < 3 := by
      rw [List.length_map, ← Sw.Paired.len hsp] at hi
      omega
    have las : as.length ≤ 6 := by rw [← Sw.Paired.len hct]; exact ql
    have lus : us.length ≤ 3 := by rw [← Sw.Paired.len hgr]; exact qg
    walk_at "go"
    refine ⟨t, _, rfl, SqT.of (w.get (upd_old (e1 _ _ ht1) nI)), rfl, ?_⟩
    walk_at "go"
    refine g_tyL w upd_same ?_
    walk_at "go"
    refine g_addS (by rw [sizeLine_eq]; show 6 + q.1.length ≤ _; omega) ?_
    walk_at "go"
    refine g_app w upd_same (by rw [sizeLine_eq, List.length_map]; omega) fun H8 w => ?_
    rw [upd_upd] at w
    have e70 : (("table " : Str) ++ q.1).length ≤ 70 := by
      rw [strLen_append]
      show 6 + q.1.length ≤ 70
      omega
    have em : ls.map V.str ++ [V.str (("table " : Str) ++ q.1)] = (ls ++ [("table " : Str) ++ q.1]).map V.str := by rw [List.map_append]; rfl
    rw [em] at w
    have l70 : ∀ l ∈ ls ++ [("table " : Str) ++ q.1], l.length ≤ 70 ∧ nl l = 0 := fun l hl => by
      rcases List.mem_append.mp hl with hl | hl
      · exact h70 l hl
      · rw [List.mem_singleton.mp hl]; exact ⟨e70, by rw [nl_add.a, nm_nl qn]; rfl⟩
    have ll1 : (ls ++ [("table " : Str) ++ q.1]).length ≤ 10 * i + 1 := by rw [List.length_append]; simp; omega
    generalize ls ++ [("table " : Str) ++ q.1] = l1 at *
    have sI : Same G (upd GI l2 (.lst (l1.map V.str))) := Same.trans e1 (Same.newG nI)
    have hl2 : upd GI l2 (.lst (l1.map V.str)) l2 = some (.lst (l1.map V.str)) := upd_same
    generalize upd GI l2 (.lst (l1.map V.str)) = G1 at *
    walk_at "go"
    refine ⟨cl, rfl, ⟨_, SqL.of (w.get (sI _ _ hcl))⟩, ?_⟩
    refine lc_it (itf_list (xs := as.map V.ref)) w (fun H e => SqL.of (e _ _ (sI _ _ hcl))) (by rw [sizeLine_eq, List.length_map]; omega) (fun i Gi acc => acc = ((q.2.1.take i).map Col.text).map V.str) rfl ?_ ?_
    · rintro j y Gi acc D Ha Hb hj ej nD rfl ha wj ⟨rfl, hy⟩
      rw [List.getElem?_map] at hy
      obtain ⟨ca, hca, rfl⟩ := Option.map_eq_some_iff.mp hy
      obtain ⟨cc, hcc, hct2⟩ := Sw.Paired.atR hct hca
      walk_at "go"
      refine ⟨rfl, ?_⟩
      walk_at "go"
      refine ⟨rfl, rfl, _, R, ca, cc, rfl, wj, Evl.ex_t (Same.trans sI (Same.trans ej (Same.newG nD))) hct2, qc cc (List.mem_of_getElem? hcc), fun Hc wc => ?_⟩
      refine lc_keep (Pv := fun i Gi acc => acc = ((q.2.1.take i).map Col.text).map V.str) wc ej nD ha hj (by rw [sizeLine_eq, List.length_map]; omega) ?_
      rw [List.take_add_one, hcc]
      simp
    rintro D Gn acc Ha ej nD rfl ha w
    rw [List.length_map, ← Sw.Paired.len hct, List.take_length] at w
    have lct : ((q.2.1.map Col.text).map V.str).length ≤ 6 := by rw [List.length_map, List.length_map]; exact ql
    refine g_addLA w (upd_old (ej _ _ hl2) nD) upd_same (by rw [sizeLine_eq]; rw [List.length_map]; omega) fun l3 G3 H9 n3 s3 q3 w => ?_
    have S3 : Same G G3 := Same.trans sI (Same.trans (Same.trans ej (Same.newG nD)) s3)
    have em2 : l1.map V.str ++ (q.2.1.map Col.text).map V.str = (l1 ++ q.2.1.map Col.text).map V.str := by rw [List.map_append]
    rw [em2] at q3
    have l70' : ∀ l ∈ l1 ++ q.2.1.map Col.text, l.length ≤ 70 ∧ nl l = 0 := fun l hl => by
      rcases List.mem_append.mp hl with hl | hl
      · exact l70 l hl
      · obtain ⟨cc, hcc, rfl⟩ := List.mem_map.mp hl
        have h1 := join_weight cc.words
        have h2 := Col.text_len (qc cc hcc)
        unfold weight at h1
        exact ⟨Nat.le_trans h1 (by omega), text_nl (qc cc hcc)⟩
    have ll2 : (l1 ++ q.2.1.map Col.text).length ≤ 10 * i + 7 := by rw [List.length_append, List.length_map]; omega
    generalize l1 ++ q.2.1.map Col.text = l4 at *
    walk_at "go"
    refine ⟨gl, rfl, ⟨_, SqL.of (w.get (S3 _ _ hgl))⟩, ?_⟩
    refine lc_it (itf_list (xs := us)) w (fun H e => SqL.of (e _ _ (S3 _ _ hgl))) (by rw [sizeLine_eq]; omega) (fun i Gi acc => ∃ gt : List Str, acc = gt.map V.str ∧ gt.length ≤ i ∧ ∀ l ∈ gt, l.length ≤ 70 ∧ nl l = 0) ⟨[], rfl, Nat.le_refl _, fun _ z => absurd z List.not_mem_nil⟩ ?_ ?_
    · rintro j y Gi acc D2 Ha Hb hj ej2 nD2 ⟨gt, rfl, lgt, hgt⟩ ha wj ⟨rfl, hy⟩
      obtain ⟨g, hg, gp, rfl, hgp⟩ := Sw.Paired.atR hgr hy
      obtain ⟨g3, gn⟩ := qo g (List.mem_of_getElem? hg)
      have gw := grp_weight g3 gn
      have gj := join_weight g
      walk_at "go"
      refine ⟨rfl, ?_⟩
      walk_at "go"
      refine g_listT wj (Evl.ex_t (Same.trans S3 (Same.trans ej2 (Same.newG nD2))) hgp) fun gq Hc ngq wc => ?_
      refine g_join wc (SqL.of upd_same) (by have e2 : (" " : Str).length = 1 := rfl; rw [e2]; unfold weight at gw; omega) ?_
      refine g_addS (by rw [sizeLine_eq]; show 7 + (Txt.join " " g).length ≤ _; omega) ?_
      refine lc_keep (Pv := fun i Gi acc => ∃ gt : List Str, acc = gt.map V.str ∧ gt.length ≤ i ∧ ∀ l ∈ gt, l.length ≤ 70 ∧ nl l = 0) (wc.drop (Same.newG ngq)) ej2 nD2 ha hj (by rw [sizeLine_eq]; omega) ⟨gt ++ [("unique " : Str) ++ Txt.join " " g], by rw [List.map_append]; rfl, by rw [List.length_append]; simp; omega, fun l hl => ?_⟩
      rcases List.mem_append.mp hl with hl | hl
      · exact hgt l hl
      · rw [List.mem_singleton.mp hl, strLen_append, nl_add.a, join_nl fun n hn => nm_nl (gn n hn)]
        refine ⟨?_, rfl⟩
        show 7 + (Txt.join " " g).length ≤ 70
        omega
    rintro D2 Gn2 acc2 Hc ej2 nD2 ⟨gt, rfl, lgt, hgt⟩ ha2 w
    refine g_addLA w (upd_old (ej2 _ _ q3) nD2) upd_same (by rw [sizeLine_eq]; rw [List.length_map, List.length_map]; omega) fun l5 G5 H9 n5 s5 q5 w => ?_
    have S4 : Same G (upd Gn2 D2 (.lst (gt.map V.str))) := Same.trans S3 (Same.trans ej2 (Same.newG nD2))
    have nG5 : G l5 = none := Same.free S4 n5
    rw [← List.map_append] at q5
    walk_at "go"
    obtain ⟨Gm, m1, m2, w3⟩ := Sv.Wd.take w q5
    refine ⟨l5, _, _, _, Gm, l4 ++ gt, rfl, fun b u z => ?_, m1, w3, ?_, fun l hl => ?_⟩
    · rw [m2 b (ne_of_none z nG5)]
      exact s5 _ _ (S4 _ _ z)
    · rw [List.length_append]; omega
    · rcases List.mem_append.mp hl with hl | hl
      · exact l70' l hl
      · exact hgt l hl
  · rintro σ' H6 ⟨l2, y2, y3, y4, GI, ls, rfl, e1, nI, w, lls, h70⟩
    rw [List.length_map, ← Sw.Paired.len hsp] at lls
    have lls' : ls.length ≤ 30 := by omega
    walk_at "go"
    refine ⟨l2, rfl, ⟨_, SqL.of (w.get upd_same)⟩, ?_⟩
    refine lc_it (itf_list (xs := ls.map V.str)) w (fun H e => SqL.of (e _ _ upd_same)) (by rw [sizeLine_eq, List.length_map]; omega) (fun i _ acc => acc = ((ls.take i).map (· ++ ("\n" : Str))).map V.str) rfl ?_ ?_
    · rintro j y Gi acc D2 H3 H4 hj e2 nD2 rfl ha w3 ⟨rfl, hy⟩
      rw [List.getElem?_map] at hy
      obtain ⟨ln, hln, rfl⟩ := Option.map_eq_some_iff.mp hy
      have lnl := (h70 ln (List.mem_of_getElem? hln)).1
      walk_at "go"
      refine ⟨rfl, ?_⟩
      walk_at "go"
      refine g_addS (by rw [sizeLine_eq]; show ln.length + 1 ≤ _; omega) ?_
      refine lc_keep (Pv := fun i _ acc => acc = ((ls.take i).map (· ++ ("\n" : Str))).map V.str) w3 e2 nD2 ha hj (by rw [sizeLine_eq, List.length_map]; omega) ?_
      rw [List.take_add_one, hln]
      simp
    · rintro D2 Gn2 acc H3 e2 nD2 rfl ha w
      rw [List.length_map, List.take_length] at w
      have b := sum71 ls fun l hl => (h70 l hl).1
      walk_at "go"
      refine g_join w (SqL.of upd_same) ?_ ?_
      · have z : ("" : Str).length = 0 := rfl
        rw [z]
        omega
      · refine k _ _ ?_ ?_ (w.drop (Same.trans (Same.trans e1 (Same.newG nI)) (Same.trans e2 (Same.newG nD2))))
        · rw [join0_len]
          omega
        · have j := join_le nl_add "" (ls.map (· ++ ("\n" : Str)))
          rw [show nl ("" : Str) = 0 from rfl, Nat.mul_zero, Nat.add_zero] at j
          have z : ∀ l : List Str, (∀ x ∈ l, nl x = 0) → sf nl (l.map (· ++ ("\n" : Str))) ≤ l.length := fun l => by
            induction l with
            | nil => intro _; exact Nat.le_refl _
            | cons a r ih =>
              intro h
              rw [List.map_cons, sf_cons, List.length_cons, nl_add.a, h a List.mem_cons_self]
              have := ih fun x hx => h x (List.mem_cons_of_mem _ hx)
              have e : nl ("\n" : Str) = 1 := rfl
              omega
          have := z ls fun l hl => (h70 l hl).2
          omega
end
end Sv


set_option Elab.async false
set_option linter.all false
set_option maxRecDepth 100000
set_option maxHeartbeats 4000000
namespace Sv
open PySem PySem.Spec PyProof.Rows L2 Sw
def isTextP (ws : List Str) : Prop :=
  (wAt ws 0 = "ref" ∧ isNm (wAt ws 1) = true ∧ isNm (wAt ws 2) = true ∧ ((ws.length = 4 ∧ wAt ws 3 ∈ (["restrict", "cascade"] : List Str)) ∨ (ws.length = 5 ∧ wAt ws 3 = "optional" ∧ wAt ws 4 ∈ (["restrict", "cascade", "clear"] : List Str)))) ∨
  (wAt ws 0 ≠ "ref" ∧ wAt ws 0 ∈ (["int", "text"] : List Str) ∧ isNm (wAt ws 1) = true ∧ (ws.length = 2 ∨ (ws.length = 3 ∧ wAt ws 2 = "optional")))
theorem low_nospace {s : Str} (h : lowS s = true) : 32 ∉ TL.tl s := fun z => by
  unfold lowS at h
  have := List.all_eq_true.mp h 32 z
  rw [decide_eq_true_eq] at this
  revert this
  decide +kernel
theorem isNm_low {s : Str} (h : isNm s = true) : lowS s = true := by
  unfold isNm at h
  exact (Bool.and_eq_true_iff.mp h).2
theorem words_nospace {c : Col} (h : c.ok) : ∀ w ∈ c.words, 32 ∉ TL.tl w := by
  have hk : 32 ∉ TL.tl (kstr c.k) := by
    cases c.k <;> decide +kernel
  have hn := low_nospace (isNm_low h.1)
  have ho : ∀ w ∈ optW c.opt, 32 ∉ TL.tl w := by
    unfold optW
    split
    · decide +kernel
    · intro w hw
      cases hw
  intro w hw
  unfold Col.words at hw
  split at hw
  · rename_i e
    obtain ⟨h2, h3⟩ := h.2 e
    simp only [List.mem_append, List.mem_cons, List.not_mem_nil, or_false] at hw
    rcases hw with ((rfl | rfl | rfl) | hw) | rfl
    · exact hk
    · exact hn
    · exact low_nospace (isNm_low h2)
    · exact ho w hw
    · rcases ruleOk_mem h3 with q | q | q <;> rw [q] <;> decide +kernel
  · unfold Col.words0 at hw
    simp only [List.mem_append, List.mem_cons, List.not_mem_nil, or_false] at hw
    rcases hw with (rfl | rfl) | hw
    · exact hk
    · exact hn
    · exact ho w hw
theorem words_ne (c : Col) : c.words ≠ [] := by
  unfold Col.words Col.words0
  split <;> exact fun z => nomatch z
theorem split_text {c : Col} (h : c.ok) : Txt.split c.text " " = c.words :=
  TL.split_join (s := 32) (S := []) rfl (by decide +kernel) (words_ne c) (words_nospace h)
theorem text_words {c : Col} {s : Str} (h : c.ok) : c.text = s ↔ c.words = Txt.split s " " := by
  constructor
  · rintro rfl
    exact (split_text h).symm
  · intro e
    unfold Col.text
    rw [e, TL.join_eq]
    exact StrLaws.join_split s " "
theorem kd_cases {w : Str} (h : w ∈ (["int", "text"] : List Str)) : w = "int" ∨ w = "text" := by
  simpa using h
theorem text_of {ws : List Str} (h : isTextP ws) : ∃ c, mkCol ws = some c ∧ c.ok ∧ c.words = ws := by
  rcases h with ⟨h0, h1, h2, ⟨hl, h3⟩ | ⟨hl, h3, h4⟩⟩ | ⟨hn, h0, h1, hl | ⟨hl, h2⟩⟩
  · match ws, hl with
    | [a, b, c, d], _ =>
      have h0 : a = "ref" := h0
      subst h0
      refine ⟨⟨.ref, b, false, c, d⟩, by unfold mkCol; rw [if_pos ⟨rfl, .inl rfl⟩]; rfl, ⟨h1, fun _ => ⟨h2, ?_⟩⟩, rfl⟩
      have h3 : d ∈ (["restrict", "cascade"] : List Str) := h3
      show ruleOk d false = true
      simp only [List.mem_cons, List.not_mem_nil, or_false] at h3
      rcases h3 with rfl | rfl <;> decide +kernel
  · match ws, hl with
    | [a, b, c, d, e], _ =>
      have h0 : a = "ref" := h0
      have h3 : d = "optional" := h3
      subst h0 h3
      refine ⟨⟨.ref, b, true, c, e⟩, by unfold mkCol; rw [if_pos ⟨rfl, .inr rfl⟩]; rfl, ⟨h1, fun _ => ⟨h2, ?_⟩⟩, rfl⟩
      have h4 : e ∈ (["restrict", "cascade", "clear"] : List Str) := h4
      show ruleOk e true = true
      simp only [List.mem_cons, List.not_mem_nil, or_false] at h4
      rcases h4 with rfl | rfl | rfl <;> decide +kernel
  · match ws, hl with
    | [a, b], _ =>
      have h0 : a ∈ (["int", "text"] : List Str) := h0
      rcases kd_cases h0 with rfl | rfl
      · exact ⟨⟨.int, b, false, "", ""⟩, by unfold mkCol; rw [if_neg (fun z => absurd z.1 hn), if_pos ⟨rfl, .inl rfl⟩]; rfl, ⟨h1, fun z => nomatch z⟩, rfl⟩
      · exact ⟨⟨.text, b, false, "", ""⟩, by unfold mkCol; rw [if_neg (fun z => absurd z.1 hn), if_neg (fun z => absurd z.1 (by show ("text" : Str) ≠ "int"; decide)), if_pos ⟨rfl, .inl rfl⟩]; rfl, ⟨h1, fun z => nomatch z⟩, rfl⟩
  · match ws, hl with
    | [a, b, c], _ =>
      have h0 : a ∈ (["int", "text"] : List Str) := h0
      have h2 : c = "optional" := h2
      subst h2
      rcases kd_cases h0 with rfl | rfl
      · exact ⟨⟨.int, b, true, "", ""⟩, by unfold mkCol; rw [if_neg (fun z => absurd z.1 hn), if_pos ⟨rfl, .inr rfl⟩]; rfl, ⟨h1, fun z => nomatch z⟩, rfl⟩
      · exact ⟨⟨.text, b, true, "", ""⟩, by unfold mkCol; rw [if_neg (fun z => absurd z.1 hn), if_neg (fun z => absurd z.1 (by show ("text" : Str) ≠ "int"; decide)), if_pos ⟨rfl, .inr rfl⟩]; rfl, ⟨h1, fun z => nomatch z⟩, rfl⟩
/-- the words of a column read as a text of the law -/
theorem text_col {c : Col} (h : c.ok) : isTextP c.words := by
  obtain ⟨k, n, o, t, r⟩ := c
  have hn : isNm n = true := h.1
  cases k with
  | ref =>
    obtain ⟨h2, h3⟩ := h.2 rfl
    have h2 : isNm t = true := h2
    have h3 : ruleOk r o = true := h3
    have hm := ruleOk_mem h3
    cases o with
    | false =>
      refine .inl ⟨rfl, hn, h2, .inl ⟨rfl, ?_⟩⟩
      show r ∈ (["restrict", "cascade"] : List Str)
      rcases hm with rfl | rfl | rfl
      · decide +kernel
      · exact absurd h3 (by decide +kernel)
      · decide +kernel
    | true =>
      refine .inl ⟨rfl, hn, h2, .inr ⟨rfl, rfl, ?_⟩⟩
      show r ∈ (["restrict", "cascade", "clear"] : List Str)
      rcases hm with rfl | rfl | rfl <;> decide +kernel
  | int =>
    cases o with
    | false => exact .inr ⟨by show ("int" : Str) ≠ "ref"; decide, by show ("int" : Str) ∈ _; decide +kernel, hn, .inl rfl⟩
    | true => exact .inr ⟨by show ("int" : Str) ≠ "ref"; decide, by show ("int" : Str) ∈ _; decide +kernel, hn, .inr ⟨rfl, rfl⟩⟩
  | text =>
    cases o with
    | false => exact .inr ⟨by show ("text" : Str) ≠ "ref"; decide, by show ("text" : Str) ∈ _; decide +kernel, hn, .inl rfl⟩
    | true => exact .inr ⟨by show ("text" : Str) ≠ "ref"; decide, by show ("text" : Str) ∈ _; decide +kernel, hn, .inr ⟨rfl, rfl⟩⟩
/-- the column of words -/
def pW (ws : List Str) : Option Col := match mkCol ws with
  | some c => if c.okB = true ∧ c.words = ws then some c else none
  | none => none
theorem pW_some {ws : List Str} {c : Col} (h : isTextP ws) (hc : mkCol ws = some c) : pW ws = some c := by
  obtain ⟨c', h1, h2, h3⟩ := text_of h
  rw [hc] at h1
  cases h1
  unfold pW
  rw [hc]
  exact if_pos ⟨Col.okB_iff.mpr h2, h3⟩
theorem pW_none {ws : List Str} (h : ¬ isTextP ws) : pW ws = none := by
  unfold pW
  cases hc : mkCol ws with
  | none => rfl
  | some c =>
    refine if_neg fun z => h ?_
    have := text_col (Col.okB_iff.mp z.1)
    rw [z.2] at this
    exact this
theorem pW_ok {ws : List Str} {c : Col} (h : pW ws = some c) : c.ok := by
  unfold pW at h
  split at h
  · split at h
    · rename_i z
      cases h
      exact Col.okB_iff.mp z.1
    · cases h
  · cases h
theorem parseT_pW (s : Str) : parseT s = pW (Txt.split s " ") := by
  unfold parseT pW parseW
  cases hc : mkCol (Txt.split s " ") with
  | none => rfl
  | some c =>
    show (match (if c.okB = true then some c else none) with | some c => if c.text = s then some c else none | none => none) = if c.okB = true ∧ c.words = Txt.split s " " then some c else none
    by_cases ok : c.okB = true
    · rw [if_pos ok]
      have e := text_words (s := s) (Col.okB_iff.mp ok)
      by_cases ht : c.text = s
      · rw [if_pos ⟨ok, e.mp ht⟩]
        exact if_pos ht
      · rw [if_neg (fun z => ht (e.mpr z.2))]
        exact if_neg ht
    · rw [if_neg ok, if_neg (fun z => ok z.1)]
end Sv

set_option Elab.async false
set_option linter.all false
set_option maxRecDepth 100000
set_option maxHeartbeats 4000000
namespace Sv
open PySem PySem.Spec PyProof.Rows L2 Sw
local macro_rules | `(tactic| walk_at "go1") => `(tactic| first
  | ((with_reducible refine' g_var ?hv ?_); (case hv => rfl))
  | with_reducible refine g_c ?_
  | with_reducible refine g_op ?_
  | with_reducible refine g_un ?_
  | with_reducible refine g_seq ?_
  | with_reducible refine g_next ?_
  | with_reducible refine g_asg ?_
  | with_reducible refine g_name ?_
  | with_reducible refine g_drop ?_
  | with_reducible refine g_sub ?_
  | with_reducible refine g_ret ?_
  | with_reducible refine g_retN ?_
  | with_reducible refine g_ifS ?_
  | with_reducible refine g_if ?_
  | with_reducible refine g_test ?_
  | with_reducible refine g_bl ?_
  | with_reducible refine g_cons ?_
  | with_reducible refine g_nil ?_
  | with_reducible refine g_and ?_
  | with_reducible refine g_or ?_
  | with_reducible refine g_not ?_
  | with_reducible refine g_callB ?_
  | with_reducible refine g_addI ?_
  | with_reducible refine g_I0 ?_
  | with_reducible refine g_calG ?_
  | with_reducible refine g_mkG ?_
  | with_reducible refine g_tup ?_
  | with_reducible refine g_pairs1 ?_
  | with_reducible refine g_pairs0 ?_
  | with_reducible refine g_dget ?_
  | with_reducible refine g_lvals ?_
  | with_reducible refine g_forT ?_
  | with_reducible refine g_lcT ?_
  | with_reducible refine g_dput ?_
  | with_reducible refine g_lc2L ?_
  | with_reducible refine g_iList ?_
  | with_reducible refine g_lcX ?_
  | with_reducible refine g_js1 ?_
  | with_reducible refine g_js0 ?_
  | with_reducible refine g_fmt ?_
  | with_reducible refine g_tLenSet ?_
  | with_reducible refine g_mkV ?_
  | with_reducible refine g_mkV1 ?_
  | with_reducible refine g_lst ?_
  | with_reducible refine g_forL ?_
  | with_reducible refine g_forR ?_
  | with_reducible refine g_forR2 ?_
  | with_reducible refine g_forS ?_
  | with_reducible refine g_forE ?_
  | with_reducible refine g_lcL ?_
  | with_reducible refine g_lcR ?_
  | with_reducible refine g_lcS ?_
  | with_reducible refine g_lcE ?_
  | with_reducible refine g_orT ?_
  | with_reducible refine g_slc ?_
  | with_reducible refine g_noPart ?_
  | with_reducible refine g_part ?_
  | with_reducible refine g_bm ?_
  | with_reducible refine g_par ?_
  | with_reducible refine g_yes ?_
  | with_reducible refine g_tupG ?_
  | with_reducible refine g_lstG ?_
  | with_reducible refine g_gcons ?_
  | with_reducible refine g_gnil ?_
  | with_reducible refine g_chain ?_
  | with_reducible refine g_truB ?_
  | with_reducible refine g_truN ?_
  | with_reducible refine g_truI ?_
  | with_reducible refine g_m1 ?_
  | with_reducible refine g_fld ?_
  | with_reducible refine g_con ?_
  | with_reducible refine g_tru ?_
  | with_reducible refine g_U ?_
  | with_reducible refine g_xg ?_
  | with_reducible refine g_andT ?_
  | with_reducible refine g_exI ?_
  | with_reducible refine g_dnew ?_
  | with_reducible refine g_intB ?_
  | with_reducible refine g_meth ?_
  | with_reducible refine g_prop ?_
  | with_reducible refine g_exc1 ?_
  | with_reducible refine g_setF ?_
  | with_reducible refine g_star ?_
  | with_reducible refine g_strM ?_
  | with_reducible refine iteT ?_
  | with_reducible refine iteF ?_
  | with_reducible refine iteNT ?_
  | with_reducible refine iteNF ?_)
local macro_rules | `(tactic| walk_at "go") => `(tactic| repeat (walk_at "go1"))
local macro_rules | `(tactic| walk_at "sz") => `(tactic| (first | (rw [sizeLine_eq]; simp only [List.length_cons, List.length_nil, List.length_map, List.length_append, List.length_take]; omega) | (rw [sizeLine_eq]; omega)))
section
variable {P : Program} {wo : World} {A : Ad} {K : PySem.W.Frag} {mg : Str → Option Value} {base : Heap}
/-! ### _law_column_of -/
def spColOf (K : PySem.W.Frag) : Sp := fun vs H Q _ => ∃ G R p, ∃ ws : List Str, vs = [.ref p] ∧ Wd G R H ∧ G p = some (.lst (ws.map V.str)) ∧ (∀ x ∈ ws, x.length ≤ 1000000) ∧ 0 < ws.length ∧
  (∀ c, pW ws = some c → ∀ t G' H', Same G G' → G t = none → G' t = some (.tup (colTup c)) → Wd G' R H' → Q (.ref t) H') ∧ (pW ws = none → ∀ H', Wd G R H' → Q .non H')
theorem mk_ref {ws : List Str} (h0 : wAt ws 0 = "ref") (hl : ws.length = 4 ∨ ws.length = 5) : mkCol ws = some ⟨.ref, wAt ws 1, decide (ws.length = 5), wAt ws 2, wAt ws (ws.length - 1)⟩ := by
  unfold mkCol
  rw [if_pos ⟨h0, hl⟩]
theorem mk_int {ws : List Str} (h0 : wAt ws 0 = "int") (hl : ws.length = 2 ∨ ws.length = 3) : mkCol ws = some ⟨.int, wAt ws 1, decide (ws.length = 3), "", ""⟩ := by
  unfold mkCol
  rw [if_neg (fun z => by rw [h0] at z; exact absurd z.1 (by decide)), if_pos ⟨h0, hl⟩]
theorem mk_text {ws : List Str} (h0 : wAt ws 0 = "text") (hl : ws.length = 2 ∨ ws.length = 3) : mkCol ws = some ⟨.text, wAt ws 1, decide (ws.length = 3), "", ""⟩ := by
  unfold mkCol
  rw [if_neg (fun z => by rw [h0] at z; exact absurd z.1 (by decide)), if_neg (fun z => by rw [h0] at z; exact absurd z.1 (by decide)), if_pos ⟨h0, hl⟩]
theorem sc__law_column_of : FnScope (["_law_words", "_law_count", "_law_good"] : List Str) (["_law_words"] : List Str) (defScope s__law_column_of) := ⟨rfl, rfl, rfl, by decide +kernel, rfl, by decide +kernel, by decide +kernel⟩
theorem ok_column_of {f : Addr} {fd : FuncData} (F : Fun K "_law_column_of" "_law_column_of" s__law_column_of f fd) (T : Txt K mg A) (Gln : GFn P wo K mg base 1 "_law_is_name" 1 [] (fun vs _ => spLName vs)) : FnOk P wo K mg base (L2.CX P wo) 2 f fd (["_law_words"] : List Str) (spColOf K) := by
  refine okT F sc__law_column_of (fun vs H Q E h => ?_) (fun cdv Ar outer s H vs Q E hr tk po h => ?_)
  · obtain ⟨_, _, _, _, rfl, _⟩ := h
    rfl
  obtain ⟨G, R, p, ws, rfl, w, hp, hlen, n0, k1, k2⟩ := h
  refine ⟨_, (pss_cons (ps_set (i := 1) sc__law_column_of.nd rfl (by first | exact Or.inl rfl | exact Or.inr rfl) (pe_callB (ka_len K) (by rfl) T.nb_len (by decide +kernel) (pa_cons (pv 0) pa_nil)))
      (pss_cons (ps_if (PW.pt (pw_or (pt_cmpR op_lt (pv 1) pe_int (nomark _)) (pw_or1 (pt_not (kt_truth K (pe_callG Gln (hr.mono (by decide)) tk (pa_cons (pe_ix (ka_ix K) (pv 0) pe_int (fun _ _ => rfl)) pa_nil) pk_nil) (by intro _; rfl)))))) (pss_one (ps_ret pe_non)) pss_nil)
      (pss_cons (ps_if (pt_cmpR (ka_in K) (pe_ix (ka_ix K) (pv 0) pe_int (fun _ _ => rfl)) (pe_tup (pa_cons pe_str (pa_cons pe_str pa_nil))) (by first | exact nomark _ | rfl)) (pss_cons (ps_set (i := 2) sc__law_column_of.nd rfl (by first | exact Or.inl rfl | exact Or.inr rfl) (ke_orT K (pe_cmpR (ka_eq K hr.units) (pv 1) pe_int (nomark _)) (pe_one (ke_andT K (pe_cmpR (ka_eq K hr.units) (pv 1) pe_int (nomark _)) (pe_one (pe_cmpR (ka_eq K hr.units) (pe_ix (ka_ix K) (pv 0) pe_int (fun _ _ => rfl)) pe_str (nomark _)))))))
      (pss_one (ps_ret (pe_ifExp (kt_truth K (pv 2) (by intro _; rfl)) (pe_tup (pa_cons (pe_ix (ka_ix K) (pv 0) pe_int (fun _ _ => rfl)) (pa_cons (pe_ix (ka_ix K) (pv 0) pe_int (fun _ _ => rfl)) (pa_cons pe_non (pa_cons (pe_cmpR (ka_eq K hr.units) (pv 1) pe_int (nomark _)) (pa_cons pe_non pa_nil)))))) pe_non)))) pss_nil)
      (pss_cons (ps_if (PW.pt (pw_or (pt_cmpR (ka_ne K hr.units) (pe_ix (ka_ix K) (pv 0) pe_int (fun _ _ => rfl)) pe_str (nomark _)) (pw_or (pt_cmpR (ka_ni K) (pv 1) (pe_tup (pa_cons pe_int (pa_cons pe_int pa_nil))) (by first | exact nomark _ | rfl)) (pw_or1 (pt_not (kt_truth K (pe_callG Gln (hr.mono (by decide)) tk (pa_cons (pe_ix (ka_ix K) (pv 0) pe_int (fun _ _ => rfl)) pa_nil) pk_nil) (by intro _; rfl))))))) (pss_one (ps_ret pe_non)) pss_nil)
      (pss_cons (ps_if (PW.pt (pw_or (PW.pt (pw_and (pt_cmpR (ka_eq K hr.units) (pv 1) pe_int (nomark _)) (pw_and1 (pt_cmpR (ka_ne K hr.units) (pe_ix (ka_ix K) (pv 0) pe_int (fun _ _ => rfl)) pe_str (nomark _))))) (pw_or1 (pt_cmpR (ka_ni K) (pe_ix (ka_ix K) (pv 0) (pe_un un_neg pe_int) (fun _ _ => rfl)) (pe_tup (pa_cons pe_str (pa_cons pe_str (pa_cons pe_str pa_nil)))) (by first | exact nomark _ | rfl))))) (pss_one (ps_ret pe_non)) pss_nil)
      (pss_one (ps_ret (pe_ifExp (PW.pt (pw_and (pt_cmpR (ka_eq K hr.units) (pv 1) pe_int (nomark _)) (pw_and1 (pt_cmpR (ka_eq K hr.units) (pe_ix (ka_ix K) (pv 0) pe_int (fun _ _ => rfl)) pe_str (nomark _))))) pe_non (pe_tup (pa_cons pe_str (pa_cons (pe_ix (ka_ix K) (pv 0) pe_int (fun _ _ => rfl)) (pa_cons (pe_ix (ka_ix K) (pv 0) pe_int (fun _ _ => rfl)) (pa_cons (pe_cmpR (ka_eq K hr.units) (pv 1) pe_int (nomark _)) (pa_cons (pe_ix (ka_ix K) (pv 0) (pe_un un_neg pe_int) (fun _ _ => rfl)) pa_nil)))))))))))))), ?_⟩
  have no : ∀ H', Wd G R H' → ¬ isTextP ws → Q .non H' := fun H' w' hn => k2 (pW_none hn) H' w'
  have m1 : ∀ i : Nat, i < ws.length → (wAt ws i).length ≤ 1000000 := fun i hi => hlen _ (wAt_mem hi)
  walk_at "go"
  refine g_lenL w (SqL.of hp) ?_
  rw [List.length_map]
  walk_at "go"
  refine iteD (fun h1 => ?_) (fun h1 => ?_)
  · walk_at "go"
    refine no _ w fun z => ?_
    rcases z with ⟨_, _, _, ⟨z, _⟩ | ⟨z, _⟩⟩ | ⟨_, _, _, z | ⟨z, _⟩⟩ <;> omega
  have hl2 : 2 ≤ ws.length := by omega
  walk_at "go"
  refine g_ixW (i := 1) w hp (by omega) ?_
  walk_at "go"
  refine ⟨rfl, rfl, _, R, _, rfl, w, m1 1 (by omega), fun H1 w => ?_⟩
  walk_at "go"
  refine iteBN (fun h2 => ?_) (fun h2 => ?_)
  · walk_at "go"
    refine no _ w fun z => ?_
    rcases z with ⟨_, z, _⟩ | ⟨_, _, z, _⟩ <;> (rw [h2] at z; cases z)
  walk_at "go"
  refine g_ixW (i := 0) w hp (by omega) ?_
  walk_at "go"
  refine g_newL w (by walk_at "sz") fun p2 H2 n2 w2 => ?_
  refine g_inT w2 (SqT.of upd_same) rfl rfl ?_
  replace w := w2.drop (Same.newG n2)
  rw [show inV (.str (wAt ws 0)) [V.str "int", V.str "text"] = decide (wAt ws 0 ∈ (["int", "text"] : List Str)) from inV_str _ ["int", "text"]]
  walk_at "go"
  refine iteD (fun h3 => ?_) (fun h3 => ?_)
  · have hnr : wAt ws 0 ≠ "ref" := fun z => by rw [z] at h3; exact absurd h3 (by decide +kernel)
    have yes : ∀ t G' H', isTextP ws → (ws.length = 2 ∨ ws.length = 3) → Same G G' → G t = none → G' t = some (.tup [.str (wAt ws 0), .str (wAt ws 1), .non, .bl (decide (V.int (ws.length : Int) = V.int 3)), .non]) → Wd G' R H' → Q (.ref t) H' := fun t G' H' hT hl s n q w' => by
      have ed : decide (V.int (ws.length : Int) = V.int 3) = decide (ws.length = 3) := decide_eq_decide.mpr ⟨fun z => by have := V.int.inj z; omega, fun z => by rw [z]; rfl⟩
      rw [ed] at q
      rcases kd_cases h3 with e | e
      · refine k1 _ (pW_some hT (mk_int e hl)) t G' H' s n ?_ w'
        rw [q, e]
        rfl
      · refine k1 _ (pW_some hT (mk_text e hl)) t G' H' s n ?_ w'
        rw [q, e]
        rfl
    walk_at "go"
    refine g_eqS rfl ?_
    walk_at "go"
    refine iteD (fun h4 => ?_) (fun h4 => ?_)
    · have h4' : ws.length = 2 := by have := V.int.inj h4; omega
      rw [decide_eq_true h4]
      walk_at "go"
      refine g_ixW (i := 0) w hp (by omega) ?_
      walk_at "go"
      refine g_ixW (i := 1) w hp (by omega) ?_
      walk_at "go"
      refine g_eqS rfl ?_
      walk_at "go"
      refine g_newA w (by walk_at "sz") fun t G' H' n s q w => ?_
      exact yes t G' H' (.inr ⟨hnr, h3, h2, .inl h4'⟩) (.inl h4') s n q w
    · have h4' : ws.length ≠ 2 := fun z => h4 (by rw [z]; rfl)
      walk_at "go"
      refine g_eqS rfl ?_
      walk_at "go"
      refine iteD (fun h5 => ?_) (fun h5 => ?_)
      · have h5' : ws.length = 3 := by have := V.int.inj h5; omega
        walk_at "go"
        refine g_ixW (i := 2) w hp (by omega) ?_
        walk_at "go"
        refine g_eqS rfl ?_
        walk_at "go"
        refine iteD (fun h6 => ?_) (fun h6 => ?_)
        · walk_at "go"
          refine g_ixW (i := 0) w hp (by omega) ?_
          walk_at "go"
          refine g_ixW (i := 1) w hp (by omega) ?_
          walk_at "go"
          refine g_eqS rfl ?_
          walk_at "go"
          refine g_newA w (by walk_at "sz") fun t G' H' n s q w => ?_
          exact yes t G' H' (.inr ⟨hnr, h3, h2, .inr ⟨h5', V.str.inj h6⟩⟩) (.inr h5') s n q w
        · walk_at "go"
          refine no _ w ?_
          rintro (⟨z, _⟩ | ⟨_, _, _, z | ⟨_, z⟩⟩)
          · exact hnr z
          · exact h4' z
          · exact h6 (congrArg V.str z)
      · rw [decide_eq_false h5]
        walk_at "go"
        refine no _ w ?_
        rintro (⟨z, _⟩ | ⟨_, _, _, z | ⟨z, _⟩⟩)
        · exact hnr z
        · exact h4' z
        · exact h5 (by rw [z]; rfl)
  · have ntx : ¬ isTextP ws → Q .non H2 := no _ w
    walk_at "go"
    refine g_ixW (i := 0) w hp (by omega) ?_
    walk_at "go"
    refine g_neS rfl ?_
    walk_at "go"
    refine iteN (fun h4 => ?_) (fun h4 => ?_)
    · walk_at "go"
      refine no _ w ?_
      rintro (⟨z, _⟩ | ⟨_, z, _⟩)
      · exact h4 (congrArg V.str z)
      · exact h3 z
    have h4' : wAt ws 0 = "ref" := V.str.inj h4
    have nt2 : ¬ (wAt ws 0 ≠ "ref" ∧ wAt ws 0 ∈ (["int", "text"] : List Str) ∧ isNm (wAt ws 1) = true ∧ (ws.length = 2 ∨ (ws.length = 3 ∧ wAt ws 2 = "optional"))) := fun z => z.1 h4'
    walk_at "go"
    refine g_newL w (by walk_at "sz") fun p3 H3 n3 w3 => ?_
    refine g_niT w3 (SqT.of upd_same) rfl rfl ?_
    replace w := w3.drop (Same.newG n3)
    rw [inV_two]
    walk_at "go"
    refine iteN (fun h5 => ?_) (fun h5 => ?_)
    · walk_at "go"
      refine no _ w ?_
      rintro (⟨_, _, _, ⟨z, _⟩ | ⟨z, _⟩⟩ | z)
      · exact h5 (.inl (by rw [z]; rfl))
      · exact h5 (.inr (by rw [z]; rfl))
      · exact nt2 z
    have hl45 : ws.length = 4 ∨ ws.length = 5 := by omega
    walk_at "go"
    refine g_ixW (i := 2) w hp (by omega) ?_
    walk_at "go"
    refine ⟨rfl, rfl, _, R, _, rfl, w, m1 2 (by omega), fun H4 w => ?_⟩
    walk_at "go"
    refine iteBN (fun h6 => ?_) (fun h6 => ?_)
    · walk_at "go"
      refine no _ w ?_
      rintro (⟨_, _, z, _⟩ | z)
      · rw [h6] at z; cases z
      · exact nt2 z
    have ix1 : atI (ws.map V.str) (-1) = some (.str (wAt ws (ws.length - 1))) := atI_neg1 (by rw [List.length_map]; exact wAt_get (by omega))
    have ed5 : decide (V.int (ws.length : Int) = V.int 5) = decide (ws.length = 5) := decide_eq_decide.mpr ⟨fun z => by have := V.int.inj z; omega, fun z => by rw [z]; rfl⟩
    -- the tests behind
    have rest : (ws.length = 5 → wAt ws 3 = "optional") → wAt ws (ws.length - 1) ∈ (["restrict", "cascade", "clear"] : List Str) → ¬ (ws.length = 4 ∧ wAt ws 3 = "clear") → isTextP ws := fun z1 z2 z3 => by
      refine .inl ⟨h4', h2, h6, ?_⟩
      rcases hl45 with e | e
      · refine .inl ⟨e, ?_⟩
        rw [e] at z2
        have z2 : wAt ws 3 ∈ (["restrict", "cascade", "clear"] : List Str) := z2
        simp only [List.mem_cons, List.not_mem_nil, or_false] at z2 ⊢
        rcases z2 with z | z | z
        · exact .inl z
        · exact .inr z
        · exact absurd ⟨e, z⟩ z3
      · refine .inr ⟨e, z1 e, ?_⟩
        rw [e] at z2
        exact z2
    have back : isTextP ws → (ws.length = 5 → wAt ws 3 = "optional") ∧ wAt ws (ws.length - 1) ∈ (["restrict", "cascade", "clear"] : List Str) ∧ ¬ (ws.length = 4 ∧ wAt ws 3 = "clear") := by
      rintro (⟨_, _, _, ⟨z, y⟩ | ⟨z, y, x⟩⟩ | z)
      · rw [z]
        simp only [List.mem_cons, List.not_mem_nil, or_false] at y
        refine ⟨fun q => by omega, ?_, fun q => ?_⟩
        · show wAt ws 3 ∈ (["restrict", "cascade", "clear"] : List Str)
          rcases y with y | y <;> (rw [y]; decide +kernel)
        · rcases y with y | y <;> (rw [y] at q; exact absurd q.2 (by decide))
      · rw [z]
        exact ⟨fun _ => y, x, fun q => by omega⟩
      · exact absurd z nt2
    have inl3 : ∀ {x : Str}, inV (.str x) [V.str "restrict", V.str "cascade", V.str "clear"] = decide (x ∈ (["restrict", "cascade", "clear"] : List Str)) := fun {x} => inV_str x ["restrict", "cascade", "clear"]
    rcases hl45 with e | e
    · have d5 : decide (V.int (ws.length : Int) = V.int 5) = false := decide_eq_false fun z => by have := V.int.inj z; omega
      have d4 : decide (V.int (ws.length : Int) = V.int 4) = true := decide_eq_true (by rw [e]; rfl)
      walk_at "go"
      refine g_eqS rfl ?_
      rw [d5]
      walk_at "go"
      refine g_ixL w (SqL.of hp) ix1 ?_
      walk_at "go"
      refine g_newL w (by walk_at "sz") fun p7 H7 n7 w7 => ?_
      refine g_niT w7 (SqT.of upd_same) rfl rfl ?_
      replace w := w7.drop (Same.newG n7)
      rw [inl3]
      walk_at "go"
      refine iteN (fun h8 => ?_) (fun h8 => ?_)
      · walk_at "go"
        exact no _ w fun z => h8 (back z).2.1
      walk_at "go"
      refine g_eqS rfl ?_
      rw [d4]
      walk_at "go"
      refine g_ixW (i := 3) w hp (by omega) ?_
      walk_at "go"
      refine g_eqS rfl ?_
      walk_at "go"
      refine iteD (fun h9 => ?_) (fun h9 => ?_)
      · walk_at "go"
        exact no _ w fun z => (back z).2.2 ⟨e, V.str.inj h9⟩
      walk_at "go"
      refine g_ixW (i := 1) w hp (by omega) ?_
      walk_at "go"
      refine g_ixW (i := 2) w hp (by omega) ?_
      walk_at "go"
      refine g_eqS rfl ?_
      rw [ed5]
      walk_at "go"
      refine g_ixL w (SqL.of hp) ix1 ?_
      walk_at "go"
      refine g_newA w (by walk_at "sz") fun t G' H' n s q w => ?_
      exact k1 _ (pW_some (rest (fun z => by omega) h8 fun z => h9 (congrArg V.str z.2)) (mk_ref h4' (.inl e))) t G' H' s n q w
    · have d5 : decide (V.int (ws.length : Int) = V.int 5) = true := decide_eq_true (by rw [e]; rfl)
      have d4 : decide (V.int (ws.length : Int) = V.int 4) = false := decide_eq_false fun z => by have := V.int.inj z; omega
      walk_at "go"
      refine g_eqS rfl ?_
      rw [d5]
      walk_at "go"
      refine g_ixW (i := 3) w hp (by omega) ?_
      walk_at "go"
      refine g_neS rfl ?_
      walk_at "go"
      refine iteN (fun h7 => ?_) (fun h7 => ?_)
      · walk_at "go"
        exact no _ w fun z => h7 (congrArg V.str ((back z).1 e))
      walk_at "go"
      refine g_ixL w (SqL.of hp) ix1 ?_
      walk_at "go"
      refine g_newL w (by walk_at "sz") fun p7 H7 n7 w7 => ?_
      refine g_niT w7 (SqT.of upd_same) rfl rfl ?_
      replace w := w7.drop (Same.newG n7)
      rw [inl3]
      walk_at "go"
      refine iteN (fun h8 => ?_) (fun h8 => ?_)
      · walk_at "go"
        exact no _ w fun z => h8 (back z).2.1
      walk_at "go"
      refine g_eqS rfl ?_
      rw [d4]
      walk_at "go"
      refine g_ixW (i := 1) w hp (by omega) ?_
      walk_at "go"
      refine g_ixW (i := 2) w hp (by omega) ?_
      walk_at "go"
      refine g_eqS rfl ?_
      rw [ed5]
      walk_at "go"
      refine g_ixL w (SqL.of hp) ix1 ?_
      walk_at "go"
      refine g_newA w (by walk_at "sz") fun t G' H' n s q w => ?_
      exact k1 _ (pW_some (rest (fun _ => V.str.inj h7) h8 fun z => by omega) (mk_ref h4' (.inr e))) t G' H' s n q w
end
end Sv


set_option Elab.async false
set_option linter.all false
set_option maxRecDepth 100000
set_option maxHeartbeats 4000000
namespace Sv
open PySem PySem.Spec PyProof.Rows L2 Sw
local macro_rules | `(tactic| walk_at "go1") => `(tactic| first
  | ((with_reducible refine' g_var ?hv ?_); (case hv => rfl))
  | with_reducible refine g_c ?_
  | with_reducible refine g_op ?_
  | with_reducible refine g_un ?_
  | with_reducible refine g_seq ?_
  | with_reducible refine g_next ?_
  | with_reducible refine g_asg ?_
  | with_reducible refine g_name ?_
  | with_reducible refine g_drop ?_
  | with_reducible refine g_sub ?_
  | with_reducible refine g_ret ?_
  | with_reducible refine g_retN ?_
  | with_reducible refine g_ifS ?_
  | with_reducible refine g_if ?_
  | with_reducible refine g_test ?_
  | with_reducible refine g_bl ?_
  | with_reducible refine g_cons ?_
  | with_reducible refine g_nil ?_
  | with_reducible refine g_and ?_
  | with_reducible refine g_or ?_
  | with_reducible refine g_not ?_
  | with_reducible refine g_callB ?_
  | with_reducible refine g_addI ?_
  | with_reducible refine g_I0 ?_
  | with_reducible refine g_calG ?_
  | with_reducible refine g_mkG ?_
  | with_reducible refine g_tup ?_
  | with_reducible refine g_pairs1 ?_
  | with_reducible refine g_pairs0 ?_
  | with_reducible refine g_dget ?_
  | with_reducible refine g_lvals ?_
  | with_reducible refine g_forT ?_
  | with_reducible refine g_lcT ?_
  | with_reducible refine g_dput ?_
  | with_reducible refine g_lc2L ?_
  | with_reducible refine g_iList ?_
  | with_reducible refine g_lcX ?_
  | with_reducible refine g_js1 ?_
  | with_reducible refine g_js0 ?_
  | with_reducible refine g_fmt ?_
  | with_reducible refine g_tLenSet ?_
  | with_reducible refine g_mkV ?_
  | with_reducible refine g_mkV1 ?_
  | with_reducible refine g_lst ?_
  | with_reducible refine g_forL ?_
  | with_reducible refine g_forR ?_
  | with_reducible refine g_forR2 ?_
  | with_reducible refine g_forS ?_
  | with_reducible refine g_forE ?_
  | with_reducible refine g_lcL ?_
  | with_reducible refine g_lcR ?_
  | with_reducible refine g_lcS ?_
  | with_reducible refine g_lcE ?_
  | with_reducible refine g_orT ?_
  | with_reducible refine g_slc ?_
  | with_reducible refine g_noPart ?_
  | with_reducible refine g_part ?_
  | with_reducible refine g_bm ?_
  | with_reducible refine g_par ?_
  | with_reducible refine g_yes ?_
  | with_reducible refine g_tupG ?_
  | with_reducible refine g_lstG ?_
  | with_reducible refine g_gcons ?_
  | with_reducible refine g_gnil ?_
  | with_reducible refine g_chain ?_
  | with_reducible refine g_truB ?_
  | with_reducible refine g_truN ?_
  | with_reducible refine g_truI ?_
  | with_reducible refine g_m1 ?_
  | with_reducible refine g_fld ?_
  | with_reducible refine g_con ?_
  | with_reducible refine g_tru ?_
  | with_reducible refine g_U ?_
  | with_reducible refine g_xg ?_
  | with_reducible refine g_andT ?_
  | with_reducible refine g_exI ?_
  | with_reducible refine g_dnew ?_
  | with_reducible refine g_intB ?_
  | with_reducible refine g_meth ?_
  | with_reducible refine g_prop ?_
  | with_reducible refine g_exc1 ?_
  | with_reducible refine g_setF ?_
  | with_reducible refine g_star ?_
  | with_reducible refine g_strM ?_
  | with_reducible refine iteT ?_
  | with_reducible refine iteF ?_
  | with_reducible refine iteNT ?_
  | with_reducible refine iteNF ?_)
local macro_rules | `(tactic| walk_at "go") => `(tactic| repeat (walk_at "go1"))
local macro_rules | `(tactic| walk_at "sz") => `(tactic| (first | (rw [sizeLine_eq]; simp only [List.length_cons, List.length_nil, List.length_map, List.length_append, List.length_take]; omega) | (rw [sizeLine_eq]; omega)))
def spSchParse (K : PySem.W.Frag) (A : Ad) : Sp := fun vs H Q E => ∃ G R v, vs = [v] ∧ Wd G R H ∧
  ((∃ s : Str, v = .str s ∧ s.length ≤ 1000000 ∧ (Txt.split s "\n").length ≤ 1000 ∧ PQ K A G R Q E (parseS s)) ∨ (NotStr K G v ∧ XQ G R A.InvalidText "line" (.int 0) E))
theorem PState.same {K : PySem.W.Frag} {A : Ad} {G0 : Hp} {R : Res} {pl : Addr} {ps : List Part} {H H' : Hp} (h : PState K A G0 R pl ps H) (e : Same H H') : PState K A G0 R pl ps H' := by
  obtain ⟨G1, ts, h1, h2, w⟩ := h
  exact ⟨G1, ts, h1, h2, w.same e⟩
theorem PState.all {K : PySem.W.Frag} {A : Ad} {G0 : Hp} {R : Res} {pl : Addr} {ps : List Part} {H : Hp} (h : PState K A G0 R pl ps H) : ∃ G1 ts, Same G0 G1 ∧ G1 pl = some (.lst (ts.map V.ref)) ∧ FrozAt K A G1 ps ts ∧ Wd G1 R H := by
  obtain ⟨G1, ts, h1, h2, w⟩ := h
  obtain ⟨e, hf⟩ := h1.froz
  exact ⟨_, ts, Same.trans e (Same.newG h2), upd_same, hf.same (Same.newG h2), w⟩
theorem splitN_pos (s : Str) : 0 < (Txt.split s "\n").length := split_pos s "\n"
theorem runL_step {ps ps' : List Part} {i : Nat} {l : Str} {r : List Str} (h : tookLine ps l = some ps') : runL ps i (l :: r) = runL ps' (i + 1) r := by
  show (match tookLine ps l with
    | some ps' => runL ps' (i + 1) r
    | none => .inl i) = _
  rw [h]
theorem runL_stop {ps : List Part} {i : Nat} {l : Str} {r : List Str} (h : tookLine ps l = none) : runL ps i (l :: r) = .inl i := by
  show (match tookLine ps l with
    | some ps' => runL ps' (i + 1) r
    | none => .inl i) = _
  rw [h]
theorem last_drop {ws : List Str} (h : 0 < ws.length) : ws.drop (ws.length - 1) = [wAt ws (ws.length - 1)] := by
  rw [List.drop_eq_getElem_cons (by omega)]
  have e : ws.length - 1 + 1 = ws.length := by omega
  rw [e, List.drop_length]
  unfold wAt
  rw [List.getD_eq_getElem?_getD, List.getElem?_eq_getElem (by omega)]
  rfl
theorem last_app {ws : List Str} (h : 0 < ws.length) : ws.dropLast ++ [wAt ws (ws.length - 1)] = ws := by
  rw [List.dropLast_eq_take, ← last_drop h, List.take_append_drop]
section
variable {P : Program} {wo : World} {A : Ad} {K : PySem.W.Frag} {mg : Str → Option Value} {base : Heap}
theorem sc_Schema_parse : FnScope (["text", "lines", "last", "parts", "index", "line", "tables", "columns", "groups", "name"] : List Str) (["text"] : List Str) (defScope s_Schema_parse) := ⟨rfl, rfl, rfl, by decide +kernel, rfl, by decide +kernel, by decide +kernel⟩
theorem ok_schparse {f : Addr} {fd : FuncData} (F : Fun K "parse" "Schema.parse" s_Schema_parse f fd) (T : Txt K mg A) (XT : Exc1 P wo K mg base "InvalidText" A.InvalidText "line") (Gtl : GFn P wo K mg base 9 "took_line" 2 [] (fun vs _ => spTookLine K A vs))
    (MTb : GMkV P wo K mg base 4 "Table" A.Table 1 ["unique"] (spTabV K A)) (MSc : GMkV P wo K mg base 3 "Schema" A.Schema 0 [] (spSchV K A)) : FnOk P wo K mg base (L2.CX P wo) 10 f fd (["text"] : List Str) (spSchParse K A) := by
  refine okT F sc_Schema_parse (fun vs H Q E h => ?_) (fun cdv Ar outer s H vs Q E hr tk po h => ?_)
  · obtain ⟨_, _, _, rfl, _⟩ := h
    rfl
  obtain ⟨G, R, v, rfl, w, h⟩ := h
  refine ⟨_, (pss_cons (ps_if (pt_not (kt_truth K (pe_callB (ka_isi K) (by rfl) T.nb_isinstance (by decide +kernel) (pa_cons (pv 0) (pa_cons (pe_bltn (v := .ty "str") (u := .type "str") (by rfl) T.nb_str (by decide +kernel) rfl) pa_nil))) (by intro _; rfl))) (pss_one (ps_raise rfl tk (pmk_exc1 XT (hr.mono (by decide)) (pa_cons pe_int pa_nil)))) pss_nil)
      (pss_cons (ps_asg (ke_split (pv 0) pe_str) (kg_starL (n := 2) (i := 0) K rfl (pgs_star (pg_name (i := 1) sc_Schema_parse.nd rfl (by first | exact Or.inl rfl | exact Or.inr rfl)) (pgs_cons (pg_name (i := 2) sc_Schema_parse.nd rfl (by first | exact Or.inl rfl | exact Or.inr rfl)) pgs_nil)) (by decide)))
      (pss_cons (ps_if (pt_cmpR (ka_ne K hr.units) (pv 2) pe_str (nomark _)) (pss_one (ps_expr (pe_bm PySem.F.plainAttrs_list PySem.F.slot_list_append PySem.F.type_list_append mt_append (pv 1) (pa_cons (pv 2) pa_nil)))) pss_nil)
      (pss_cons (ps_set (i := 3) sc_Schema_parse.nd rfl (by first | exact Or.inl rfl | exact Or.inr rfl) (pe_lst pa_nil))
      (pss_cons (ps_for po rfl (pi_enum (by rfl) T.nb_enumerate (pa_cons (pv 1) pa_nil)) (kg_tup (n := 2) K rfl (pgs_cons (pg_name (i := 4) sc_Schema_parse.nd rfl (by first | exact Or.inl rfl | exact Or.inr rfl)) (pgs_cons (pg_name (i := 5) sc_Schema_parse.nd rfl (by first | exact Or.inl rfl | exact Or.inr rfl)) pgs_nil))) (pss_one (ps_if (pt_not (kt_truth K (pe_callG Gtl (hr.mono (by decide)) tk (pa_cons (pv 3) (pa_cons (pv 5) pa_nil)) pk_nil) (by intro _; rfl))) (pss_one (ps_raise rfl tk (pmk_exc1 XT (hr.mono (by decide)) (pa_cons (pv 4) pa_nil)))) pss_nil)))
      (pss_cons (ps_if (pt_cmpR (ka_ne K hr.units) (pv 2) pe_str (nomark _)) (pss_one (ps_raise rfl tk (pmk_exc1 XT (hr.mono (by decide)) (pa_cons (pe_callB (ka_len K) (by rfl) T.nb_len (by decide +kernel) (pa_cons (pv 1) pa_nil)) pa_nil)))) pss_nil)
      (pss_cons (ps_setLcX (i := 6) (own := [("name", 9), ("columns", 7), ("groups", 8)]) (g := (gTup K 3 (gCons (gName 9) (gCons (gName 7) (gCons (gName 8) gNil))))) (tt := tYes) tk rfl sc_Schema_parse.nd rfl rfl (sw_true rfl rfl rfl (by decide +kernel)) (ki_list K (pv 3)) (blkOk_by (N := (["text", "lines", "last", "parts", "index", "line", "tables", "columns", "groups", "name"] : List Str)) (sc := defScope s_Schema_parse) (by decide +kernel)) (fun _ _ _ _ _ => (kg_tup (n := 3) K rfl (pgs_cons (pg_name (i := 9) sc_Schema_parse.nd rfl (by first | exact Or.inl rfl | exact Or.inr rfl)) (pgs_cons (pg_name (i := 7) sc_Schema_parse.nd rfl (by first | exact Or.inl rfl | exact Or.inr rfl)) (pgs_cons (pg_name (i := 8) sc_Schema_parse.nd rfl (by first | exact Or.inl rfl | exact Or.inr rfl)) pgs_nil))))) (fun _ _ _ _ _ => pts_nil) (fun _ _ _ _ _ _ _ tk => (pe_makeV MTb (hr.mono (by decide)) tk (pa_cons (pv 9) (kp_star K (pv 7) pa_nil)) (pk_cons (pv 8) pk_nil))))
      (pss_one (ps_ret (pe_makeV1 MSc (hr.mono (by decide)) tk (pv 6))))))))))), ?_⟩
  walk_at "go"
  rcases h with ⟨z, rfl, hz, hl, k⟩ | ⟨⟨t, ht1, ht2⟩, k⟩
  rotate_left 1
  · refine g_isi (.ty _) (tyX_same w.sub ht1) ht2 ?_
    walk_at "go"
    exact XQ.raise k w (Same.refl G)
  refine g_isi (.ty _) (.base (.str z)) kit_str ?_
  walk_at "go"
  refine g_split w (by decide) (by rw [sizeLine_eq]; omega) fun p0 H1 n0 w => ?_
  have sp := splitN_pos z
  have el : lastS z = wAt (Txt.split z "\n") ((Txt.split z "\n").length - 1) := rfl
  have els : linesS z = if lastS z = "" then (Txt.split z "\n").dropLast else Txt.split z "\n" := rfl
  have hlw : ∀ x ∈ Txt.split z "\n", x.length ≤ 1000000 := fun x hx => by
    have h1 := split_weight z "\n" (by decide)
    have h2 : x.length ≤ ((Txt.split z "\n").map (·.length)).sum := le_sum (List.mem_map_of_mem hx)
    omega
  generalize hws : Txt.split z "\n" = ws at *
  have hlm : ∀ x ∈ linesS z, x.length ≤ 1000000 := fun x hx => by
    rw [els] at hx
    split at hx
    · exact hlw x ((List.dropLast_sublist ws).mem hx)
    · exact hlw x hx
  have hll : (linesS z).length ≤ 1000 := by
    rw [els]
    split
    · rw [List.length_dropLast]; omega
    · exact hl
  have S0 : Same G (upd G p0 (.lst (ws.map V.str))) := Same.newG n0
  walk_at "go"
  refine ⟨p0, ws.map V.str, rfl, Evl.ex_l w.sub (SqL.of upd_same), by rw [List.length_map]; omega, by rw [List.length_map]; omega, fun ll hll0 => ?_⟩
  have nll := w.free hll0
  replace w := w.new (o := .lst (((ws.map V.str).drop 0).take ((ws.map V.str).length + 1 - 2))) hll0
  have e1 : ((ws.map V.str).drop 0).take ((ws.map V.str).length + 1 - 2) = ws.dropLast.map V.str := by
    rw [List.drop_zero, List.length_map, List.dropLast_eq_take, List.map_take]
    rfl
  have e2 : ((ws.map V.str).drop 0).drop ((ws.map V.str).length + 1 - 2) = [V.str (lastS z)] := by
    have e : (ws.map V.str).length + 1 - 2 = ws.length - 1 := by rw [List.length_map]; omega
    rw [List.drop_zero, e, ← List.map_drop, last_drop sp, el]
    rfl
  rw [e1] at w
  rw [e1, e2, List.take_zero]
  show gCons _ _ [V.ref ll, V.str (lastS z)] _ _ _
  have S1 : Same G (upd (upd G p0 (.lst (ws.map V.str))) ll (.lst (ws.dropLast.map V.str))) := Same.trans S0 (Same.newG nll)
  have ql : upd (upd G p0 (.lst (ws.map V.str))) ll (.lst (ws.dropLast.map V.str)) ll = some (.lst (ws.dropLast.map V.str)) := upd_same
  have nG : G ll = none := Same.free S0 nll
  generalize upd (upd G p0 (.lst (ws.map V.str))) ll (.lst (ws.dropLast.map V.str)) = G1 at w S1 ql
  with_reducible refine g_gcons ?_
  with_reducible refine g_name ?_
  with_reducible refine g_gcons ?_
  with_reducible refine g_name ?_
  with_reducible refine g_gnil ?_
  with_reducible refine g_seq ?_
  refine joinS (C := fun σ' H' => σ' = [some (.str z), some (.ref ll), some (.str (lastS z)), none, none, none, none, none, none, none] ∧ ∃ G1, Same G G1 ∧ G1 ll = some (.lst ((linesS z).map V.str)) ∧ Wd G1 R H') (fun N hN => ?_) ?_
  · walk_at "go"
    refine g_neS rfl ?_
    walk_at "go"
    refine iteN (fun h1 => ?_) (fun h1 => ?_)
    · rw [if_neg (fun z => h1 (congrArg V.str z))] at els
      walk_at "go"
      refine g_tyL w ql ?_
      walk_at "go"
      refine g_app w ql (by rw [sizeLine_eq, List.length_map, List.length_dropLast]; omega) fun H3 w => ?_
      walk_at "go"
      refine hN _ _ ⟨rfl, _, Same.setL S1 nG, ?_, w⟩
      rw [upd_same, els, el]
      exact congrArg (fun l => some (HO.lst l)) ((congrArg (List.map V.str) (last_app sp)).symm.trans List.map_append).symm
    · rw [if_pos (V.str.inj h1)] at els
      walk_at "go"
      refine hN _ _ ⟨rfl, _, S1, ?_, w⟩
      rw [ql, els]
  rintro _ H3 ⟨rfl, G2, S2, ql2, w⟩
  clear ql S1
  walk_at "go"
  refine g_newL w (by walk_at "sz") fun pl H4 npl w => ?_
  walk_at "go"
  refine ⟨ll, _, rfl, Evl.ex_l w.sub (SqL.of (Same.newG npl _ _ ql2)), ?_⟩
  refine for_it (itf_enum (xs := (linesS z).map V.str)) (fun i σ' H' => ∃ y4 y5 ps, σ' = [some (.str z), some (.ref ll), some (.str (lastS z)), some (.ref pl), y4, y5, none, none, none, none] ∧ PState K A G2 R pl ps H' ∧ runL [] 0 (linesS z) = runL ps i ((linesS z).drop i) ∧ Psz ps i ∧ Pok ps)
    ⟨_, _, [], rfl, ⟨G2, [], .inl ⟨rfl, rfl, Same.refl _⟩, npl, w⟩, rfl, ⟨Nat.le_refl _, fun _ z => absurd z List.not_mem_nil⟩, fun _ z => absurd z List.not_mem_nil⟩ (fun i σ' H' _ h => ?_) ?_ ?_
  · obtain ⟨_, _, _, _, hP, _⟩ := h
    obtain ⟨G5, _, s5, _, _, w5⟩ := hP.all
    exact Evl.ex_l w5.sub (SqL.of (s5 _ _ ql2))
  · rintro i y σ' H5 H6 hi ⟨y4, y5, ps, rfl, hP, hrun, hsz, hok⟩ ⟨T0, x, rfl, hT0, rfl, hx⟩
    rw [List.getElem?_map] at hx
    obtain ⟨ln, hln, rfl⟩ := Option.map_eq_some_iff.mp hx
    have hi' : i < (linesS z).length := (List.getElem?_eq_some_iff.mp hln).1
    have hdr : (linesS z).drop i = ln :: (linesS z).drop (i + 1) := by
      have := List.drop_eq_getElem_cons hi'
      rw [(List.getElem?_eq_some_iff.mp hln).2] at this
      exact this
    replace hP := hP.same (Same.newG hT0 (o := .tup [.int (i : Nat), .str ln]))
    rw [hdr] at hrun
    walk_at "go"
    refine ⟨T0, _, rfl, SqT.of upd_same, rfl, ?_⟩
    walk_at "go"
    refine ⟨rfl, rfl, G2, R, pl, ps, ln, i, rfl, hP, hlm ln (List.mem_of_getElem? hln), hsz, by omega, fun ps' h' H7 P7 => ?_, fun h' H7 w7 => ?_⟩
    · walk_at "go"
      rw [runL_step h'] at hrun
      obtain ⟨k1, k2⟩ := took_keep h' hok hsz
      exact ⟨_, _, ps', rfl, P7, hrun, k2, k1⟩
    · walk_at "go"
      rw [runL_stop h'] at hrun
      have ek : parseS z = .text i := by
        unfold parseS
        rw [hrun]
      rw [ek] at k
      exact XQ.raise k w7 S2
  · rintro σ' H5 ⟨y4, y5, ps, rfl, hP, hrun, hsz, hok⟩
    rw [List.length_map] at hrun hsz
    rw [List.drop_length] at hrun
    replace hrun : runL [] 0 (linesS z) = .inr ps := hrun
    have ek : parseS z = if lastS z = "" then schP ps else .text (linesS z).length := by
      unfold parseS
      rw [hrun]
    obtain ⟨G5, ts, s5, hpl, hfr, w⟩ := hP.all
    have S5 : Same G G5 := Same.trans S2 s5
    walk_at "go"
    refine g_neS rfl ?_
    walk_at "go"
    refine iteN (fun h1 => ?_) (fun h1 => ?_)
    · rw [if_neg (fun z => h1 (congrArg V.str z))] at ek
      rw [ek] at k
      walk_at "go"
      refine g_lenL w (SqL.of (s5 _ _ ql2)) ?_
      rw [List.length_map]
      walk_at "go"
      exact XQ.raise k w S5
    rw [if_pos (V.str.inj h1)] at ek
    rw [ek] at k
    walk_at "go"
    have hts : ts.length ≤ 1000 := by rw [← Sw.Paired.len hfr]; exact Nat.le_trans hsz.1 hll
    have esp : schP ps = match partsErr ps with
      | some e => e
      | none => match schRes (ps.map partTab) with
        | .name o => .name o
        | .unknown n => .unknown n
        | .ok => .ok (ps.map partTab) := rfl
    refine ⟨pl, rfl, ⟨_, SqL.of (w.get hpl)⟩, ?_⟩
    refine lc_it (itf_list (xs := ts.map V.ref)) w (fun H e => SqL.of (e _ _ hpl)) (by rw [sizeLine_eq, List.length_map]; omega) (fun i Gi acc => ∃ tas, acc = tas.map V.ref ∧ TabsAt K A Gi ((ps.take i).map partTab) tas ∧ partsErr ps = partsErr (ps.drop i)) ⟨[], rfl, .nil, rfl⟩ ?_ ?_
    · rintro i y Gi acc D H6 H7 hi e nD ⟨tas, rfl, hta, herr⟩ ha w6 ⟨rfl, hy⟩
      rw [List.getElem?_map] at hy
      obtain ⟨t, ht, rfl⟩ := Option.map_eq_some_iff.mp hy
      obtain ⟨p, hp, cl, gl, as, us, ht1, hcl, hca, hgl, hga⟩ := Sw.Paired.atR hfr ht
      have S6 : Same G5 (upd Gi D (.lst (tas.map V.ref))) := Same.trans e (Same.newG nD)
      have hmem := List.mem_of_getElem? hp
      obtain ⟨ok1, ok2, ok3⟩ := hok p hmem
      obtain ⟨sz1, sz2⟩ := hsz.2 p hmem
      have las : as.length ≤ 1000 := by rw [← Sw.Paired.len hca]; exact Nat.le_trans sz1 hll
      have lus : us.length ≤ 1000 := by rw [← Sw.Paired.len hga]; exact Nat.le_trans sz2 hll
      have hdr : ps.drop i = p :: ps.drop (i + 1) := by
        have := List.drop_eq_getElem_cons (List.getElem?_eq_some_iff.mp hp).1
        rw [(List.getElem?_eq_some_iff.mp hp).2] at this
        exact this
      rw [hdr] at herr
      have hpe : partsErr (p :: ps.drop (i + 1)) = match tabRes true p.2.1 (p.2.2.map some) with
        | .name => some (.name (some p.1))
        | .col o => some (.col o)
        | .grp i => some (.grp i)
        | .ok => partsErr (ps.drop (i + 1)) := rfl
      rw [hpe] at herr
      walk_at "go"
      refine ⟨t, _, rfl, SqT.of (w6.get (S6 _ _ ht1)), rfl, ?_⟩
      walk_at "go"
      refine ⟨rfl, ?_⟩
      walk_at "go"
      refine ⟨cl, _, rfl, .inr (SqL.of (w6.get (S6 _ _ hcl))), ?_⟩
      walk_at "go"
      rw [List.append_nil]
      refine ⟨Nat.succ_le_succ (Nat.zero_le _), rfl, mk_tab w6 ok1 (hca.same S6) (S6 _ _ hgl) (hga.same S6) ok3 las lus ?_⟩
      unfold TbQ
      cases er : tabRes true p.2.1 (p.2.2.map some) with
      | name => rw [er] at herr; rw [esp, herr] at k; exact XQ.up k (Same.trans S5 S6)
      | col o => rw [er] at herr; rw [esp, herr] at k; exact XQ.up k (Same.trans S5 S6)
      | grp j => rw [er] at herr; rw [esp, herr] at k; exact XQ.up k (Same.trans S5 S6)
      | ok =>
        rw [er] at herr
        intro x dx d gl' G' H8 s8 fx fd fg hx hd hg' w8
        obtain ⟨Gm, em, nm, am, wm⟩ := Wd.apart s8 nD w8
        have hxD : x ≠ D := (ne_of_none upd_same fx).symm
        have hdD : d ≠ D := (ne_of_none upd_same fd).symm
        have hgD : gl' ≠ D := (ne_of_none upd_same fg).symm
        refine lc_keep (Pv := fun i Gi acc => ∃ tas, acc = tas.map V.ref ∧ TabsAt K A Gi ((ps.take i).map partTab) tas ∧ partsErr ps = partsErr (ps.drop i)) wm (Same.trans e em) nm ha hi (by rw [sizeLine_eq, List.length_map]; omega) ⟨tas ++ [x], by rw [List.map_append]; rfl, ?_, herr⟩
        rw [List.take_add_one, hp, List.map_append]
        have S9 : Same G5 Gm := Same.trans e em
        exact Sw.Paired.app (hta.same em) (.cons ⟨dx, d, gl', as, us, by rw [am x hxD]; exact hx, by rw [am d hdD]; exact hd, hca.same S9, by rw [am gl' hgD]; exact hg', hga.same S9⟩ .nil)
    · rintro D Gn acc H6 e nD ⟨tas, rfl, hta, herr⟩ ha w
      rw [List.length_map, ← Sw.Paired.len hfr, List.take_length] at hta
      rw [List.length_map, ← Sw.Paired.len hfr, List.drop_length] at herr
      replace herr : partsErr ps = none := herr
      rw [esp, herr] at k
      walk_at "go"
      have S7 : Same G5 (upd Gn D (.lst (tas.map V.ref))) := Same.trans e (Same.newG nD)
      have ltas : tas.length ≤ 1000 := by rw [← Sw.Paired.len hta, List.length_map, Sw.Paired.len hfr]; exact hts
      refine ⟨D, _, rfl, .inr (SqL.of (w.get upd_same)), Nat.zero_le _, mk_sch w (hta.same (Same.newG nD)) ltas ?_⟩
      unfold ScQ
      cases er : schRes (ps.map partTab) with
      | name o => rw [er] at k; exact XQ.up k (Same.trans S5 S7)
      | unknown n => rw [er] at k; exact XQ.up k (Same.trans S5 S7)
      | ok =>
        rw [er] at k
        exact fun x G' H' s n h w' => k x G' H' (Same.trans (Same.trans S5 S7) s) (Same.free (Same.trans S5 S7) n) h w'
end
end Sv


set_option Elab.async false
set_option linter.all false
set_option maxRecDepth 100000
set_option maxHeartbeats 4000000
namespace Sv
open PySem PySem.Spec PyProof.Rows L2 Sw
local macro_rules | `(tactic| walk_at "go1") => `(tactic| first
  | ((with_reducible refine' g_var ?hv ?_); (case hv => rfl))
  | with_reducible refine g_c ?_
  | with_reducible refine g_op ?_
  | with_reducible refine g_un ?_
  | with_reducible refine g_seq ?_
  | with_reducible refine g_next ?_
  | with_reducible refine g_asg ?_
  | with_reducible refine g_name ?_
  | with_reducible refine g_drop ?_
  | with_reducible refine g_sub ?_
  | with_reducible refine g_ret ?_
  | with_reducible refine g_retN ?_
  | with_reducible refine g_ifS ?_
  | with_reducible refine g_if ?_
  | with_reducible refine g_test ?_
  | with_reducible refine g_bl ?_
  | with_reducible refine g_cons ?_
  | with_reducible refine g_nil ?_
  | with_reducible refine g_and ?_
  | with_reducible refine g_or ?_
  | with_reducible refine g_not ?_
  | with_reducible refine g_callB ?_
  | with_reducible refine g_addI ?_
  | with_reducible refine g_I0 ?_
  | with_reducible refine g_calG ?_
  | with_reducible refine g_mkG ?_
  | with_reducible refine g_tup ?_
  | with_reducible refine g_pairs1 ?_
  | with_reducible refine g_pairs0 ?_
  | with_reducible refine g_dget ?_
  | with_reducible refine g_lvals ?_
  | with_reducible refine g_forT ?_
  | with_reducible refine g_lcT ?_
  | with_reducible refine g_dput ?_
  | with_reducible refine g_lc2L ?_
  | with_reducible refine g_iList ?_
  | with_reducible refine g_lcX ?_
  | with_reducible refine g_js1 ?_
  | with_reducible refine g_js0 ?_
  | with_reducible refine g_fmt ?_
  | with_reducible refine g_tLenSet ?_
  | with_reducible refine g_mkV ?_
  | with_reducible refine g_mkV1 ?_
  | with_reducible refine g_lst ?_
  | with_reducible refine g_forL ?_
  | with_reducible refine g_forR ?_
  | with_reducible refine g_forR2 ?_
  | with_reducible refine g_forS ?_
  | with_reducible refine g_forE ?_
  | with_reducible refine g_lcL ?_
  | with_reducible refine g_lcR ?_
  | with_reducible refine g_lcS ?_
  | with_reducible refine g_lcE ?_
  | with_reducible refine g_orT ?_
  | with_reducible refine g_slc ?_
  | with_reducible refine g_noPart ?_
  | with_reducible refine g_part ?_
  | with_reducible refine g_bm ?_
  | with_reducible refine g_par ?_
  | with_reducible refine g_yes ?_
  | with_reducible refine g_tupG ?_
  | with_reducible refine g_lstG ?_
  | with_reducible refine g_gcons ?_
  | with_reducible refine g_gnil ?_
  | with_reducible refine g_chain ?_
  | with_reducible refine g_truB ?_
  | with_reducible refine g_truN ?_
  | with_reducible refine g_truI ?_
  | with_reducible refine g_m1 ?_
  | with_reducible refine g_fld ?_
  | with_reducible refine g_con ?_
  | with_reducible refine g_tru ?_
  | with_reducible refine g_U ?_
  | with_reducible refine g_xg ?_
  | with_reducible refine g_andT ?_
  | with_reducible refine g_exI ?_
  | with_reducible refine g_dnew ?_
  | with_reducible refine g_intB ?_
  | with_reducible refine g_meth ?_
  | with_reducible refine g_prop ?_
  | with_reducible refine g_exc1 ?_
  | with_reducible refine g_setF ?_
  | with_reducible refine g_star ?_
  | with_reducible refine g_strM ?_
  | with_reducible refine iteT ?_
  | with_reducible refine iteF ?_
  | with_reducible refine iteNT ?_
  | with_reducible refine iteNF ?_)
local macro_rules | `(tactic| walk_at "go") => `(tactic| repeat (walk_at "go1"))
local macro_rules | `(tactic| walk_at "sz") => `(tactic| (first | (rw [sizeLine_eq]; simp only [List.length_cons, List.length_nil, List.length_map, List.length_append, List.length_take]; omega) | (rw [sizeLine_eq]; omega)))
def LFroz (K : PySem.W.Frag) (G : Hp) (ps : List Part) (ts : List Addr) : Prop := Paired (fun p t => ∃ cl gl as us, G t = some (.lst [.str p.1, .ref cl, .ref gl]) ∧ G cl = some (.lst (as.map V.ref)) ∧ CTs K G p.2.1 as ∧ G gl = some (.lst us) ∧ GrpsAt K G p.2.2 us) ps ts
theorem LFroz.same {K : PySem.W.Frag} {G G' : Hp} {ps : List Part} {ts : List Addr} (h : LFroz K G ps ts) (e : Same G G') : LFroz K G' ps ts :=
  Sw.Paired.imp (fun _ _ ⟨cl, gl, as, us, h1, h2, h3, h4, h5⟩ => ⟨cl, gl, as, us, e _ _ h1, e _ _ h2, h3.same e, e _ _ h4, h5.same e⟩) h
def LLast (K : PySem.W.Frag) (G0 G1 : Hp) (pl : Addr) (parts : List Part) (ts : List Addr) : Prop :=
  (parts = [] ∧ ts = [] ∧ Same G0 G1) ∨
  ∃ G init p ts0 t cl gl as us, parts = init ++ [p] ∧ ts = ts0 ++ [t] ∧ Same G0 G ∧ G pl = none ∧ G cl = none ∧ G gl = none ∧ pl ≠ cl ∧ pl ≠ gl ∧ cl ≠ gl ∧ LFroz K G init ts0 ∧ G t = some (.lst [.str p.1, .ref cl, .ref gl]) ∧ CTs K G p.2.1 as ∧ GrpsAt K G p.2.2 us ∧
    G1 = upd (upd G cl (.lst (as.map V.ref))) gl (.lst us)
def LPs (K : PySem.W.Frag) (G0 : Hp) (R : Res) (pl : Addr) (parts : List Part) (H : Hp) : Prop :=
  ∃ G1 ts, LLast K G0 G1 pl parts ts ∧ G1 pl = none ∧ Wd (upd G1 pl (.lst (ts.map V.ref))) R H
theorem LLast.froz {K : PySem.W.Frag} {G0 G1 : Hp} {pl : Addr} {parts : List Part} {ts : List Addr} (h : LLast K G0 G1 pl parts ts) : Same G0 G1 ∧ LFroz K G1 parts ts := by
  rcases h with ⟨rfl, rfl, e⟩ | ⟨G, init, p, ts0, t, cl, gl, as, us, rfl, rfl, e, n1, n2, n3, d1, d2, d3, hf, ht, hc, hg, rfl⟩
  · exact ⟨e, .nil⟩
  · have s3 : Same G (upd (upd G cl (.lst (as.map V.ref))) gl (.lst us)) := Same.setL (Same.newG n2) n3
    refine ⟨Same.trans e s3, Sw.Paired.app (hf.same s3) (.cons ⟨cl, gl, as, us, s3 _ _ ht, ?_, hc.same s3, upd_same, hg.same s3⟩ .nil)⟩
    rw [upd_ne d3]; exact upd_same
theorem LPs.table {K : PySem.W.Frag} {G0 G G2 : Hp} {R : Res} {pl c g t : Addr} {parts : List Part} {ts : List Addr} {H : Hp} {n : Str} (e : Same G0 G) (np : G pl = none) (nc : G c = none) (ng : G g = none) (d1 : pl ≠ c) (d2 : pl ≠ g) (d3 : c ≠ g) (hf : LFroz K G parts ts) (ht : G t = some (.lst [.str n, .ref c, .ref g]))
    (s : Same G G2) (h1 : G2 pl = some (.lst ((ts ++ [t]).map V.ref))) (h2 : G2 c = some (.lst [])) (h3 : G2 g = some (.lst [])) (w : Wd G2 R H) : LPs K G0 R pl (parts ++ [(n, [], [])]) H :=
  ⟨_, ts ++ [t], .inr ⟨G, parts, (n, [], []), ts, t, c, g, [], [], rfl, rfl, e, np, nc, ng, d1, d2, d3, hf, ht, .nil, .nil, rfl⟩, by rw [upd_ne d2, upd_ne d1]; exact np, w.drop (Same.updR (Same.updR (Same.updR s h2) h3) h1)⟩
theorem LPs.last {K : PySem.W.Frag} {G0 G G2 : Hp} {R : Res} {pl cl gl t : Addr} {init : List Part} {ts0 : List Addr} {H : Hp} {p : Part} {as : List Addr} {us : List V} (e : Same G0 G) (n1 : G pl = none) (n2 : G cl = none) (n3 : G gl = none) (d1 : pl ≠ cl) (d2 : pl ≠ gl) (d3 : cl ≠ gl) (hf : LFroz K G init ts0) (ht : G t = some (.lst [.str p.1, .ref cl, .ref gl]))
    (hc : CTs K G p.2.1 as) (hg : GrpsAt K G p.2.2 us) (s : Same G G2) (h1 : G2 pl = some (.lst ((ts0 ++ [t]).map V.ref))) (h2 : G2 cl = some (.lst (as.map V.ref))) (h3 : G2 gl = some (.lst us)) (w : Wd G2 R H) : LPs K G0 R pl (init ++ [p]) H :=
  ⟨_, ts0 ++ [t], .inr ⟨G, init, p, ts0, t, cl, gl, as, us, rfl, rfl, e, n1, n2, n3, d1, d2, d3, hf, ht, hc, hg, rfl⟩, by rw [upd_ne d2, upd_ne d1]; exact n1, w.drop (Same.updR (Same.updR (Same.updR s h2) h3) h1)⟩
theorem LPs.same {K : PySem.W.Frag} {G0 : Hp} {R : Res} {pl : Addr} {ps : List Part} {H H' : Hp} (h : LPs K G0 R pl ps H) (e : Same H H') : LPs K G0 R pl ps H' := by
  obtain ⟨G1, ts, h1, h2, w⟩ := h
  exact ⟨G1, ts, h1, h2, w.same e⟩
theorem LPs.all {K : PySem.W.Frag} {G0 : Hp} {R : Res} {pl : Addr} {ps : List Part} {H : Hp} (h : LPs K G0 R pl ps H) : ∃ G1 ts, Same G0 G1 ∧ G1 pl = some (.lst (ts.map V.ref)) ∧ LFroz K G1 ps ts ∧ Wd G1 R H := by
  obtain ⟨G1, ts, h1, h2, w⟩ := h
  obtain ⟨e, hf⟩ := h1.froz
  exact ⟨_, ts, Same.trans e (Same.newG h2), upd_same, hf.same (Same.newG h2), w⟩
def partsL (s : Str) : Nat ⊕ List Part := match runL [] 0 (linesS s) with
  | .inl i => .inl i
  | .inr ps => if lastS s = "" then .inr ps else .inl (linesS s).length
theorem joinE {t : TE} {σ : L2.St} {H : Hp} {Q : VK} {C : V → Hp → Prop} (h : ∀ Q : VK, (∀ x H', C x H' → Q x H') → t σ H Q) (k : ∀ x H', C x H' → Q x H') : t σ H Q := h Q k
theorem pW_unique {ws : List Str} (h : wAt ws 0 = "unique") : pW ws = none := pW_none fun z => by
  rcases z with ⟨z, _⟩ | ⟨_, z, _⟩
  · rw [h] at z; exact absurd z (by decide)
  · rw [h] at z; exact absurd z (by decide +kernel)
theorem filter_not_nil {ws : List Str} : (ws.filter fun n => !isNm n) = [] ↔ ws.all isNm = true := by
  rw [List.filter_eq_nil_iff, List.all_eq_true]
  constructor
  · intro h x hx
    have := h x hx
    cases e : isNm x with
    | true => rfl
    | false => rw [e] at this; exact absurd rfl this
  · intro h x hx
    rw [h x hx]
    exact Bool.false_ne_true
section
variable {P : Program} {wo : World} {A : Ad} {K : PySem.W.Frag} {mg : Str → Option Value} {base : Heap}
/-! ### _law_parts -/
def spLParts (K : PySem.W.Frag) : Sp := fun vs H Q _ => ∃ G R s, vs = [.str s] ∧ Wd G R H ∧ s.length ≤ 1000000 ∧ (Txt.split s "\n").length ≤ 1000 ∧
  match partsL s with
  | .inl i => ∀ H', Wd G R H' → Q (.int (i : Nat)) H'
  | .inr ps => ∀ p ts G' H', Same G G' → G' p = some (.lst (ts.map V.ref)) → LFroz K G' ps ts → Pok ps → Psz ps 1000 → Wd G' R H' → Q (.ref p) H'
theorem sc__law_parts : FnScope (["_law_text", "_law_lines", "_law_found", "_law_ended", "_law_at", "_law_line", "_law_words", "_law_column_here", "_law_word"] : List Str) (["_law_text"] : List Str) (defScope s__law_parts) := ⟨rfl, rfl, rfl, by decide +kernel, rfl, by decide +kernel, by decide +kernel⟩
theorem ok_lparts {f : Addr} {fd : FuncData} (F : Fun K "_law_parts" "_law_parts" s__law_parts f fd) (T : Txt K mg A) (Gln : GFn P wo K mg base 1 "_law_is_name" 1 [] (fun vs _ => spLName vs)) (Glco : GFn P wo K mg base 2 "_law_column_of" 1 [] (fun vs _ => spColOf K vs)) : FnOk P wo K mg base (L2.CX P wo) 3 f fd (["_law_text"] : List Str) (spLParts K) := by
  refine okT F sc__law_parts (fun vs H Q E h => ?_) (fun cdv Ar outer s H vs Q E hr tk po h => ?_)
  · obtain ⟨_, _, _, rfl, _⟩ := h
    rfl
  obtain ⟨G, R, z, rfl, w, hz, hl, k⟩ := h
  refine ⟨_, (pss_cons (ps_par (i := 1) (j := 2) rfl sc__law_parts.nd rfl rfl (by decide) rfl rfl (pa_cons (ke_split (pv 0) pe_str) (pa_cons (pe_lst pa_nil) pa_nil)) (by rfl))
      (pss_cons (ps_set (i := 3) sc__law_parts.nd rfl (by first | exact Or.inl rfl | exact Or.inr rfl) (pe_cmpR (ka_eq K hr.units) (pe_ix (ka_ix K) (pv 1) (pe_un un_neg pe_int) (fun _ _ => rfl)) pe_str (nomark _)))
      (pss_cons (ps_for po rfl (pi_enum (by rfl) T.nb_enumerate (pa_cons (pe_slice (ka_sl K) (pv 1) po_none (po_some (pe_op op_sub (pe_callB (ka_len K) (by rfl) T.nb_len (by decide +kernel) (pa_cons (pv 1) pa_nil)) (pe_callTy ka_int (by rfl) T.nb_int (by decide +kernel) (pa_cons (pv 3) pa_nil))))) pa_nil)) (kg_tup (n := 2) K rfl (pgs_cons (pg_name (i := 4) sc__law_parts.nd rfl (by first | exact Or.inl rfl | exact Or.inr rfl)) (pgs_cons (pg_name (i := 5) sc__law_parts.nd rfl (by first | exact Or.inl rfl | exact Or.inr rfl)) pgs_nil))) (pss_cons (ps_set (i := 6) sc__law_parts.nd rfl (by first | exact Or.inl rfl | exact Or.inr rfl) (ke_split (pv 5) pe_str))
      (pss_cons (ps_set (i := 7) sc__law_parts.nd rfl (by first | exact Or.inl rfl | exact Or.inr rfl) (pe_callG Glco (hr.mono (by decide)) tk (pa_cons (pv 6) pa_nil) pk_nil))
      (pss_one (ps_if (PW.pt (pw_and (pt_cmpR (ka_eq K hr.units) (pe_ix (ka_ix K) (pv 6) pe_int (fun _ _ => rfl)) pe_str (nomark _)) (pw_and (pt_cmpR (ka_eq K hr.units) (pe_callB (ka_len K) (by rfl) T.nb_len (by decide +kernel) (pa_cons (pv 6) pa_nil)) pe_int (nomark _)) (pw_and1 (kt_truth K (pe_callG Gln (hr.mono (by decide)) tk (pa_cons (pe_ix (ka_ix K) (pv 6) pe_int (fun _ _ => rfl)) pa_nil) pk_nil) (by intro _; rfl)))))) (pss_one (ps_expr (pe_bm PySem.F.plainAttrs_list PySem.F.slot_list_append PySem.F.type_list_append mt_append (pv 2) (pa_cons (pe_lst (pa_cons (pe_ix (ka_ix K) (pv 6) pe_int (fun _ _ => rfl)) (pa_cons (pe_lst pa_nil) (pa_cons (pe_lst pa_nil) pa_nil)))) pa_nil)))) (pss_one (ps_if (PW.pt (pw_and (pt_cmpR (ka_eq K hr.units) (pe_ix (ka_ix K) (pv 6) pe_int (fun _ _ => rfl)) pe_str (nomark _)) (pw_and (pt_cmpR (op_neL0 K hr.units) (pv 2) (pe_lst pa_nil) (nomark _)) (pw_and1 (pt_chain op_lt op_lt pe_int (pe_callB (ka_len K) (by rfl) T.nb_len (by decide +kernel) (pa_cons (pv 6) pa_nil)) pe_int))))) (pss_cons (ps_if (pt_cmpR (ka_ne K hr.units) (pe_lc (own := [("_law_word", 8)]) (g := (gName 8)) (tt := _) rfl sc__law_parts.nd (ki_list K (pe_slice (ka_sl K) (pv 6) (po_some pe_int) po_none)) (blkOk_by (N := (["_law_text", "_law_lines", "_law_found", "_law_ended", "_law_at", "_law_line", "_law_words", "_law_column_here", "_law_word"] : List Str)) (sc := defScope s__law_parts) (by decide +kernel)) (fun _ _ _ _ _ => (pg_name (i := 8) sc__law_parts.nd rfl (by first | exact Or.inl rfl | exact Or.inr rfl))) (fun _ _ _ _ _ => (pts_one (pt_not (kt_truth K (pe_callG Gln (hr.mono (by decide)) takes0 (pa_cons (pv 8) pa_nil) pk_nil) (by intro _; rfl))))) (fun _ _ _ _ _ => (pv 8))) (pe_lst pa_nil) (nomark _)) (pss_one (ps_ret (pv 4))) pss_nil)
      (pss_one (ps_expr (pe_bm PySem.F.plainAttrs_list PySem.F.slot_list_append PySem.F.type_list_append mt_append (pe_ix (ka_ix K) (pe_ix (ka_ix K) (pv 2) (pe_un un_neg pe_int) (fun _ _ => rfl)) pe_int (fun _ _ => rfl)) (pa_cons (pe_callTy call_tuple_of (by rfl) T.nb_tuple (by decide +kernel) (pa_cons (pe_slice (ka_sl K) (pv 6) (po_some pe_int) po_none) pa_nil)) pa_nil))))) (pss_one (ps_if (PW.pt (pw_and (pt_cmpR op_notN (pv 7) pe_non (nomark _)) (pw_and (pt_cmpR (op_neL0 K hr.units) (pv 2) (pe_lst pa_nil) (nomark _)) (pw_and1 (pt_cmpR (op_eqL0 K hr.units) (pe_ix (ka_ix K) (pe_ix (ka_ix K) (pv 2) (pe_un un_neg pe_int) (fun _ _ => rfl)) pe_int (fun _ _ => rfl)) (pe_lst pa_nil) (nomark _)))))) (pss_one (ps_expr (pe_bm PySem.F.plainAttrs_list PySem.F.slot_list_append PySem.F.type_list_append mt_append (pe_ix (ka_ix K) (pe_ix (ka_ix K) (pv 2) (pe_un un_neg pe_int) (fun _ _ => rfl)) pe_int (fun _ _ => rfl)) (pa_cons (pv 7) pa_nil)))) (pss_one (ps_ret (pv 4))))))))))))
      (pss_one (ps_ret (pe_ifExp (kt_truth K (pv 3) (by intro _; rfl)) (pv 2) (pe_callB (ka_len K) (by rfl) T.nb_len (by decide +kernel) (pa_cons (pv 1) pa_nil)))))))), ?_⟩
  walk_at "go"
  refine g_split w (by decide) (by rw [sizeLine_eq]; omega) fun p0 H1 n0 w => ?_
  have sp := splitN_pos z
  have el : lastS z = wAt (Txt.split z "\n") ((Txt.split z "\n").length - 1) := rfl
  have els : linesS z = if lastS z = "" then (Txt.split z "\n").dropLast else Txt.split z "\n" := rfl
  have hlw : ∀ x ∈ Txt.split z "\n", x.length ≤ 1000000 := fun x hx => by
    have h1 := split_weight z "\n" (by decide)
    have h2 : x.length ≤ ((Txt.split z "\n").map (·.length)).sum := le_sum (List.mem_map_of_mem hx)
    omega
  generalize hws : Txt.split z "\n" = ws at *
  have hlm : ∀ x ∈ linesS z, x.length ≤ 1000000 := fun x hx => by
    rw [els] at hx
    split at hx
    · exact hlw x ((List.dropLast_sublist ws).mem hx)
    · exact hlw x hx
  have hll : (linesS z).length ≤ 1000 := by
    rw [els]
    split
    · rw [List.length_dropLast]; omega
    · exact hl
  have S0 : Same G (upd G p0 (.lst (ws.map V.str))) := Same.newG n0
  have q0 : upd G p0 (.lst (ws.map V.str)) p0 = some (.lst (ws.map V.str)) := upd_same
  generalize upd G p0 (.lst (ws.map V.str)) = G1 at *
  walk_at "go"
  refine g_newL w (by walk_at "sz") fun pl H2 npl w => ?_
  walk_at "go"
  refine ⟨_, _, rfl, ?_⟩
  walk_at "go"
  have ix1 : atI (ws.map V.str) (-1) = some (.str (lastS z)) := atI_neg1 (by rw [List.length_map, el]; exact wAt_get (by omega))
  refine g_ixL w (SqL.of (upd_old q0 npl)) ix1 ?_
  walk_at "go"
  refine g_eqS rfl ?_
  walk_at "go"
  refine g_lenL w (SqL.of (upd_old q0 npl)) ?_
  rw [List.length_map]
  walk_at "go"
  have ecut : cutV (ws.map V.str) none (some ((ws.length : Int) - (if decide (V.str (lastS z) = V.str "") = true then (1 : Int) else 0))) = (linesS z).map V.str := by
    by_cases h : lastS z = ""
    · rw [els, if_pos h, if_pos (decide_eq_true (congrArg V.str h)), show (ws.length : Int) - 1 = ((ws.length - 1 : Nat) : Int) by omega, cut_hi, List.dropLast_eq_take, List.map_take]
    · rw [els, if_neg h, if_neg (fun q => h (V.str.inj (of_decide_eq_true q))), show (ws.length : Int) - 0 = ((ws.length : Nat) : Int) by omega, cut_hi, List.take_of_length_le (by rw [List.length_map]; exact Nat.le_refl _)]
  refine g_slL w (SqL.of (upd_old q0 npl)) fun p2 H3 n2 w => ?_
  rw [ecut] at w
  walk_at "go"
  obtain ⟨n2a, n2b⟩ := upd_nonne n2
  rw [upd_comm n2b] at w
  have S2 : Same G (upd G1 p2 (.lst ((linesS z).map V.str))) := Same.trans S0 (Same.newG n2a)
  have q2 : upd G1 p2 (.lst ((linesS z).map V.str)) p2 = some (.lst ((linesS z).map V.str)) := upd_same
  have qw : upd G1 p2 (.lst ((linesS z).map V.str)) p0 = some (.lst (ws.map V.str)) := upd_old q0 n2a
  have npl2 : upd G1 p2 (.lst ((linesS z).map V.str)) pl = none := by rw [upd_ne n2b.symm]; exact npl
  generalize upd G1 p2 (.lst ((linesS z).map V.str)) = G2 at *
  have err : ∀ (j : Nat), runL [] 0 (linesS z) = .inl j → ∀ H', Wd G R H' → Q (.int (j : Nat)) H' := fun j hj H' w' => by
    have : partsL z = .inl j := by unfold partsL; rw [hj]
    rw [this] at k
    exact k H' w'
  refine ⟨p2, _, rfl, Evl.ex_l w.sub (SqL.of (Same.newG npl2 _ _ q2)), ?_⟩
  refine for_it (itf_enum (xs := (linesS z).map V.str)) (fun i σ' H' => ∃ y4 y5 y6 y7 ps, σ' = [some (.str z), some (.ref p0), some (.ref pl), some (.bl (decide (V.str (lastS z) = V.str ""))), y4, y5, y6, y7, none] ∧ LPs K G2 R pl ps H' ∧ runL [] 0 (linesS z) = runL ps i ((linesS z).drop i) ∧ Psz ps i ∧ Pok ps)
    ⟨_, _, _, _, [], rfl, ⟨G2, [], .inl ⟨rfl, rfl, Same.refl _⟩, npl2, w⟩, rfl, ⟨Nat.le_refl _, fun _ z => absurd z List.not_mem_nil⟩, fun _ z => absurd z List.not_mem_nil⟩ (fun i σ' H' _ h => ?_) ?_ ?_
  · obtain ⟨_, _, _, _, _, _, hP, _⟩ := h
    obtain ⟨G5, _, s5, _, _, w5⟩ := hP.all
    exact Evl.ex_l w5.sub (SqL.of (s5 _ _ q2))
  · rintro i y σ' H5 H6 hi ⟨y4, y5, y6, y7, parts, rfl, hP, hrun, hsz, hok⟩ ⟨T0, x, rfl, hT0, rfl, hx⟩
    rw [List.getElem?_map] at hx
    obtain ⟨line, hln, rfl⟩ := Option.map_eq_some_iff.mp hx
    have hi' : i < (linesS z).length := (List.getElem?_eq_some_iff.mp hln).1
    have hline := hlm line (List.mem_of_getElem? hln)
    have hdr : (linesS z).drop i = line :: (linesS z).drop (i + 1) := by
      have := List.drop_eq_getElem_cons hi'
      rw [(List.getElem?_eq_some_iff.mp hln).2] at this
      exact this
    replace hP := hP.same (Same.newG hT0 (o := .tup [.int (i : Nat), .str line]))
    rw [hdr] at hrun
    have stop : tookLine parts line = none → ∀ H', Wd G R H' → Q (.int (i : Nat)) H' := fun h' H' w' => err i (hrun.trans (runL_stop h')) H' w'
    have go_on : ∀ (ps' : List Part) (σ' : L2.St) (H' : Hp), tookLine parts line = some ps' → (∃ y4 y5 y6 y7, σ' = [some (.str z), some (.ref p0), some (.ref pl), some (.bl (decide (V.str (lastS z) = V.str ""))), y4, y5, y6, y7, none]) → LPs K G2 R pl ps' H' → ∃ y4 y5 y6 y7 ps, σ' = [some (.str z), some (.ref p0), some (.ref pl), some (.bl (decide (V.str (lastS z) = V.str ""))), y4, y5, y6, y7, none] ∧ LPs K G2 R pl ps H' ∧ runL [] 0 (linesS z) = runL ps (i + 1) ((linesS z).drop (i + 1)) ∧ Psz ps (i + 1) ∧ Pok ps :=
      fun ps' σ' H' h' ⟨a4, a5, a6, a7, e⟩ P7 => by
        obtain ⟨k1, k2⟩ := took_keep h' hok hsz
        exact ⟨a4, a5, a6, a7, ps', e, P7, hrun.trans (runL_step h'), k2, k1⟩
    clear hrun
    walk_at "go"
    refine ⟨T0, _, rfl, SqT.of upd_same, rfl, ?_⟩
    walk_at "go"
    obtain ⟨G1', tsA, hla, npl', w⟩ := hP
    obtain ⟨e1, hfA⟩ := hla.froz
    have hsz3 : tsA.length ≤ 1000 := by rw [← Sw.Paired.len hfA]; have := hsz.1; omega
    have s1 : Same G1' (upd G1' pl (.lst (tsA.map V.ref))) := Same.newG npl'
    have hpl : upd G1' pl (.lst (tsA.map V.ref)) pl = some (.lst (tsA.map V.ref)) := upd_same
    generalize upd G1' pl (.lst (tsA.map V.ref)) = GA at w s1 hpl
    refine g_split w (by decide) (by rw [sizeLine_eq]; omega) fun wl H7 nwl w => ?_
    have hw : ∀ x ∈ Txt.split line " ", x.length ≤ 1000000 := fun x hx => Nat.le_trans (word_len hx) hline
    have hwl := split_weight' line
    have sw : 0 < (Txt.split line " ").length := List.length_pos_iff.mpr (split_ne line)
    have tlt := @tl_table parts line
    have tln := @tl_nil line
    have tll := fun init p => @tl_last init p line
    have epw := parseT_pW line
    generalize hws2 : Txt.split line " " = wd at *
    have s2 : Same GA (upd GA wl (.lst (wd.map V.str))) := Same.newG nwl
    have hwlG : upd GA wl (.lst (wd.map V.str)) wl = some (.lst (wd.map V.str)) := upd_same
    have hlwd : wd.length ≤ 1000001 := by unfold weight at hwl; omega
    generalize upd GA wl (.lst (wd.map V.str)) = G3 at w s2 hwlG
    have SA : Same G G3 := Same.trans S2 (Same.trans e1 (Same.trans s1 s2))
    with_reducible refine g_name ?_
    with_reducible refine g_seq ?_
    with_reducible refine g_asg ?_
    refine joinE (C := fun x H' => ∃ G5, Same G3 G5 ∧ Wd G5 R H' ∧ ((∃ c t, pW wd = some c ∧ x = .ref t ∧ G5 t = some (.tup (colTup c)) ∧ G3 t = none) ∨ (pW wd = none ∧ x = .non))) (fun Q2 hQ2 => ?_) ?_
    · walk_at "go"
      refine ⟨rfl, rfl, G3, R, wl, wd, rfl, w, hwlG, hw, sw, fun c hc t G' H' s n q w' => ?_, fun hc H' w' => ?_⟩
      · exact hQ2 _ _ ⟨G', s, w', .inl ⟨c, t, hc, rfl, q, n⟩⟩
      · exact hQ2 _ _ ⟨G3, Same.refl _, w', .inr ⟨hc, rfl⟩⟩
    rintro cx H8 ⟨G5, s5, w, hcx⟩
    have hwl5 := s5 _ _ hwlG
    have hp5 := s5 _ _ (s2 _ _ hpl)
    have S5 : Same G1' G5 := Same.trans s1 (Same.trans s2 s5)
    have SA5 : Same G G5 := Same.trans SA s5
    with_reducible refine g_name ?_
    with_reducible refine g_ifS ?_
    refine joinQ (C := fun b H' => Wd G5 R H' ∧ (b = true ↔ tbLine wd)) (fun QT hQ => ?_) (fun b H2 hb => ?_)
    · walk_at "go"
      refine g_ixW (i := 0) w hwl5 sw ?_
      walk_at "go"
      refine g_eqS rfl ?_
      walk_at "go"
      refine iteD (fun h1 => ?_) (fun h1 => ?_)
      · walk_at "go"
        refine g_lenL w (SqL.of hwl5) ?_
        rw [List.length_map]
        walk_at "go"
        refine g_eqS rfl ?_
        walk_at "go"
        refine iteD (fun h2 => ?_) (fun h2 => ?_)
        · walk_at "go"
          have h2' : wd.length = 2 := by have := V.int.inj h2; omega
          refine g_ixW (i := 1) w hwl5 (by omega) ?_
          walk_at "go"
          refine ⟨rfl, rfl, _, R, _, rfl, w, hw _ (wAt_mem (by omega)), fun H3 w3 => ?_⟩
          walk_at "go"
          refine hQ _ _ ⟨w3, ?_⟩
          exact ⟨fun z => ⟨V.str.inj h1, h2', z⟩, fun z => z.2.2⟩
        · walk_at "go"
          exact hQ _ _ ⟨w, fun z => Bool.noConfusion z, fun z => absurd (congrArg (fun n : Nat => V.int (n : Int)) z.2.1) h2⟩
      · walk_at "go"
        exact hQ _ _ ⟨w, fun z => Bool.noConfusion z, fun z => absurd (congrArg V.str z.1) h1⟩
    obtain ⟨w, hb⟩ := hb
    cases b with
    | true =>
      have ht := hb.mp rfl
      walk_at "go"
      refine g_tyL w hp5 ?_
      walk_at "go"
      refine g_ixW (i := 1) w hwl5 (by have := ht.2.1; omega) ?_
      walk_at "go"
      refine g_newA w (by walk_at "sz") fun c G6 H4 n6 s6 q6 w => ?_
      walk_at "go"
      refine g_newA w (by walk_at "sz") fun g G7 H5 n7 s7 q7 w => ?_
      walk_at "go"
      refine g_newA w (by walk_at "sz") fun t G8 H6 n8 s8 q8 w => ?_
      walk_at "go"
      have p6 := s6 _ _ hp5
      have p8 := s8 _ _ (s7 _ _ p6)
      refine g_app w p8 (by rw [sizeLine_eq, List.length_map]; omega) fun H9 w => ?_
      walk_at "go"
      have S7 : Same G1' G7 := Same.trans S5 (Same.trans s6 s7)
      have n8' := Same.free S7 n8
      have dtp : t ≠ pl := (ne_of_none (s7 _ _ p6) n8).symm
      have dcp : c ≠ pl := (ne_of_none hp5 n6).symm
      have dgp : g ≠ pl := (ne_of_none p6 n7).symm
      have dgc : g ≠ c := (ne_of_none q6 n7).symm
      have dtc : t ≠ c := (ne_of_none (s7 _ _ q6) n8).symm
      have dtg : t ≠ g := (ne_of_none q7 n8).symm
      refine go_on _ _ _ (tlt ht) ⟨_, _, _, _, rfl⟩ (LPs.table (G := upd G1' t (.lst [.str (wAt wd 1), .ref c, .ref g])) (t := t) (c := c) (g := g) (Same.trans e1 (Same.newG n8')) ?_ ?_ ?_ dcp.symm dgp.symm dgc.symm (hfA.same (Same.newG n8')) upd_same
        (Same.setL (Same.updR (Same.trans S7 s8) q8) ?_) ?_ ?_ ?_ w)
      · rw [upd_ne dtp.symm]; exact npl'
      · rw [upd_ne dtc.symm]; exact Same.free S5 n6
      · rw [upd_ne dtg.symm]; exact Same.free (Same.trans S5 s6) n7
      · rw [upd_ne dtp.symm]; exact npl'
      · rw [upd_same, List.map_append]; rfl
      · rw [upd_ne dcp]; exact s8 _ _ (s7 _ _ q6)
      · rw [upd_ne dgp]; exact s8 _ _ q7
    | false =>
      have ht : ¬ tbLine wd := fun z => Bool.noConfusion (hb.mpr z)
      walk_at "go"
      refine g_ixW (i := 0) w hwl5 sw ?_
      walk_at "go"
      refine g_eqS rfl ?_
      walk_at "go"
      rcases hla with ⟨rfl, rfl, _⟩ | ⟨Gb, init, p, ts0, t, cl, gl, as, us, rfl, rfl, e, n1, n2, n3, d1, d2, d3, hf, htp, hc, hg, rfl⟩
      · have bad := stop (tln ht)
        -- no table yet
        have emp : ∀ H', Wd G5 R H' → ∀ Q3 : VK, (∀ H'', Wd G5 R H'' → Q3 (.bl false) H'') → ([] : List V).length ≤ sizeLine ∧ NewO (.lst []) H' (fun y H2 => rNeL0 K (.ref pl) y H2 Q3) := fun H' w' Q3 h3 =>
          g_newA w' (by walk_at "sz") fun q G6 H6 n6 s6 q6 w6 => g_neL0 w6 (SqL.of (s6 _ _ hp5)) (SqL.of q6) (h3 _ (w6.drop s6))
        refine iteD (fun h1 => ?_) (fun h1 => ?_)
        · walk_at "go"
          refine emp _ w _ fun H9 w => ?_
          walk_at "go"
          rcases hcx with ⟨c, t, hc, rfl, _⟩ | ⟨hc, rfl⟩
          · rw [pW_unique (V.str.inj h1)] at hc
            cases hc
          · refine ⟨rfl, _, rfl, ?_⟩
            rw [decide_eq_true (show V.non = V.non from rfl)]
            walk_at "go"
            exact bad _ (w.drop SA5)
        · walk_at "go"
          rcases hcx with ⟨c, t, hc, rfl, _⟩ | ⟨hc, rfl⟩
          · refine ⟨rfl, _, rfl, ?_⟩
            rw [decide_eq_false (show ¬ (V.ref t = V.non) from fun z => nomatch z)]
            walk_at "go"
            refine emp _ w _ fun H9 w => ?_
            walk_at "go"
            exact bad _ (w.drop SA5)
          · refine ⟨rfl, _, rfl, ?_⟩
            rw [decide_eq_true (show V.non = V.non from rfl)]
            walk_at "go"
            exact bad _ (w.drop SA5)
      have hcl : G5 cl = some (.lst (as.map V.ref)) := S5 _ _ (by rw [upd_ne d3]; exact upd_same)
      have hgl : G5 gl = some (.lst us) := S5 _ _ upd_same
      have SG : Same Gb (upd (upd Gb cl (.lst (as.map V.ref))) gl (.lst us)) := Same.setL (Same.newG n2) n3
      have S6 : Same Gb G5 := Same.trans SG S5
      have htp5 := S6 _ _ htp
      have hpz := hsz.2 p (by simp)
      have las : as.length ≤ 1000 := by rw [← Sw.Paired.len hc]; omega
      have lus : us.length ≤ 1000 := by rw [← Sw.Paired.len hg]; omega
      have tl := tll init p ht
      have emp : ((ts0 ++ [t]).map V.ref).isEmpty = false := by rw [List.map_append]; cases ts0 <;> rfl
      have ixl : atI ((ts0 ++ [t]).map V.ref) (-1) = some (.ref t) := atI_neg1 (by simp)
      refine iteD (fun h1 => ?_) (fun h1 => ?_)
      · rw [if_pos (V.str.inj h1)] at tl
        have hcn : cx = .non := by
          rcases hcx with ⟨c, t, hc, _⟩ | ⟨_, hx⟩
          · rw [pW_unique (V.str.inj h1)] at hc
            cases hc
          · exact hx
        subst hcn
        walk_at "go"
        refine g_newA w (by walk_at "sz") fun q G6 H6 n6 s6 q6 w6 => ?_
        refine g_neL0 w6 (SqL.of (s6 _ _ hp5)) (SqL.of q6) ?_
        replace w := w6.drop s6
        rw [emp]
        walk_at "go"
        refine g_lenL w (SqL.of hwl5) ?_
        rw [List.length_map]
        walk_at "go"
        refine iteD (fun h2 => ?_) (fun h2 => ?_)
        · walk_at "go"
          refine iteD (fun h3 => ?_) (fun h3 => ?_)
          · walk_at "go"
            refine g_slLA w (SqL.of hwl5) fun l9 G9 H9 n9 s9 q9 w => ?_
            rw [cut_one] at q9
            refine ⟨l9, rfl, ⟨_, SqL.of (w.get q9)⟩, ?_⟩
            refine lc_it (itf_list (xs := (wd.drop 1).map V.str)) w (fun H e => SqL.of (e _ _ q9)) (by rw [sizeLine_eq, List.length_map, List.length_drop]; omega) (fun j _ acc => acc = (((wd.drop 1).take j).filter fun n => !isNm n).map V.str) rfl ?_ ?_
            · rintro j y Gi acc D Ha Hb hj ej nD rfl ha wj ⟨rfl, hy⟩
              rw [List.getElem?_map] at hy
              obtain ⟨x, hx, rfl⟩ := Option.map_eq_some_iff.mp hy
              have ht1 : ((wd.drop 1).take (j + 1)).filter (fun n => !isNm n) = ((wd.drop 1).take j).filter (fun n => !isNm n) ++ (if isNm x = false then [x] else []) := by
                rw [List.take_add_one, hx, List.filter_append]
                congr 1
                show [x].filter _ = _
                cases e : isNm x <;> simp [e]
              walk_at "go"
              refine ⟨rfl, ?_⟩
              walk_at "go"
              refine ⟨rfl, rfl, _, R, x, rfl, wj, hw x (List.mem_of_mem_drop (List.mem_of_getElem? hx)), fun Hc wc => ?_⟩
              walk_at "go"
              refine iteBN (fun g2 => ?_) (fun g2 => ?_)
              · walk_at "go"
                refine lc_keep (Pv := fun j _ acc => acc = (((wd.drop 1).take j).filter fun n => !isNm n).map V.str) wc ej nD ha hj (by rw [sizeLine_eq, List.length_map, List.length_drop]; omega) ?_
                rw [ht1, if_pos g2, List.map_append]
                rfl
              · walk_at "go"
                refine lc_drop (Pv := fun j _ acc => acc = (((wd.drop 1).take j).filter fun n => !isNm n).map V.str) wc ej nD ha ?_
                rw [ht1, if_neg (by rw [g2]; decide), List.append_nil]
            · rintro D Gn acc Ha ej nD rfl ha w
              rw [List.length_map, List.take_length] at w
              have SD : Same G5 (upd Gn D (.lst (((wd.drop 1).filter fun n => !isNm n).map V.str))) := Same.trans s9 (Same.trans ej (Same.newG nD))
              walk_at "go"
              refine g_newL w (by walk_at "sz") fun q Hq nq wq => ?_
              refine g_neF wq (SqL.of (upd_old upd_same nq)) (SqL.of upd_same) (by rw [List.all_map]; exact List.all_eq_true.mpr fun _ _ => rfl) rfl ?_
              rw [eqVs_nil]
              replace w := (wq.drop (Same.newG nq)).drop SD
              walk_at "go"
              refine iteN (fun g3 => ?_) (fun g3 => ?_)
              · rw [if_neg (fun z => g3 (filter_not_nil.mpr z.2.2))] at tl
                walk_at "go"
                exact stop tl _ (w.drop SA5)
              · rw [if_pos ⟨by omega, by omega, filter_not_nil.mp g3⟩] at tl
                walk_at "go"
                refine g_ixL w (SqL.of hp5) ixl ?_
                walk_at "go"
                refine g_ixL w (SqL.of htp5) (v := .ref gl) rfl ?_
                walk_at "go"
                refine g_tyL w hgl ?_
                walk_at "go"
                refine g_slLA w (SqL.of hwl5) fun l7 G7 H7 n7 s7 q7 w => ?_
                rw [cut_one] at q7
                walk_at "go"
                refine ⟨l7, _, rfl, .inl ⟨SqL.of (w.get q7), fun tp htp7 => ?_⟩⟩
                have n8 := w.free htp7
                replace w := Wd.new w (o := .tup ((wd.drop 1).map V.str)) htp7
                have s8 : Same G7 (upd G7 tp (.tup ((wd.drop 1).map V.str))) := Same.newG n8
                have q8 : upd G7 tp (.tup ((wd.drop 1).map V.str)) tp = some (.tup ((wd.drop 1).map V.str)) := upd_same
                generalize upd G7 tp (.tup ((wd.drop 1).map V.str)) = G8 at w s8 q8
                have S8 : Same G5 G8 := Same.trans s7 s8
                walk_at "go"
                refine g_app w (S8 _ _ hgl) (by rw [sizeLine_eq]; omega) fun H8 w => ?_
                walk_at "go"
                have nS := Same.free (Same.trans S6 s7) n8
                have dgl : tp ≠ gl := (ne_of_none (s7 _ _ hgl) n8).symm
                have dcl : tp ≠ cl := (ne_of_none (s7 _ _ hcl) n8).symm
                have dpl : tp ≠ pl := (ne_of_none (s7 _ _ hp5) n8).symm
                refine go_on _ _ _ tl ⟨_, _, _, _, rfl⟩ (LPs.last (G := upd Gb tp (.tup ((wd.drop 1).map V.str))) (Same.trans e (Same.newG nS)) ?_ ?_ ?_ d1 d2 d3 (hf.same (Same.newG nS)) (t := t) (Same.newG nS _ _ htp) (hc.same (Same.newG nS)) (Sw.Paired.app (hg.same (Same.newG nS)) (.cons ⟨tp, rfl, SqT.of upd_same⟩ .nil)) (Same.setL (Same.updR (Same.trans S6 S8) q8) ?_) ?_ ?_ ?_ w)
                · rw [upd_ne dpl.symm]; exact n1
                · rw [upd_ne dcl.symm]; exact n2
                · rw [upd_ne dgl.symm]; exact n3
                · rw [upd_ne dgl.symm]; exact n3
                · rw [upd_ne d2]; exact S8 _ _ hp5
                · rw [upd_ne d3]; exact S8 _ _ hcl
                · exact upd_same
          · rw [if_neg (fun z => h3 (by omega))] at tl
            walk_at "go"
            refine ⟨rfl, _, rfl, ?_⟩
            rw [decide_eq_true (show V.non = V.non from rfl)]
            walk_at "go"
            exact stop tl _ (w.drop SA5)
        · rw [if_neg (fun z => h2 (by omega))] at tl
          walk_at "go"
          refine ⟨rfl, _, rfl, ?_⟩
          rw [decide_eq_true (show V.non = V.non from rfl)]
          walk_at "go"
          exact stop tl _ (w.drop SA5)
      · rw [if_neg (fun z => h1 (congrArg V.str z)), epw] at tl
        have lug : p.2.2.length = us.length := Sw.Paired.len hg
        walk_at "go"
        rcases hcx with ⟨c, ct, hpc, rfl, hct, nct⟩ | ⟨hpc, rfl⟩
        · refine ⟨rfl, _, rfl, ?_⟩
          rw [decide_eq_false (show ¬ (V.ref ct = V.non) from fun z => nomatch z)]
          walk_at "go"
          refine g_newA w (by walk_at "sz") fun q G6 H6 n6 s6 q6 w6 => ?_
          refine g_neL0 w6 (SqL.of (s6 _ _ hp5)) (SqL.of q6) ?_
          replace w := w6.drop s6
          rw [emp]
          walk_at "go"
          refine g_ixL w (SqL.of hp5) ixl ?_
          walk_at "go"
          refine g_ixL w (SqL.of htp5) (v := .ref gl) rfl ?_
          walk_at "go"
          refine g_newA w (by walk_at "sz") fun q G7 H7 n7 s7 q7 w7 => ?_
          refine g_eqL0 w7 (SqL.of (s7 _ _ hgl)) (SqL.of q7) ?_
          replace w := w7.drop s7
          walk_at "go"
          cases us with
          | cons u us =>
            rw [if_neg (fun z => by rw [z] at lug; cases lug)] at tl
            refine iteF ?_
            walk_at "go"
            exact stop tl _ (w.drop SA5)
          | nil =>
            rw [if_pos (List.length_eq_zero_iff.mp lug), hpc] at tl
            refine iteT ?_
            walk_at "go"
            refine g_ixL w (SqL.of hp5) ixl ?_
            walk_at "go"
            refine g_ixL w (SqL.of htp5) (v := .ref cl) rfl ?_
            walk_at "go"
            refine g_tyL w hcl ?_
            walk_at "go"
            refine g_app w hcl (by rw [sizeLine_eq, List.length_map]; omega) fun H8 w => ?_
            walk_at "go"
            have S3 : Same (upd (upd Gb cl (.lst (as.map V.ref))) gl (.lst [])) G3 := Same.trans s1 s2
            have nS : Gb ct = none := Same.free (Same.trans SG S3) nct
            have dcl : ct ≠ cl := (ne_of_none (S3 _ _ (by rw [upd_ne d3]; exact upd_same)) nct).symm
            have dgl : ct ≠ gl := (ne_of_none (S3 _ _ upd_same) nct).symm
            have dpl : ct ≠ pl := (ne_of_none (s2 _ _ hpl) nct).symm
            refine go_on _ _ _ tl ⟨_, _, _, _, rfl⟩ (LPs.last (G := upd Gb ct (.tup (colTup c))) (Same.trans e (Same.newG nS)) ?_ ?_ ?_ d1 d2 d3 (hf.same (Same.newG nS)) (t := t) (Same.newG nS _ _ htp) (as := as ++ [ct]) (Sw.Paired.app (hc.same (Same.newG nS)) (.cons (SqT.of upd_same) .nil)) (hg.same (Same.newG nS)) (Same.setL (Same.updR S6 hct) ?_) ?_ ?_ ?_ w)
            · rw [upd_ne dpl.symm]; exact n1
            · rw [upd_ne dcl.symm]; exact n2
            · rw [upd_ne dgl.symm]; exact n3
            · rw [upd_ne dcl.symm]; exact n2
            · rw [upd_ne d1]; exact hp5
            · rw [upd_same, List.map_append]; rfl
            · rw [upd_ne d3.symm]; exact hgl
        · refine ⟨rfl, _, rfl, ?_⟩
          rw [decide_eq_true (show V.non = V.non from rfl)]
          rw [hpc] at tl
          walk_at "go"
          refine stop ?_ _ (w.drop SA5)
          rw [tl]
          split <;> rfl
  · rintro σ' H5 ⟨y4, y5, y6, y7, ps, rfl, hP, hrun, hsz, hok⟩
    rw [List.length_map] at hrun hsz
    rw [List.drop_length] at hrun
    replace hrun : runL [] 0 (linesS z) = .inr ps := hrun
    have ek : partsL z = if lastS z = "" then .inr ps else .inl (linesS z).length := by
      unfold partsL
      rw [hrun]
    obtain ⟨G5, ts, s5, hpl, hfr, w⟩ := hP.all
    have S5 : Same G G5 := Same.trans S2 s5
    walk_at "go"
    refine iteD (fun h1 => ?_) (fun h1 => ?_)
    · rw [if_pos (V.str.inj h1)] at ek
      rw [ek] at k
      walk_at "go"
      exact k pl ts G5 H5 S5 hpl hfr hok ⟨Nat.le_trans hsz.1 hll, fun q hq => ⟨Nat.le_trans (hsz.2 q hq).1 hll, Nat.le_trans (hsz.2 q hq).2 hll⟩⟩ w
    · have hn : lastS z ≠ "" := fun z => h1 (congrArg V.str z)
      rw [if_neg hn] at ek
      rw [ek, els, if_neg hn] at k
      walk_at "go"
      refine g_lenL w (SqL.of (s5 _ _ qw)) ?_
      rw [List.length_map]
      exact k _ (w.drop S5)
end
end Sv


set_option Elab.async false
set_option linter.all false
set_option maxRecDepth 100000
set_option maxHeartbeats 4000000
namespace Sv
open PySem PySem.Spec PyProof.Rows L2 Sw
def dups : List Str → List Str → List Str
  | _, [] => []
  | seen, n :: r => (if n ∈ seen then [n] else []) ++ dups (seen ++ [n]) r
theorem dups_app : ∀ (l seen : List Str) (n : Str), dups seen (l ++ [n]) = dups seen l ++ (if n ∈ seen ++ l then [n] else [])
  | [], seen, n => by
    show (if n ∈ seen then [n] else []) ++ [] = [] ++ (if n ∈ seen ++ [] then [n] else [])
    rw [List.append_nil, List.append_nil, List.nil_append]
  | m :: l, seen, n => by
    show (if m ∈ seen then [m] else []) ++ dups (seen ++ [m]) (l ++ [n]) = ((if m ∈ seen then [m] else []) ++ dups (seen ++ [m]) l) ++ _
    rw [dups_app l (seen ++ [m]) n, List.append_assoc, List.append_assoc]
    rfl
theorem dups_take {l : List Str} {i : Nat} {n : Str} (h : l[i]? = some n) : dups [] (l.take (i + 1)) = dups [] (l.take i) ++ (if n ∈ l.take i then [n] else []) := by
  rw [List.take_add_one, h]
  show dups [] (l.take i ++ [n]) = _
  rw [dups_app, List.nil_append]
theorem dups_len : ∀ (l seen : List Str), (dups seen l).length ≤ l.length
  | [], _ => Nat.le_refl _
  | m :: l, seen => by
    show ((if m ∈ seen then [m] else []) ++ dups (seen ++ [m]) l).length ≤ _
    have := dups_len l (seen ++ [m])
    rw [List.length_append, List.length_cons]
    split <;> simp <;> omega
theorem firstDup_head : ∀ (l seen : List Str), firstDup seen l = (dups seen l).head?
  | [], _ => rfl
  | n :: r, seen => by
    show (if n ∈ seen then some n else firstDup (seen ++ [n]) r) = ((if n ∈ seen then [n] else []) ++ dups (seen ++ [n]) r).head?
    by_cases h : n ∈ seen
    · rw [if_pos h, if_pos h]
      rfl
    · rw [if_neg h, if_neg h, List.nil_append]
      exact firstDup_head r (seen ++ [n])
theorem merge_new : ∀ (cs : List Col) (as : List Addr) (acc : List (Key × V)) (seen : List Str), (∀ n, (valV acc (.inr n)).isSome = decide (n ∈ seen)) → firstDup seen (cs.map Col.name) = none → cs.length = as.length → mergeK acc (colKvs cs as) = acc ++ colKvs cs as
  | [], [], acc, _, _, _, _ => by
    show acc = acc ++ []
    rw [List.append_nil]
  | c :: cs, a :: as, acc, seen, h, hd, hl => by
    have hn : c.name ∉ seen := fun z => by
      rw [List.map_cons, firstDup, if_pos z] at hd
      cases hd
    rw [List.map_cons, firstDup, if_neg hn] at hd
    have nv : valV acc (.inr c.name) = none := by
      have := h c.name
      rw [decide_eq_false hn] at this
      cases e : valV acc (.inr c.name) with
      | none => rfl
      | some z => rw [e] at this; cases this
    show mergeK (putK acc (.inr c.name) (.ref a)) (colKvs cs as) = acc ++ ((Sum.inr c.name, V.ref a) :: colKvs cs as)
    rw [putK_new nv, merge_new cs as _ (seen ++ [c.name]) (fun n => ?_) hd (by simpa using hl), List.append_assoc]
    · rfl
    · rw [← valV_any, List.any_append, valV_any, h n]
      have e : decide ((Sum.inr c.name : Key) = Sum.inr n) = decide (n = c.name) := decide_eq_decide.mpr ⟨fun z => (Sum.inr.inj z).symm, fun z => by rw [z]⟩
      show (decide (n ∈ seen) || (decide ((Sum.inr c.name : Key) = Sum.inr n) || false)) = decide (n ∈ seen ++ [c.name])
      rw [e, Bool.or_false]
      apply Bool.eq_iff_iff.mpr
      rw [Bool.or_eq_true, decide_eq_true_eq, decide_eq_true_eq, decide_eq_true_eq, List.mem_append, List.mem_singleton]
theorem nodup_count : ∀ {g : List Str}, g.Nodup ↔ ∀ n ∈ g, ¬ 1 < g.count n
  | [] => ⟨fun _ _ z => absurd z List.not_mem_nil, fun _ => List.nodup_nil⟩
  | m :: l => by
    rw [List.nodup_cons, nodup_count (g := l)]
    constructor
    · rintro ⟨h1, h2⟩ n hn
      rw [List.count_cons]
      by_cases e : m = n
      · subst e
        have : l.count m = 0 := List.count_eq_zero.mpr h1
        rw [this]
        simp
      · have e2 : (m == n) = false := beq_eq_false_iff_ne.mpr e
        rw [e2]
        rcases List.mem_cons.mp hn with z | z
        · exact absurd z.symm e
        · exact h2 n z
    · intro h
      refine ⟨fun z => ?_, fun n hn z => ?_⟩
      · have := h m List.mem_cons_self
        rw [List.count_cons] at this
        have p : 0 < l.count m := List.count_pos_iff.mpr z
        rw [if_pos (beq_self_eq_true m)] at this
        omega
      · have := h n (List.mem_cons_of_mem _ hn)
        rw [List.count_cons] at this
        exact this (by omega)
theorem filter_snoc {p : Str → Bool} {l : List Str} {i : Nat} {n : Str} (h : l[i]? = some n) : (l.take (i + 1)).filter p = (l.take i).filter p ++ (if p n = true then [n] else []) := by
  rw [List.take_add_one, h, List.filter_append]
  congr 1
  show [n].filter p = _
  cases e : p n with
  | true =>
    rw [List.filter_cons_of_pos e]
    rfl
  | false =>
    rw [List.filter_cons_of_neg (by rw [e]; exact Bool.false_ne_true)]
    rfl
def oddL (cs : List Col) (g : List Str) : List Str := g.filter fun n => !(colOf cs n).isSome || decide (1 < g.count n)
def usefulN (cs : List Col) (n : Str) : Bool := match colOf cs n with | some c => useful c | none => false
def goodL (cs : List Col) (g : List Str) : List Str := g.filter (usefulN cs)
theorem isGrp_iff {cs : List Col} {g : List Str} (h3 : g.length ≤ 3) : isGrp cs g = (decide (oddL cs g = []) && !decide (goodL cs g = [])) := by
  have e : isGrp cs g = ((decide (1 ≤ g.length) && decide (g.length ≤ 3)) && (g.all fun n => (colOf cs n).isSome) && decide g.Nodup && (g.any (usefulN cs))) := rfl
  rw [e, decide_eq_true h3, Bool.and_true]
  apply Bool.eq_iff_iff.mpr
  simp only [Bool.and_eq_true, decide_eq_true_eq, List.all_eq_true, List.any_eq_true, Bool.not_eq_true', decide_eq_false_iff_not]
  unfold oddL goodL
  rw [List.filter_eq_nil_iff, List.filter_eq_nil_iff, nodup_count]
  constructor
  · rintro ⟨⟨⟨h1, h2⟩, h4⟩, n, hn, hu⟩
    refine ⟨fun m hm => ?_, fun z => z n hn hu⟩
    rw [h2 m hm, decide_eq_false (h4 m hm)]
    decide
  · rintro ⟨h1, h2⟩
    have h2' : ∃ n ∈ g, usefulN cs n = true := Classical.byContradiction fun z => h2 fun n hn q => z ⟨n, hn, q⟩
    refine ⟨⟨⟨?_, fun m hm => ?_⟩, fun m hm z => ?_⟩, h2'⟩
    · obtain ⟨n, hn, _⟩ := h2'
      exact List.length_pos_of_mem hn
    · have := h1 m hm
      cases q : (colOf cs m).isSome with
      | true => rfl
      | false => rw [q] at this; exact absurd rfl this
    · exact h1 m hm (by rw [decide_eq_true z, Bool.or_true])
end Sv

set_option Elab.async false
set_option linter.all false
set_option maxRecDepth 100000
set_option maxHeartbeats 4000000
namespace Sw
open PySem PySem.Spec PyProof.Rows L2
/-! ### ss.count(s) for texts -/
def rCntS (K : PySem.W.Frag) : V → List V → Hp → VK → Prop := fun x xs H Q => ∃ (p : Addr) (ss : List Str) (k : Str), x = .ref p ∧ xs = [.str k] ∧ SqL K H p (ss.map V.str) ∧ Q (.int (ss.count k : Nat)) H
def eqSt (k : Str) : Value → Bool
  | .str b _ => b == k
  | _ => false
theorem cnt_strs {k : Str} : ∀ {ss : List Str} {us : List Value}, Vals (ss.map V.str) us → us.countP (eqSt k) = ss.count k
  | [], _, .nil => rfl
  | b :: bs, _, .cons r t => by
    obtain ⟨tk, rfl⟩ := r
    rw [List.countP_cons, List.count_cons, cnt_strs t]
    rfl
theorem mem_strs : ∀ {ss : List Str} {us : List Value}, Vals (ss.map V.str) us → ∀ y ∈ us, ∃ b t, y = Value.str b t
  | [], _, .nil, y, h => absurd h List.not_mem_nil
  | b :: bs, _, .cons r t, y, h => by
    obtain ⟨tk, rfl⟩ := r
    rcases List.mem_cons.mp h with rfl | h
    · exact ⟨b, tk, rfl⟩
    · exact mem_strs t y h
theorem mt_scount {X : Cx} (K : PySem.W.Frag) (hK : X.K = K := by rfl) : MtR X "list.count" (rCntS K) := by
  subst hK
  intro pins s σ H x xs v us Q I rx rxs h
  obtain ⟨p, ss, k, rfl, rfl, hs, q⟩ := h
  cases rx
  obtain ⟨u, rfl, ru⟩ := rxs.one
  obtain ⟨tu, rfl⟩ := ru
  obtain ⟨its, rv, ⟨⟨cls, dd, data, sl⟩, n, ho, hc, hdn, hd⟩, hlen⟩ := I.list hs
  simp only at hc hd
  subst hc hd
  refine call_meets PySem.F.slot_list_count ⟨_, ho, rfl⟩ PySem.F.entry_list_count (PySem.F.args_list_count_2 _ _)
    (SeqAt.list_countAt p its.toArray n dd sl (.str k tu) (eqSt k)) ⟨ho, fun y hy => ?_, ?_⟩
  · obtain ⟨b, tb, rfl⟩ := mem_strs rv y (by simpa using hy)
    exact eqAt_V (y := .str b) (x := .str k) ⟨_, rfl⟩ ⟨_, rfl⟩ rfl rfl
  · refine ⟨.int (ss.count k : Nat), H, I.tok _, ⟨s.toks, ?_⟩, q⟩
    show Value.int (((its.toArray.toList.countP (eqSt k)) : Nat) : Int) s.toks = Value.int ((ss.count k : Nat) : Int) s.toks
    rw [show its.toArray.toList = its by simp, cnt_strs rv]
theorem kp_bm {X : Cx} {o e : Expr} {es : List Expr} {to : TE} {t : TA} {name : Str} {apos cpos : Pos} {T id : String} {r : V → List V → Hp → VK → Prop} (K : PySem.W.Frag) (pa : PlainAttrs T) (slot : Slot T name id) (hty : typeOf (.builtin id) = pure (.type "method_descriptor")) (hm : MtR X id r) (ho : PE X o to) (ha : PA X (e :: es) t) (hK : X.K = K := by rfl)
    (hbase : attributeBase o name X.env (eval o X.env) = eval o X.env := by rfl)
    (hfew : ((backTo cpos (starEach (e :: es) X.env)).all (fun x => !x.1) && (backToKw cpos (keywordEach [] X.env)).all (fun x => x.1.isSome)
      && decide ((e :: es).length + ([] : List Keyword).length + (if ([] : List Keyword).isEmpty then 0 else 1) < 30)) = true := by rfl)
    (hline : (apos.endLine == cpos.line) = true := by rfl) (hs : starEach (e :: es) X.env = (false, eval e X.env) :: starEach es X.env := by rfl) (hplain : (backTo cpos (starEach es X.env)).any (·.1) = false := by rfl) :
    PE X (.Call (.Attribute o name apos) (e :: es) [] cpos) (tBM K T r to t) := by subst hK; exact pe_bm pa slot hty hm ho ha hbase hfew hline hs hplain
theorem kg_lst {X : Cx} {pos : Pos} {es : List Expr} {k : Nat} {t : TGs} {n : Nat} (K : PySem.W.Frag) (hc : X.calm = true) (h : PGs X es t) (hK : X.K = K := by rfl)
    (hn : (assignEach es X.env).length = n := by rfl) (hst : (assignEach es X.env).findIdx? (·.1) = none := by rfl) : PG X (.Tuple es k pos) (gLst K n t) := by subst hK; exact pg_lst hc h hn hst
theorem g_lstG {K : PySem.W.Frag} {H : Hp} {σ : L2.St} {m : Nat} {v : V} {t : TGs} {P : L2.St → Hp → Prop} (k : ∃ a xs, v = .ref a ∧ SqL K H a xs ∧ xs.length = m ∧ t xs σ H P) : gLst K m t v σ H P := k
theorem g_scount {G H : Hp} {R : Res} {K : PySem.W.Frag} {Q : VK} {p : Addr} {ss : List Str} {k : Str} (w : Wd G R H) (h : SqL K G p (ss.map V.str)) (q : Q (.int (ss.count k : Nat)) H) : rCntS K (.ref p) [.str k] H Q := ⟨p, ss, k, rfl, rfl, Evl.ex_l w.sub h, q⟩
end Sw

set_option Elab.async false
set_option linter.all false
set_option maxRecDepth 100000
set_option maxHeartbeats 4000000
namespace Sv
open PySem PySem.Spec PyProof.Rows L2 Sw
local macro_rules | `(tactic| walk_at "go1") => `(tactic| first
  | ((with_reducible refine' g_var ?hv ?_); (case hv => rfl))
  | with_reducible refine g_c ?_
  | with_reducible refine g_op ?_
  | with_reducible refine g_un ?_
  | with_reducible refine g_seq ?_
  | with_reducible refine g_next ?_
  | with_reducible refine g_asg ?_
  | with_reducible refine g_name ?_
  | with_reducible refine g_drop ?_
  | with_reducible refine g_sub ?_
  | with_reducible refine g_ret ?_
  | with_reducible refine g_retN ?_
  | with_reducible refine g_ifS ?_
  | with_reducible refine g_if ?_
  | with_reducible refine g_test ?_
  | with_reducible refine g_bl ?_
  | with_reducible refine g_cons ?_
  | with_reducible refine g_nil ?_
  | with_reducible refine g_and ?_
  | with_reducible refine g_or ?_
  | with_reducible refine g_not ?_
  | with_reducible refine g_callB ?_
  | with_reducible refine g_addI ?_
  | with_reducible refine g_I0 ?_
  | with_reducible refine g_calG ?_
  | with_reducible refine g_mkG ?_
  | with_reducible refine g_tup ?_
  | with_reducible refine g_pairs1 ?_
  | with_reducible refine g_pairs0 ?_
  | with_reducible refine g_dget ?_
  | with_reducible refine g_lvals ?_
  | with_reducible refine g_forT ?_
  | with_reducible refine g_lcT ?_
  | with_reducible refine g_dput ?_
  | with_reducible refine g_lc2L ?_
  | with_reducible refine g_iList ?_
  | with_reducible refine g_lcX ?_
  | with_reducible refine g_js1 ?_
  | with_reducible refine g_js0 ?_
  | with_reducible refine g_fmt ?_
  | with_reducible refine g_tLenSet ?_
  | with_reducible refine g_mkV ?_
  | with_reducible refine g_mkV1 ?_
  | with_reducible refine g_lst ?_
  | with_reducible refine g_forL ?_
  | with_reducible refine g_forR ?_
  | with_reducible refine g_forR2 ?_
  | with_reducible refine g_forS ?_
  | with_reducible refine g_forE ?_
  | with_reducible refine g_lcL ?_
  | with_reducible refine g_lcR ?_
  | with_reducible refine g_lcS ?_
  | with_reducible refine g_lcE ?_
  | with_reducible refine g_orT ?_
  | with_reducible refine g_slc ?_
  | with_reducible refine g_noPart ?_
  | with_reducible refine g_part ?_
  | with_reducible refine g_bm ?_
  | with_reducible refine g_par ?_
  | with_reducible refine g_yes ?_
  | with_reducible refine g_tupG ?_
  | with_reducible refine g_lstG ?_
  | with_reducible refine g_gcons ?_
  | with_reducible refine g_gnil ?_
  | with_reducible refine g_chain ?_
  | with_reducible refine g_truB ?_
  | with_reducible refine g_truN ?_
  | with_reducible refine g_truI ?_
  | with_reducible refine g_m1 ?_
  | with_reducible refine g_fld ?_
  | with_reducible refine g_con ?_
  | with_reducible refine g_tru ?_
  | with_reducible refine g_U ?_
  | with_reducible refine g_xg ?_
  | with_reducible refine g_andT ?_
  | with_reducible refine g_exI ?_
  | with_reducible refine g_dnew ?_
  | with_reducible refine g_intB ?_
  | with_reducible refine g_meth ?_
  | with_reducible refine g_prop ?_
  | with_reducible refine g_exc1 ?_
  | with_reducible refine g_setF ?_
  | with_reducible refine g_star ?_
  | with_reducible refine g_strM ?_
  | with_reducible refine iteT ?_
  | with_reducible refine iteF ?_
  | with_reducible refine iteNT ?_
  | with_reducible refine iteNF ?_)
local macro_rules | `(tactic| walk_at "go") => `(tactic| repeat (walk_at "go1"))
local macro_rules | `(tactic| walk_at "sz") => `(tactic| (first | (rw [sizeLine_eq]; simp only [List.length_cons, List.length_nil, List.length_map, List.length_append, List.length_take]; omega) | (rw [sizeLine_eq]; omega)))
section
variable {P : Program} {wo : World} {A : Ad} {K : PySem.W.Frag} {mg : Str → Option Value} {base : Heap}
/-! ### _law_table_wrong -/
def spLTw (K : PySem.W.Frag) : Sp := fun vs H Q _ => ∃ G R cl gl cs as us gs, vs = [.ref cl, .ref gl] ∧ Wd G R H ∧ G cl = some (.lst (as.map V.ref)) ∧ CTs K G cs as ∧ G gl = some (.lst us) ∧ GrpsAt K G gs us ∧ (∀ g ∈ gs, g.length ≤ 3) ∧ as.length ≤ 1000 ∧ us.length ≤ 1000 ∧
  match tabRes true cs (gs.map some) with
  | .ok => ∀ H', Wd G R H' → Q .non H'
  | .col o => ∀ t G' H', Same G G' → G' t = some (.tup [.str "column", optV o]) → Wd G' R H' → Q (.ref t) H'
  | .grp i => ∀ t G' H', Same G G' → G' t = some (.tup [.str "group", .int (i : Nat)]) → Wd G' R H' → Q (.ref t) H'
  | .name => True
theorem colOf_cts {K : PySem.W.Frag} {G : Hp} {n : Str} : ∀ {cs : List Col} {as : List Addr}, CTs K G cs as → (∃ c a, colOf cs n = some c ∧ valV (colKvs cs as) (.inr n) = some (.ref a) ∧ SqT K G a (colTup c) ∧ c ∈ cs) ∨ (colOf cs n = none ∧ valV (colKvs cs as) (.inr n) = none)
  | _, _, .nil => .inr ⟨rfl, rfl⟩
  | c :: cs, a :: as, .cons r t => by
    by_cases h : c.name = n
    · refine .inl ⟨c, a, ?_, ?_, r, List.mem_cons_self⟩
      · unfold colOf
        rw [List.find?_cons_of_pos (by simpa using h)]
      · exact valV_pos (p := (Sum.inr c.name, V.ref a)) (by rw [h])
    · have e1 : colOf (c :: cs) n = colOf cs n := by
        unfold colOf
        rw [List.find?_cons_of_neg (by simpa using h)]
      have e2 : valV (colKvs (c :: cs) (a :: as)) (.inr n) = valV (colKvs cs as) (.inr n) := valV_neg (p := (Sum.inr c.name, V.ref a)) fun z => h (Sum.inr.inj z)
      rw [e1, e2]
      rcases colOf_cts (n := n) t with ⟨c', a', q1, q2, q3, q4⟩ | q
      · exact .inl ⟨c', a', q1, q2, q3, List.mem_cons_of_mem _ q4⟩
      · exact .inr q
theorem cts_has {K : PySem.W.Frag} {G : Hp} {cs : List Col} {as : List Addr} (h : CTs K G cs as) {n : Str} : (valV (colKvs cs as) (.inr n)).isSome = (colOf cs n).isSome := by
  rcases colOf_cts (n := n) h with ⟨c, a, q1, q2, _⟩ | ⟨q1, q2⟩ <;> rw [q1, q2] <;> rfl
theorem ckv_take {cs : List Col} {as : List Addr} (hl : cs.length = as.length) {i : Nat} {c : Col} {a : Addr} (hc : cs[i]? = some c) (ha : as[i]? = some a) : colKvs (cs.take (i + 1)) (as.take (i + 1)) = colKvs (cs.take i) (as.take i) ++ [(Sum.inr c.name, V.ref a)] := by
  unfold colKvs
  rw [List.take_add_one, List.take_add_one, hc, ha]
  have l : (cs.take i).length = (as.take i).length := by rw [List.length_take, List.length_take, hl]
  rw [Option.toList_some, Option.toList_some, List.zip_append l, List.map_append]
  rfl
theorem sc__law_table_wrong : FnScope (["_law_columns", "_law_groups_here", "_law_names_here", "_law_at", "_law_twice", "_law_known", "_law_group", "_law_odd", "_law_good", "_law_column_here", "_law_one"] : List Str) (["_law_columns", "_law_groups_here"] : List Str) (defScope s__law_table_wrong) := ⟨rfl, rfl, rfl, by decide +kernel, rfl, by decide +kernel, by decide +kernel⟩
theorem ok_ltw {f : Addr} {fd : FuncData} (F : Fun K "_law_table_wrong" "_law_table_wrong" s__law_table_wrong f fd) (T : Txt K mg A) : FnOk P wo K mg base (L2.CX P wo) 1 f fd (["_law_columns", "_law_groups_here"] : List Str) (spLTw K) := by
  refine okT F sc__law_table_wrong (fun vs H Q E h => ?_) (fun cdv Ar outer s H vs Q E hr tk po h => ?_)
  · obtain ⟨_, _, _, _, _, _, _, _, rfl, _⟩ := h
    rfl
  obtain ⟨G, R, cl, gl, cs, as, us, gs, rfl, w, hcl, hct, hgl, hgr, h3, las, lus, k⟩ := h
  refine ⟨_, (pss_cons (ps_set (i := 2) sc__law_table_wrong.nd rfl (by first | exact Or.inl rfl | exact Or.inr rfl) (pe_lc (own := [("_law_column_here", 9)]) (g := (gName 9)) (tt := tYes) rfl sc__law_table_wrong.nd (ki_list K (pv 0)) (blkOk_by (N := (["_law_columns", "_law_groups_here", "_law_names_here", "_law_at", "_law_twice", "_law_known", "_law_group", "_law_odd", "_law_good", "_law_column_here", "_law_one"] : List Str)) (sc := defScope s__law_table_wrong) (by decide +kernel)) (fun _ _ _ _ _ => (pg_name (i := 9) sc__law_table_wrong.nd rfl (by first | exact Or.inl rfl | exact Or.inr rfl))) (fun _ _ _ _ _ => pts_nil) (fun _ _ _ _ _ => (pe_ix (ka_ix K) (pv 9) pe_int (fun _ _ => rfl)))))
      (pss_cons (ps_setLc (i := 4) (own := [("_law_at", 3), ("_law_one", 10)]) (g := (gTup K 2 (gCons (gName 3) (gCons (gName 10) gNil)))) (tt := _) rfl sc__law_table_wrong.nd rfl rfl (sw_true rfl rfl rfl (by decide +kernel)) (pi_enum (by rfl) T.nb_enumerate (pa_cons (pv 2) pa_nil)) (blkOk_by (N := (["_law_columns", "_law_groups_here", "_law_names_here", "_law_at", "_law_twice", "_law_known", "_law_group", "_law_odd", "_law_good", "_law_column_here", "_law_one"] : List Str)) (sc := defScope s__law_table_wrong) (by decide +kernel)) (fun _ _ _ _ _ => (kg_tup (n := 2) K rfl (pgs_cons (pg_name (i := 3) sc__law_table_wrong.nd rfl (by first | exact Or.inl rfl | exact Or.inr rfl)) (pgs_cons (pg_name (i := 10) sc__law_table_wrong.nd rfl (by first | exact Or.inl rfl | exact Or.inr rfl)) pgs_nil)))) (fun _ _ _ _ _ => (pts_one (pt_cmpR (ka_in K) (pv 10) (pe_slice (ka_sl K) (pv 2) po_none (po_some (pv 3))) (by first | exact nomark _ | rfl)))) (fun _ _ _ _ _ => (pv 10)))
      (pss_cons (ps_if (PW.pt (pw_or (pt_cmpR (ka_ne K hr.units) (pv 4) (pe_lst pa_nil) (nomark _)) (pw_or1 (pt_cmpR (ka_eq K hr.units) (pv 2) (pe_lst pa_nil) (nomark _))))) (pss_one (ps_ret (pe_tup (pa_cons pe_str (pa_cons (pe_ix (ka_ix K) (pe_op (ka_add K) (pv 4) (pe_lst (pa_cons pe_non pa_nil))) pe_int (fun _ _ => rfl)) pa_nil))))) pss_nil)
      (pss_cons (ps_set (i := 5) sc__law_table_wrong.nd rfl (by first | exact Or.inl rfl | exact Or.inr rfl) (pe_callTy (call_dictP rfl) (by rfl) T.nb_dict (by decide +kernel) (pa_cons (pe_lc (own := [("_law_column_here", 9)]) (g := (gName 9)) (tt := tYes) rfl sc__law_table_wrong.nd (ki_list K (pv 0)) (blkOk_by (N := (["_law_columns", "_law_groups_here", "_law_names_here", "_law_at", "_law_twice", "_law_known", "_law_group", "_law_odd", "_law_good", "_law_column_here", "_law_one"] : List Str)) (sc := defScope s__law_table_wrong) (by decide +kernel)) (fun _ _ _ _ _ => (pg_name (i := 9) sc__law_table_wrong.nd rfl (by first | exact Or.inl rfl | exact Or.inr rfl))) (fun _ _ _ _ _ => pts_nil) (fun _ _ _ _ _ => (pe_tup (pa_cons (pe_ix (ka_ix K) (pv 9) pe_int (fun _ _ => rfl)) (pa_cons (pv 9) pa_nil))))) pa_nil)))
      (pss_cons (ps_for po rfl (pi_enum (by rfl) T.nb_enumerate (pa_cons (pv 1) pa_nil)) (kg_tup (n := 2) K rfl (pgs_cons (pg_name (i := 3) sc__law_table_wrong.nd rfl (by first | exact Or.inl rfl | exact Or.inr rfl)) (pgs_cons (pg_name (i := 6) sc__law_table_wrong.nd rfl (by first | exact Or.inl rfl | exact Or.inr rfl)) pgs_nil))) (pss_cons (ps_setLc (i := 7) (own := [("_law_one", 10)]) (g := (gName 10)) (tt := _) rfl sc__law_table_wrong.nd rfl rfl (sw_true rfl rfl rfl (by decide +kernel)) (ki_tup K (pv 6)) (blkOk_by (N := (["_law_columns", "_law_groups_here", "_law_names_here", "_law_at", "_law_twice", "_law_known", "_law_group", "_law_odd", "_law_good", "_law_column_here", "_law_one"] : List Str)) (sc := defScope s__law_table_wrong) (by decide +kernel)) (fun _ _ _ _ _ => (pg_name (i := 10) sc__law_table_wrong.nd rfl (by first | exact Or.inl rfl | exact Or.inr rfl))) (fun _ _ _ _ _ => (pts_one (PW.pt (pw_or (pt_cmpR (op_niDk (L2.hu_of hr)) (pv 10) (pv 5) (by first | exact nomark _ | rfl)) (pw_or1 (pt_cmpR op_gt (kp_bm K PySem.F.plainAttrs_list PySem.F.slot_list_count PySem.F.type_list_count (mt_scount K) (pe_callTy (ka_list K) (by rfl) T.nb_list (by decide +kernel) (pa_cons (pv 6) pa_nil)) (pa_cons (pv 10) pa_nil)) pe_int (nomark _))))))) (fun _ _ _ _ _ => (pv 10)))
      (pss_cons (ps_setLc (i := 8) (own := [("_law_one", 10)]) (g := (gName 10)) (tt := _) rfl sc__law_table_wrong.nd rfl rfl (sw_true rfl rfl rfl (by decide +kernel)) (ki_tup K (pv 6)) (blkOk_by (N := (["_law_columns", "_law_groups_here", "_law_names_here", "_law_at", "_law_twice", "_law_known", "_law_group", "_law_odd", "_law_good", "_law_column_here", "_law_one"] : List Str)) (sc := defScope s__law_table_wrong) (by decide +kernel)) (fun _ _ _ _ _ => (pg_name (i := 10) sc__law_table_wrong.nd rfl (by first | exact Or.inl rfl | exact Or.inr rfl))) (fun _ _ _ _ _ => (pts_one (PW.pt (pw_and (pt_cmpR (op_inDk (L2.hu_of hr)) (pv 10) (pv 5) (by first | exact nomark _ | rfl)) (pw_and1 (PW.pt (pw_or (pt_cmpR (ka_ne K hr.units) (pe_ix (ka_ix K) (pe_dget (L2.hu_of hr) (pv 5) (pv 10) (fun _ _ => rfl)) pe_int (fun _ _ => rfl)) pe_str (nomark _)) (pw_or1 (kt_truth K (pe_ix (ka_ix K) (pe_dget (L2.hu_of hr) (pv 5) (pv 10) (fun _ _ => rfl)) pe_int (fun _ _ => rfl)) (by intro _; rfl)))))))))) (fun _ _ _ _ _ => (pv 10)))
      (pss_one (ps_if (PW.pt (pw_or (pt_cmpR (ka_ne K hr.units) (pv 7) (pe_lst pa_nil) (nomark _)) (pw_or1 (pt_cmpR (ka_eq K hr.units) (pv 8) (pe_lst pa_nil) (nomark _))))) (pss_one (ps_ret (pe_tup (pa_cons pe_str (pa_cons (pv 3) pa_nil))))) pss_nil)))))
      (pss_one (ps_ret pe_non))))))), ?_⟩
  have ncs : cs.length = as.length := Sw.Paired.len hct
  walk_at "go"
  refine ⟨cl, rfl, ⟨_, SqL.of (w.get hcl)⟩, ?_⟩
  refine lc_it (itf_list (xs := as.map V.ref)) w (fun H e => SqL.of (e _ _ hcl)) (by rw [sizeLine_eq, List.length_map]; omega) (fun i _ acc => acc = ((cs.map Col.name).take i).map V.str) rfl ?_ ?_
  · rintro j y Gi acc D Ha Hb hj ej nD rfl ha wj ⟨rfl, hy⟩
    rw [List.getElem?_map] at hy
    obtain ⟨ca, hca, rfl⟩ := Option.map_eq_some_iff.mp hy
    obtain ⟨cc, hcc, hct2⟩ := Sw.Paired.atR hct hca
    walk_at "go"
    refine ⟨rfl, ?_⟩
    walk_at "go"
    refine g_ixT wj (Evl.ex_t (Same.trans ej (Same.newG nD)) hct2) (colTup1 cc) ?_
    refine lc_keep (Pv := fun i _ acc => acc = ((cs.map Col.name).take i).map V.str) wj ej nD ha hj (by rw [sizeLine_eq, List.length_map]; omega) ?_
    rw [List.take_add_one, List.getElem?_map, hcc]
    simp
  rintro D1 Gn acc Ha ej nD rfl ha w
  rw [List.length_map, ← ncs, List.take_of_length_le (by rw [List.length_map]; exact Nat.le_refl _)] at w
  have S1 : Same G (upd Gn D1 (.lst ((cs.map Col.name).map V.str))) := Same.trans ej (Same.newG nD)
  have q1 : upd Gn D1 (.lst ((cs.map Col.name).map V.str)) D1 = some (.lst ((cs.map Col.name).map V.str)) := upd_same
  generalize upd Gn D1 (.lst ((cs.map Col.name).map V.str)) = G1 at *
  have nln : (cs.map Col.name).length ≤ 1000 := by rw [List.length_map, ncs]; exact las
  have hts : tabRes true cs (gs.map some) = match firstDup [] (cs.map Col.name) with
    | some n => .col (some n)
    | none => if cs = [] then .col none else match (gs.map some).findIdx? fun o => !grpB cs o with
      | some i => .grp i
      | none => .ok := rfl
  rw [firstDup_head] at hts
  have fdn := firstDup_head (cs.map Col.name) []
  walk_at "go"
  refine ⟨D1, _, rfl, Evl.ex_l w.sub (SqL.of q1), ?_⟩
  refine lc_it (itf_enum (xs := (cs.map Col.name).map V.str)) w (fun H e => SqL.of (e _ _ q1)) (by rw [sizeLine_eq, List.length_map]; omega) (fun i _ acc => acc = (dups [] ((cs.map Col.name).take i)).map V.str) rfl ?_ ?_
  · rintro j y Gi acc D Ha Hb hj ej2 nD2 rfl ha wj ⟨T0, x, rfl, hT0, rfl, hx⟩
    rw [List.getElem?_map] at hx
    obtain ⟨nm, hnm, rfl⟩ := Option.map_eq_some_iff.mp hx
    have dt := dups_take hnm
    have wj0 := wj.new (o := .tup [.int (j : Nat), .str nm]) hT0
    have nT := wj.free hT0
    walk_at "go"
    refine ⟨T0, _, rfl, SqT.of upd_same, rfl, ?_⟩
    walk_at "go"
    refine ⟨rfl, ?_⟩
    walk_at "go"
    have qd : upd (upd Gi D (.lst ((dups [] ((cs.map Col.name).take j)).map V.str))) T0 (.tup [.int (j : Nat), .str nm]) D1 = some (.lst ((cs.map Col.name).map V.str)) := upd_old (upd_old (ej2 _ _ q1) nD2) nT
    refine g_slLA wj0 (SqL.of qd) fun l9 G9 H9 n9 s9 q9 w9 => ?_
    rw [cut_hi, ← List.map_take] at q9
    refine g_inL w9 (SqL.of q9) rfl (by rw [List.all_map]; exact List.all_eq_true.mpr fun _ _ => rfl) ?_
    rw [inV_str]
    have w8 := (w9.drop s9).drop (Same.newG nT)
    walk_at "go"
    refine iteD (fun h1 => ?_) (fun h1 => ?_)
    · walk_at "go"
      refine lc_keep (Pv := fun i _ acc => acc = (dups [] ((cs.map Col.name).take i)).map V.str) w8 ej2 nD2 ha hj (by rw [sizeLine_eq, List.length_map]; omega) ?_
      rw [dt, if_pos h1, List.map_append]
      rfl
    · refine lc_drop (Pv := fun i _ acc => acc = (dups [] ((cs.map Col.name).take i)).map V.str) w8 ej2 nD2 ha ?_
      rw [dt, if_neg h1, List.append_nil]
  rintro D2 Gn2 acc2 Hb ej2 nD2 rfl ha2 w
  rw [List.length_map, List.take_length] at w
  have S2 : Same G1 (upd Gn2 D2 (.lst ((dups [] (cs.map Col.name)).map V.str))) := Same.trans ej2 (Same.newG nD2)
  have q2 : upd Gn2 D2 (.lst ((dups [] (cs.map Col.name)).map V.str)) D2 = some (.lst ((dups [] (cs.map Col.name)).map V.str)) := upd_same
  generalize upd Gn2 D2 (.lst ((dups [] (cs.map Col.name)).map V.str)) = G2 at *
  have SG2 := Same.trans S1 S2
  have ldu := dups_len (cs.map Col.name) []
  have flats : ∀ l : List Str, (l.map V.str).all flatV = true := fun l => by rw [List.all_map]; exact List.all_eq_true.mpr fun _ _ => rfl
  -- the return of the first error
  have colq : ∀ (o : Option Str) t G' H', tabRes true cs (gs.map some) = .col o → Same G2 G' → G' t = some (.tup [.str "column", optV o]) → Wd G' R H' → Q (.ref t) H' := fun o t G' H' e s q w' => by
    rw [e] at k
    exact k t G' H' (Same.trans SG2 s) q w'
  walk_at "go"
  refine g_newA w (by walk_at "sz") fun q G3 H3 n3 s3 q3 w3 => ?_
  refine g_neF w3 (SqL.of (s3 _ _ q2)) (SqL.of q3) (flats _) rfl ?_
  replace w := w3.drop s3
  rw [eqVs_nil]
  walk_at "go"
  refine iteN (fun h1 => ?_) (fun h1 => ?_)
  · walk_at "go"
    refine g_newA w (by walk_at "sz") fun q4 G4 H4 n4 s4 q4' w => ?_
    refine g_addLA w (s4 _ _ q2) q4' (by rw [sizeLine_eq, List.length_map]; show _ + 1 ≤ _; omega) fun q5 G5 H5 n5 s5 q5' w => ?_
    walk_at "go"
    cases hd : dups [] (cs.map Col.name) with
    | nil => exact absurd hd h1
    | cons n r =>
      rw [hd] at q5' hts
      refine g_ixL w (SqL.of q5') (v := .str n) (atI_nat (i := 0) rfl) ?_
      walk_at "go"
      refine g_newA w (by walk_at "sz") fun t G6 H6 n6 s6 q6 w => ?_
      exact colq (some n) t G6 H6 hts (Same.trans s4 (Same.trans s5 s6)) q6 w
  rw [h1] at q2 hts fdn
  walk_at "go"
  refine g_newA w (by walk_at "sz") fun q G3 H3 n3 s3 q3 w3 => ?_
  refine g_eqF w3 (SqL.of (s3 _ _ (S2 _ _ q1))) (SqL.of q3) (flats _) rfl ?_
  replace w := w3.drop s3
  rw [eqVs_nil]
  walk_at "go"
  refine iteD (fun h2 => ?_) (fun h2 => ?_)
  · walk_at "go"
    have hcs : cs = [] := List.map_eq_nil_iff.mp h2
    refine g_newA w (by walk_at "sz") fun q4 G4 H4 n4 s4 q4' w => ?_
    refine g_addLA w (s4 _ _ q2) q4' (by rw [sizeLine_eq]; decide) fun q5 G5 H5 n5 s5 q5' w => ?_
    walk_at "go"
    refine g_ixL w (SqL.of q5') (v := .non) (atI_nat (i := 0) rfl) ?_
    walk_at "go"
    refine g_newA w (by walk_at "sz") fun t G6 H6 n6 s6 q6 w => ?_
    refine colq none t G6 H6 ?_ (Same.trans s4 (Same.trans s5 s6)) q6 w
    rw [hts]
    exact if_pos hcs
  have hcs : cs ≠ [] := fun z => h2 (by rw [z]; rfl)
  replace hts : tabRes true cs (gs.map some) = match (gs.map some).findIdx? fun o => !grpB cs o with
      | some i => .grp i
      | none => .ok := hts.trans (if_neg hcs)
  walk_at "go"
  refine ⟨cl, rfl, ⟨_, SqL.of (w.get (SG2 _ _ hcl))⟩, ?_⟩
  refine lc_it (itf_list (xs := as.map V.ref)) w (fun H e => SqL.of (e _ _ (SG2 _ _ hcl))) (by rw [sizeLine_eq, List.length_map]; omega) (fun i Gi acc => ∃ prs : List Addr, acc = prs.map V.ref ∧ Paired (fun p kv => SqT K Gi p [kV kv.1, kv.2]) prs (colKvs (cs.take i) (as.take i))) ⟨[], rfl, .nil⟩ ?_ ?_
  · rintro j y Gi acc D Ha Hb hj ej nD ⟨prs, rfl, hprs⟩ ha wj ⟨rfl, hy⟩
    rw [List.getElem?_map] at hy
    obtain ⟨ca, hca, rfl⟩ := Option.map_eq_some_iff.mp hy
    obtain ⟨cc, hcc, hct2⟩ := Sw.Paired.atR hct hca
    walk_at "go"
    refine ⟨rfl, ?_⟩
    walk_at "go"
    refine g_ixT wj (Evl.ex_t (Same.trans SG2 (Same.trans ej (Same.newG nD))) hct2) (colTup1 cc) ?_
    walk_at "go"
    refine g_newL wj (by walk_at "sz") fun tp Hc ntp wc => ?_
    obtain ⟨t1, t2⟩ := upd_nonne ntp
    rw [upd_comm t2] at wc
    refine lc_keep (Pv := fun i Gi acc => ∃ prs : List Addr, acc = prs.map V.ref ∧ Paired (fun p kv => SqT K Gi p [kV kv.1, kv.2]) prs (colKvs (cs.take i) (as.take i))) wc (Same.trans ej (Same.newG t1)) (by rw [upd_ne t2.symm]; exact nD) ha hj (by rw [sizeLine_eq, List.length_map]; omega) ⟨prs ++ [tp], by rw [List.map_append]; rfl, ?_⟩
    rw [ckv_take ncs hcc hca]
    exact Sw.Paired.app (Sw.Paired.imp (fun _ _ x => Evl.ex_t (Same.newG t1) x) hprs) (.cons (SqT.of upd_same) .nil)
  rintro D3 Gn3 acc3 Hc ej3 nD3 ⟨prs, rfl, hprs⟩ ha3 w
  rw [List.length_map, List.take_of_length_le (Nat.le_refl _), List.take_of_length_le (by rw [ncs]; exact Nat.le_refl _)] at hprs
  have S3 : Same G2 (upd Gn3 D3 (.lst (prs.map V.ref))) := Same.trans ej3 (Same.newG nD3)
  walk_at "go"
  refine ⟨D3, prs, colKvs cs as, rfl, SqL.of (w.get upd_same), Sw.Paired.imp (fun _ _ x => Evl.ex_t w.sub (Evl.ex_t (Same.newG nD3) x)) hprs, fun dp hdp => ?_⟩
  rw [merge_new cs as [] [] (fun _ => rfl) fdn ncs, List.nil_append]
  have ndp := w.free hdp
  replace w := w.new (o := .dK (colKvs cs as)) hdp
  have S4 : Same G2 (upd (upd Gn3 D3 (.lst (prs.map V.ref))) dp (.dK (colKvs cs as))) := Same.trans S3 (Same.newG ndp)
  have qdp : upd (upd Gn3 D3 (.lst (prs.map V.ref))) dp (.dK (colKvs cs as)) dp = some (.dK (colKvs cs as)) := upd_same
  generalize upd (upd Gn3 D3 (.lst (prs.map V.ref))) dp (.dK (colKvs cs as)) = G4 at *
  have SG4 := Same.trans SG2 S4
  walk_at "go"
  have hgl4 := SG4 _ _ hgl
  refine ⟨gl, _, rfl, Evl.ex_l w.sub (SqL.of hgl4), ?_⟩
  refine for_it (itf_enum (xs := us)) (fun i σ' H' => ∃ y3 y6 y7 y8, σ' = [some (.ref cl), some (.ref gl), some (.ref D1), y3, some (.ref D2), some (.ref dp), y6, y7, y8, none, none] ∧ Wd G4 R H' ∧ ∀ o ∈ (gs.map some).take i, grpB cs o = true)
    ⟨_, _, _, _, rfl, w, fun _ z => absurd z List.not_mem_nil⟩ (fun i σ' H' _ h => ?_) ?_ ?_
  · obtain ⟨_, _, _, _, _, w, _⟩ := h
    exact Evl.ex_l w.sub (SqL.of hgl4)
  · rintro i y σ' H5 H6 hi ⟨y3, y6, y7, y8, rfl, w, hpre⟩ ⟨T0, x, rfl, hT0, rfl, hx⟩
    obtain ⟨g, hg, gp, rfl, hgp⟩ := Sw.Paired.atR hgr hx
    have g3 := h3 g (List.mem_of_getElem? hg)
    have hgp4 := Evl.ex_t SG4 hgp
    have w0 := w.new (o := .tup [.int (i : Nat), .ref gp]) hT0
    walk_at "go"
    refine ⟨T0, _, rfl, SqT.of upd_same, rfl, ?_⟩
    replace w := w0.drop (Same.newG (w.free hT0))
    walk_at "go"
    refine ⟨gp, rfl, ⟨_, Evl.ex_t w.sub hgp4⟩, ?_⟩
    refine lc_it (itf_tup (xs := g.map V.str)) w (fun _ e => Evl.ex_t e hgp4) (by rw [sizeLine_eq, List.length_map]; omega) (fun j _ acc => acc = ((g.take j).filter fun n => !(colOf cs n).isSome || decide (1 < g.count n)).map V.str) rfl ?_ ?_
    · rintro j y Gi acc D Ha Hb hj ej nD rfl ha wj ⟨rfl, hy⟩
      rw [List.getElem?_map] at hy
      obtain ⟨n, hn, rfl⟩ := Option.map_eq_some_iff.mp hy
      have ht1 : ((g.take (j + 1)).filter fun n => !(colOf cs n).isSome || decide (1 < g.count n)) = ((g.take j).filter fun n => !(colOf cs n).isSome || decide (1 < g.count n)) ++ (if (!(colOf cs n).isSome || decide (1 < g.count n)) = true then [n] else []) := filter_snoc hn
      have keep : (!(colOf cs n).isSome || decide (1 < g.count n)) = true → ∀ Hc, Wd (upd Gi D (.lst (((g.take j).filter fun n => !(colOf cs n).isSome || decide (1 < g.count n)).map V.str))) R Hc → _ := fun hb Hc wc => lc_keep (y := .str n) (n := (g.map V.str).length) (i := j) (Pv := fun j _ acc => acc = ((g.take j).filter fun n => !(colOf cs n).isSome || decide (1 < g.count n)).map V.str) wc ej nD ha hj (by rw [sizeLine_eq, List.length_map]; omega) (by rw [ht1, if_pos hb, List.map_append]; rfl)
      walk_at "go"
      refine ⟨rfl, ?_⟩
      walk_at "go"
      refine g_niDk wj (upd_old (ej _ _ qdp) nD) ?_
      rw [cts_has hct]
      walk_at "go"
      cases e : (colOf cs n).isSome with
      | false =>
        refine iteNF ?_
        walk_at "go"
        exact keep (by rw [e]; rfl) _ wj
      | true =>
        refine iteNT ?_
        walk_at "go"
        refine g_listT wj (Evl.ex_t (Same.trans ej (Same.newG nD)) hgp4) fun lq Hc nlq wc => ?_
        refine g_tyL wc upd_same ?_
        walk_at "go"
        refine g_scount wc (SqL.of upd_same) ?_
        replace wc := wc.drop (Same.newG nlq)
        walk_at "go"
        have ed : decide ((1 : Int) < ((g.count n : Nat) : Int)) = decide (1 < g.count n) := decide_eq_decide.mpr (by omega)
        rw [ed]
        refine iteD (fun g1 => ?_) (fun g1 => ?_)
        · walk_at "go"
          exact keep (by rw [decide_eq_true g1, Bool.or_true]) _ wc
        · refine lc_drop (Pv := fun j _ acc => acc = ((g.take j).filter fun n => !(colOf cs n).isSome || decide (1 < g.count n)).map V.str) wc ej nD ha ?_
          rw [ht1, e, decide_eq_false g1, if_neg (by decide), List.append_nil]
    rintro D5 Gn5 acc5 Hc ej5 nD5 rfl ha5 w
    rw [List.length_map, List.take_length] at w
    have S5 : Same G4 (upd Gn5 D5 (.lst ((oddL cs g).map V.str))) := Same.trans ej5 (Same.newG nD5)
    have q5 : upd Gn5 D5 (.lst ((oddL cs g).map V.str)) D5 = some (.lst ((oddL cs g).map V.str)) := upd_same
    replace w : Wd (upd Gn5 D5 (.lst ((oddL cs g).map V.str))) R Hc := w
    generalize upd Gn5 D5 (.lst ((oddL cs g).map V.str)) = G5 at *
    have SG5 := Same.trans SG4 S5
    walk_at "go"
    refine ⟨gp, rfl, ⟨_, Evl.ex_t w.sub (Evl.ex_t S5 hgp4)⟩, ?_⟩
    refine lc_it (itf_tup (xs := g.map V.str)) w (fun _ e => Evl.ex_t e (Evl.ex_t S5 hgp4)) (by rw [sizeLine_eq, List.length_map]; omega) (fun j _ acc => acc = ((g.take j).filter (usefulN cs)).map V.str) rfl ?_ ?_
    · rintro j y Gi acc D Ha Hb hj ej nD rfl ha wj ⟨rfl, hy⟩
      rw [List.getElem?_map] at hy
      obtain ⟨n, hn, rfl⟩ := Option.map_eq_some_iff.mp hy
      have ht1 : ((g.take (j + 1)).filter (usefulN cs)) = ((g.take j).filter (usefulN cs)) ++ (if usefulN cs n = true then [n] else []) := filter_snoc hn
      have keep : usefulN cs n = true → ∀ Hc, Wd (upd Gi D (.lst (((g.take j).filter (usefulN cs)).map V.str))) R Hc → _ := fun hb Hc wc => lc_keep (y := .str n) (n := (g.map V.str).length) (i := j) (Pv := fun j _ acc => acc = ((g.take j).filter (usefulN cs)).map V.str) wc ej nD ha hj (by rw [sizeLine_eq, List.length_map]; omega) (by rw [ht1, if_pos hb, List.map_append]; rfl)
      have drop : usefulN cs n = false → ∀ Hc, Wd (upd Gi D (.lst (((g.take j).filter (usefulN cs)).map V.str))) R Hc → _ := fun hb Hc wc => lc_drop (i := j) (Pv := fun j _ acc => acc = ((g.take j).filter (usefulN cs)).map V.str) wc ej nD ha (by rw [ht1, hb, if_neg (by decide), List.append_nil])
      have qd : upd Gi D (.lst (((g.take j).filter (usefulN cs)).map V.str)) dp = some (.dK (colKvs cs as)) := upd_old (ej _ _ (S5 _ _ qdp)) nD
      walk_at "go"
      refine ⟨rfl, ?_⟩
      walk_at "go"
      refine g_inDk wj qd ?_
      rw [cts_has hct]
      walk_at "go"
      rcases colOf_cts (n := n) hct with ⟨cc, ca, c1, c2, c3, c4⟩ | ⟨c1, c2⟩
      · have eu : usefulN cs n = useful cc := by unfold usefulN; rw [c1]
        have hct3 : SqT K (upd Gi D (.lst (((g.take j).filter (usefulN cs)).map V.str))) ca (colTup cc) := Evl.ex_t (Same.trans SG5 (Same.trans ej (Same.newG nD))) c3
        rw [c1]
        refine iteT ?_
        walk_at "go"
        refine g_dgetE wj qd c2 ?_
        refine g_ixT wj hct3 (colTup0 cc) ?_
        walk_at "go"
        refine g_neS rfl ?_
        rw [kstr_ref]
        walk_at "go"
        refine iteN (fun g1 => ?_) (fun g1 => ?_)
        · walk_at "go"
          refine keep ?_ _ wj
          rw [eu]
          unfold useful
          rw [decide_eq_false g1]
          rfl
        · walk_at "go"
          refine g_dgetE wj qd c2 ?_
          refine g_ixT wj hct3 (colTup3 cc) ?_
          walk_at "go"
          have e2 : useful cc = cc.opt := by
            unfold useful
            rw [decide_eq_true g1]
            rfl
          rw [e2] at eu
          cases e3 : cc.opt with
          | true =>
            walk_at "go"
            exact keep (by rw [eu, e3]) _ wj
          | false =>
            walk_at "go"
            exact drop (by rw [eu, e3]) _ wj
      · rw [c1]
        refine iteF ?_
        walk_at "go"
        exact drop (by unfold usefulN; rw [c1]) _ wj
    rintro D6 Gn6 acc6 Hd ej6 nD6 rfl ha6 w
    rw [List.length_map, List.take_length] at w
    have S6 : Same G5 (upd Gn6 D6 (.lst ((goodL cs g).map V.str))) := Same.trans ej6 (Same.newG nD6)
    have q6 : upd Gn6 D6 (.lst ((goodL cs g).map V.str)) D6 = some (.lst ((goodL cs g).map V.str)) := upd_same
    replace w : Wd (upd Gn6 D6 (.lst ((goodL cs g).map V.str))) R Hd := w
    generalize upd Gn6 D6 (.lst ((goodL cs g).map V.str)) = G6 at *
    have gi := isGrp_iff (cs := cs) g3
    have ho : (gs.map some)[i]? = some (some g) := by rw [List.getElem?_map, hg]; rfl
    have bad : isGrp cs g = false → ∀ t G' H', Same G6 G' → G' t = some (.tup [.str "group", .int (i : Nat)]) → Wd G' R H' → Q (.ref t) H' := fun hb t G' H' s q w' => by
      have ek : tabRes true cs (gs.map some) = .grp i := by
        rw [hts]
        have : (gs.map some).findIdx? (fun o => !grpB cs o) = some i := by
          rw [List.findIdx?_eq_some_iff_getElem]
          have hi' := (List.getElem?_eq_some_iff.mp ho)
          refine ⟨hi'.1, by rw [hi'.2]; show (!isGrp cs g) = true; rw [hb]; rfl, fun j hj => ?_⟩
          have hj' : j < (gs.map some).length := by have := hi'.1; omega
          have := hpre (gs.map some)[j] (List.mem_take_iff_getElem.mpr ⟨j, by omega, rfl⟩)
          rw [this]
          simp
        rw [this]
      rw [ek] at k
      exact k t G' H' (Same.trans SG5 (Same.trans S6 s)) q w'
    walk_at "go"
    refine g_newA w (by walk_at "sz") fun q7 G7 H7 n7 s7 q7' w7 => ?_
    refine g_neF w7 (SqL.of (s7 _ _ (S6 _ _ q5))) (SqL.of q7') (flats _) rfl ?_
    replace w := w7.drop s7
    rw [eqVs_nil]
    walk_at "go"
    refine iteN (fun g1 => ?_) (fun g1 => ?_)
    · walk_at "go"
      refine g_newA w (by walk_at "sz") fun t G8 H8 n8 s8 q8 w => ?_
      exact bad (by rw [gi, decide_eq_false g1]; rfl) t G8 H8 s8 q8 w
    walk_at "go"
    refine g_newA w (by walk_at "sz") fun q7 G7 H7 n7 s7 q7' w7 => ?_
    refine g_eqF w7 (SqL.of (s7 _ _ q6)) (SqL.of q7') (flats _) rfl ?_
    replace w := w7.drop s7
    rw [eqVs_nil]
    walk_at "go"
    refine iteD (fun g2 => ?_) (fun g2 => ?_)
    · walk_at "go"
      refine g_newA w (by walk_at "sz") fun t G8 H8 n8 s8 q8 w => ?_
      exact bad (by rw [gi, decide_eq_true g2, Bool.not_true, Bool.and_false]) t G8 H8 s8 q8 w
    walk_at "go"
    refine ⟨_, _, _, _, rfl, w.drop (Same.trans S5 S6), fun o hom => ?_⟩
    rw [List.take_add_one, ho] at hom
    rcases List.mem_append.mp hom with z | z
    · exact hpre o z
    · have : o = some g := by simpa using z
      rw [this]
      show isGrp cs g = true
      rw [gi, decide_eq_true g1, decide_eq_false g2]
      rfl
  · rintro σ' H5 ⟨y3, y6, y7, y8, rfl, w, hpre⟩
    have ek : tabRes true cs (gs.map some) = .ok := by
      rw [hts]
      have : (gs.map some).findIdx? (fun o => !grpB cs o) = none := by
        rw [List.findIdx?_eq_none_iff]
        intro o ho
        rw [hpre o (by rw [List.take_of_length_le (by rw [List.length_map, Sw.Paired.len hgr]; exact Nat.le_refl _)]; exact ho)]
        rfl
      rw [this]
    rw [ek] at k
    walk_at "go"
    exact k _ (w.drop SG4)
end
end Sv


set_option Elab.async false
set_option linter.all false
set_option maxRecDepth 100000
set_option maxHeartbeats 4000000
namespace Sv
open PySem PySem.Spec PyProof.Rows L2 Sw
def errV : PRes → Option (List V)
  | .text i => some [.str "text", .int (i : Nat)]
  | .grp i => some [.str "group", .int (i : Nat)]
  | .name o => some [.str "name", optV o]
  | .col o => some [.str "column", optV o]
  | .unknown n => some [.str "unknown", .str n]
  | .ok _ => none
theorem parseS_parts (s : Str) : parseS s = match partsL s with | .inl i => .text i | .inr ps => schP ps := by
  unfold parseS partsL
  cases runL [] 0 (linesS s) with
  | inl i => rfl
  | inr ps =>
    by_cases h : lastS s = ""
    · show (if lastS s = "" then schP ps else .text (linesS s).length) = match (if lastS s = "" then (.inr ps : Nat ⊕ List Part) else .inl (linesS s).length) with | .inl i => .text i | .inr ps => schP ps
      rw [if_pos h, if_pos h]
    · show (if lastS s = "" then schP ps else .text (linesS s).length) = match (if lastS s = "" then (.inr ps : Nat ⊕ List Part) else .inl (linesS s).length) with | .inl i => .text i | .inr ps => schP ps
      rw [if_neg h, if_neg h]
theorem tabRes_name {cs : List Col} {os : List (Option (List Str))} : tabRes true cs os ≠ .name := fun h => by
  unfold tabRes at h
  rw [if_neg (by decide)] at h
  split at h
  · cases h
  · split at h
    · cases h
    · split at h <;> cases h
theorem dup_names {l : List Str} {n : Str} : firstDup [] l = some n ↔ (dups [] l).head? = some n := by rw [firstDup_head]
/-- the columns of a table that are strange -/
def strL (ns : List Str) (cs : List Col) : List Str := (cs.filter (strange ns)).map Col.target
theorem find_head {p : Col → Bool} : ∀ l : List Col, l.find? p = (l.filter p).head?
  | [] => rfl
  | c :: l => by
    cases e : p c with
    | true =>
      rw [List.find?_cons_of_pos e, List.filter_cons_of_pos e]
      rfl
    | false =>
      rw [List.find?_cons_of_neg (by rw [e]; exact Bool.false_ne_true), List.filter_cons_of_neg (by rw [e]; exact Bool.false_ne_true)]
      exact find_head l
theorem strL_nil {ns : List Str} {cs : List Col} (h : strL ns cs = []) : cs.find? (strange ns) = none := by
  rw [find_head, List.map_eq_nil_iff.mp h]
  rfl
theorem strL_cons {ns : List Str} {cs : List Col} {x : Str} {r : List Str} (h : strL ns cs = x :: r) : ∃ c, cs.find? (strange ns) = some c ∧ c.target = x := by
  unfold strL at h
  rw [find_head]
  cases e : cs.filter (strange ns) with
  | nil => rw [e] at h; cases h
  | cons c l =>
    rw [e] at h
    exact ⟨c, rfl, (List.cons.inj h).1⟩
def colsP (ps : List Part) : List Col := ps.flatMap fun p => p.2.1
theorem allCols_parts (ps : List Part) : allCols (ps.map partTab) = colsP ps := by
  unfold allCols colsP
  rw [List.flatMap_map]
  rfl
theorem names_parts (ps : List Part) : (ps.map partTab).map Tab.name = ps.map (·.1) := by
  rw [List.map_map]
  rfl
end Sv

set_option Elab.async false
set_option linter.all false
set_option maxRecDepth 100000
set_option maxHeartbeats 4000000
namespace Sv
open PySem PySem.Spec PyProof.Rows L2 Sw
local macro_rules | `(tactic| walk_at "go1") => `(tactic| first
  | ((with_reducible refine' g_var ?hv ?_); (case hv => rfl))
  | with_reducible refine g_c ?_
  | with_reducible refine g_op ?_
  | with_reducible refine g_un ?_
  | with_reducible refine g_seq ?_
  | with_reducible refine g_next ?_
  | with_reducible refine g_asg ?_
  | with_reducible refine g_name ?_
  | with_reducible refine g_drop ?_
  | with_reducible refine g_sub ?_
  | with_reducible refine g_ret ?_
  | with_reducible refine g_retN ?_
  | with_reducible refine g_ifS ?_
  | with_reducible refine g_if ?_
  | with_reducible refine g_test ?_
  | with_reducible refine g_bl ?_
  | with_reducible refine g_cons ?_
  | with_reducible refine g_nil ?_
  | with_reducible refine g_and ?_
  | with_reducible refine g_or ?_
  | with_reducible refine g_not ?_
  | with_reducible refine g_callB ?_
  | with_reducible refine g_addI ?_
  | with_reducible refine g_I0 ?_
  | with_reducible refine g_calG ?_
  | with_reducible refine g_mkG ?_
  | with_reducible refine g_tup ?_
  | with_reducible refine g_pairs1 ?_
  | with_reducible refine g_pairs0 ?_
  | with_reducible refine g_dget ?_
  | with_reducible refine g_lvals ?_
  | with_reducible refine g_forT ?_
  | with_reducible refine g_lcT ?_
  | with_reducible refine g_dput ?_
  | with_reducible refine g_lc2L ?_
  | with_reducible refine g_iList ?_
  | with_reducible refine g_lcX ?_
  | with_reducible refine g_js1 ?_
  | with_reducible refine g_js0 ?_
  | with_reducible refine g_fmt ?_
  | with_reducible refine g_tLenSet ?_
  | with_reducible refine g_mkV ?_
  | with_reducible refine g_mkV1 ?_
  | with_reducible refine g_lst ?_
  | with_reducible refine g_forL ?_
  | with_reducible refine g_forR ?_
  | with_reducible refine g_forR2 ?_
  | with_reducible refine g_forS ?_
  | with_reducible refine g_forE ?_
  | with_reducible refine g_lcL ?_
  | with_reducible refine g_lcR ?_
  | with_reducible refine g_lcS ?_
  | with_reducible refine g_lcE ?_
  | with_reducible refine g_orT ?_
  | with_reducible refine g_slc ?_
  | with_reducible refine g_noPart ?_
  | with_reducible refine g_part ?_
  | with_reducible refine g_bm ?_
  | with_reducible refine g_par ?_
  | with_reducible refine g_yes ?_
  | with_reducible refine g_tupG ?_
  | with_reducible refine g_lstG ?_
  | with_reducible refine g_gcons ?_
  | with_reducible refine g_gnil ?_
  | with_reducible refine g_chain ?_
  | with_reducible refine g_truB ?_
  | with_reducible refine g_truN ?_
  | with_reducible refine g_truI ?_
  | with_reducible refine g_m1 ?_
  | with_reducible refine g_fld ?_
  | with_reducible refine g_con ?_
  | with_reducible refine g_tru ?_
  | with_reducible refine g_U ?_
  | with_reducible refine g_xg ?_
  | with_reducible refine g_andT ?_
  | with_reducible refine g_exI ?_
  | with_reducible refine g_dnew ?_
  | with_reducible refine g_intB ?_
  | with_reducible refine g_meth ?_
  | with_reducible refine g_prop ?_
  | with_reducible refine g_exc1 ?_
  | with_reducible refine g_setF ?_
  | with_reducible refine g_star ?_
  | with_reducible refine g_strM ?_
  | with_reducible refine iteT ?_
  | with_reducible refine iteF ?_
  | with_reducible refine iteNT ?_
  | with_reducible refine iteNF ?_)
local macro_rules | `(tactic| walk_at "go") => `(tactic| repeat (walk_at "go1"))
local macro_rules | `(tactic| walk_at "sz") => `(tactic| (first | (rw [sizeLine_eq]; simp only [List.length_cons, List.length_nil, List.length_map, List.length_append, List.length_take]; omega) | (rw [sizeLine_eq]; omega)))
/-- what the text says of int -/
structure KiF (K : PySem.W.Frag) : Prop where
  ii : PySem.W.kitOne K (.type "int") (.type "int") = some true
  li : PySem.W.kitOne K (.type "list") (.type "int") = some false
section
variable {P : Program} {wo : World} {A : Ad} {K : PySem.W.Frag} {mg : Str → Option Value} {base : Heap}
/-! ### _law_due -/
def spLDue (K : PySem.W.Frag) : Sp := fun vs H Q _ => ∃ G R s, vs = [.str s] ∧ Wd G R H ∧ s.length ≤ 1000000 ∧ (Txt.split s "\n").length ≤ 1000 ∧
  (∀ xs, errV (parseS s) = some xs → ∀ t G' H', Same G G' → G' t = some (.tup xs) → Wd G' R H' → Q (.ref t) H') ∧ (errV (parseS s) = none → ∀ H', Wd G R H' → Q .non H')
theorem sc__law_due : FnScope (["_law_text", "_law_parts_here", "_law_name", "_law_columns", "_law_groups_here", "_law_wrong", "_law_names_here", "_law_twice", "_law_strange", "_law_at", "_law_column_here", "_law_one", "_law_part"] : List Str) (["_law_text"] : List Str) (defScope s__law_due) := ⟨rfl, rfl, rfl, by decide +kernel, rfl, by decide +kernel, by decide +kernel⟩
theorem ok_ldue {f : Addr} {fd : FuncData} (F : Fun K "_law_due" "_law_due" s__law_due f fd) (T : Txt K mg A) (KI : KiF K) (Glp : GFn P wo K mg base 3 "_law_parts" 1 [] (fun vs _ => spLParts K vs)) (Gltw : GFn P wo K mg base 1 "_law_table_wrong" 2 [] (fun vs _ => spLTw K vs)) : FnOk P wo K mg base (L2.CX P wo) 4 f fd (["_law_text"] : List Str) (spLDue K) := by
  refine okT F sc__law_due (fun vs H Q E h => ?_) (fun cdv Ar outer s H vs Q E hr tk po h => ?_)
  · obtain ⟨_, _, _, rfl, _⟩ := h
    rfl
  obtain ⟨G, R, z, rfl, w, hz, hl, k1, k2⟩ := h
  refine ⟨_, (pss_cons (ps_set (i := 1) sc__law_due.nd rfl (by first | exact Or.inl rfl | exact Or.inr rfl) (pe_callG Glp (hr.mono (by decide)) tk (pa_cons (pv 0) pa_nil) pk_nil))
      (pss_cons (ps_if (kt_truth K (pe_callB (ka_isi K) (by rfl) T.nb_isinstance (by decide +kernel) (pa_cons (pv 1) (pa_cons (pe_bltn (v := .ty "int") (u := .type "int") (by rfl) T.nb_int (by decide +kernel) rfl) pa_nil))) (by intro _; rfl)) (pss_one (ps_ret (pe_tup (pa_cons pe_str (pa_cons (pv 1) pa_nil))))) pss_nil)
      (pss_cons (ps_for po rfl (ki_list K (pv 1)) (kg_lst (n := 3) K rfl (pgs_cons (pg_name (i := 2) sc__law_due.nd rfl (by first | exact Or.inl rfl | exact Or.inr rfl)) (pgs_cons (pg_name (i := 3) sc__law_due.nd rfl (by first | exact Or.inl rfl | exact Or.inr rfl)) (pgs_cons (pg_name (i := 4) sc__law_due.nd rfl (by first | exact Or.inl rfl | exact Or.inr rfl)) pgs_nil)))) (pss_cons (ps_set (i := 5) sc__law_due.nd rfl (by first | exact Or.inl rfl | exact Or.inr rfl) (pe_callG Gltw (hr.mono (by decide)) tk (pa_cons (pv 3) (pa_cons (pv 4) pa_nil)) pk_nil))
      (pss_one (ps_if (pt_cmpR op_notN (pv 5) pe_non (nomark _)) (pss_one (ps_ret (pv 5))) pss_nil))))
      (pss_cons (ps_set (i := 6) sc__law_due.nd rfl (by first | exact Or.inl rfl | exact Or.inr rfl) (pe_lc (own := [("_law_part", 12)]) (g := (gName 12)) (tt := tYes) rfl sc__law_due.nd (ki_list K (pv 1)) (blkOk_by (N := (["_law_text", "_law_parts_here", "_law_name", "_law_columns", "_law_groups_here", "_law_wrong", "_law_names_here", "_law_twice", "_law_strange", "_law_at", "_law_column_here", "_law_one", "_law_part"] : List Str)) (sc := defScope s__law_due) (by decide +kernel)) (fun _ _ _ _ _ => (pg_name (i := 12) sc__law_due.nd rfl (by first | exact Or.inl rfl | exact Or.inr rfl))) (fun _ _ _ _ _ => pts_nil) (fun _ _ _ _ _ => (pe_ix (ka_ix K) (pv 12) pe_int (fun _ _ => rfl)))))
      (pss_cons (ps_setLc (i := 7) (own := [("_law_at", 9), ("_law_one", 11)]) (g := (gTup K 2 (gCons (gName 9) (gCons (gName 11) gNil)))) (tt := _) rfl sc__law_due.nd rfl rfl (sw_true rfl rfl rfl (by decide +kernel)) (pi_enum (by rfl) T.nb_enumerate (pa_cons (pv 6) pa_nil)) (blkOk_by (N := (["_law_text", "_law_parts_here", "_law_name", "_law_columns", "_law_groups_here", "_law_wrong", "_law_names_here", "_law_twice", "_law_strange", "_law_at", "_law_column_here", "_law_one", "_law_part"] : List Str)) (sc := defScope s__law_due) (by decide +kernel)) (fun _ _ _ _ _ => (kg_tup (n := 2) K rfl (pgs_cons (pg_name (i := 9) sc__law_due.nd rfl (by first | exact Or.inl rfl | exact Or.inr rfl)) (pgs_cons (pg_name (i := 11) sc__law_due.nd rfl (by first | exact Or.inl rfl | exact Or.inr rfl)) pgs_nil)))) (fun _ _ _ _ _ => (pts_one (pt_cmpR (ka_in K) (pv 11) (pe_slice (ka_sl K) (pv 6) po_none (po_some (pv 9))) (by first | exact nomark _ | rfl)))) (fun _ _ _ _ _ => (pv 11)))
      (pss_cons (ps_if (PW.pt (pw_or (pt_cmpR (ka_ne K hr.units) (pv 7) (pe_lst pa_nil) (nomark _)) (pw_or1 (pt_cmpR (ka_eq K hr.units) (pv 6) (pe_lst pa_nil) (nomark _))))) (pss_one (ps_ret (pe_tup (pa_cons pe_str (pa_cons (pe_ix (ka_ix K) (pe_op (ka_add K) (pv 7) (pe_lst (pa_cons pe_non pa_nil))) pe_int (fun _ _ => rfl)) pa_nil))))) pss_nil)
      (pss_cons (ps_for po rfl (ki_list K (pv 1)) (kg_lst (n := 3) K rfl (pgs_cons (pg_name (i := 2) sc__law_due.nd rfl (by first | exact Or.inl rfl | exact Or.inr rfl)) (pgs_cons (pg_name (i := 3) sc__law_due.nd rfl (by first | exact Or.inl rfl | exact Or.inr rfl)) (pgs_cons (pg_name (i := 4) sc__law_due.nd rfl (by first | exact Or.inl rfl | exact Or.inr rfl)) pgs_nil)))) (pss_cons (ps_setLc (i := 8) (own := [("_law_column_here", 10)]) (g := (gName 10)) (tt := _) rfl sc__law_due.nd rfl rfl (sw_true rfl rfl rfl (by decide +kernel)) (ki_list K (pv 3)) (blkOk_by (N := (["_law_text", "_law_parts_here", "_law_name", "_law_columns", "_law_groups_here", "_law_wrong", "_law_names_here", "_law_twice", "_law_strange", "_law_at", "_law_column_here", "_law_one", "_law_part"] : List Str)) (sc := defScope s__law_due) (by decide +kernel)) (fun _ _ _ _ _ => (pg_name (i := 10) sc__law_due.nd rfl (by first | exact Or.inl rfl | exact Or.inr rfl))) (fun _ _ _ _ _ => (pts_one (PW.pt (pw_and (pt_cmpR (ka_eq K hr.units) (pe_ix (ka_ix K) (pv 10) pe_int (fun _ _ => rfl)) pe_str (nomark _)) (pw_and1 (pt_cmpR (ka_ni K) (pe_ix (ka_ix K) (pv 10) pe_int (fun _ _ => rfl)) (pv 6) (by first | exact nomark _ | rfl))))))) (fun _ _ _ _ _ => (pe_ix (ka_ix K) (pv 10) pe_int (fun _ _ => rfl))))
      (pss_one (ps_if (pt_cmpR (ka_ne K hr.units) (pv 8) (pe_lst pa_nil) (nomark _)) (pss_one (ps_ret (pe_tup (pa_cons pe_str (pa_cons (pe_ix (ka_ix K) (pv 8) pe_int (fun _ _ => rfl)) pa_nil))))) pss_nil))))
      (pss_one (ps_ret pe_non))))))))), ?_⟩
  rw [parseS_parts] at k1 k2
  walk_at "go"
  refine ⟨rfl, rfl, G, R, z, rfl, w, hz, hl, ?_⟩
  cases ep : partsL z with
  | inl i =>
    rw [ep] at k1
    intro H1 w
    walk_at "go"
    refine g_isi (.ty _) (.base (.int _)) KI.ii ?_
    walk_at "go"
    refine g_newA w (by walk_at "sz") fun t G3 H3 n3 s3 q3 w => ?_
    exact k1 _ rfl t G3 H3 s3 q3 w
  | inr ps =>
    rw [ep] at k1 k2
    intro pl ts G1 H1 S1 hpl hfr hok hsz w
    have esp : schP ps = match partsErr ps with
      | some e => e
      | none => match schRes (ps.map partTab) with
        | .name o => .name o
        | .unknown n => .unknown n
        | .ok => .ok (ps.map partTab) := rfl
    have lts : ts.length ≤ 1000 := by rw [← Sw.Paired.len hfr]; exact hsz.1
    walk_at "go"
    refine g_isi (.ty _) (.base (.lst (w.get hpl))) KI.li ?_
    walk_at "go"
    refine ⟨pl, rfl, ⟨_, SqL.of (w.get hpl)⟩, ?_⟩
    have fin : ∀ e xs, schP ps = e → errV e = some xs → ∀ t G' H', Same G1 G' → G' t = some (.tup xs) → Wd G' R H' → Q (.ref t) H' := fun e xs h1 h2 t G' H' s q w' => k1 xs (by show errV (schP ps) = _; rw [h1]; exact h2) t G' H' (Same.trans S1 s) q w'
    refine for_it (itf_list (xs := ts.map V.ref)) (fun i σ' H' => ∃ y2 y3 y4 y5, σ' = [some (.str z), some (.ref pl), y2, y3, y4, y5, none, none, none, none, none, none, none] ∧ Wd G1 R H' ∧ partsErr ps = partsErr (ps.drop i))
      ⟨_, _, _, _, rfl, w, rfl⟩ (fun i σ' H' _ h => ?_) ?_ ?_
    · obtain ⟨_, _, _, _, _, w, _⟩ := h
      exact Evl.ex_l w.sub (SqL.of hpl)
    · rintro i y σ' H5 H6 hi ⟨y2, y3, y4, y5, rfl, w, herr⟩ ⟨rfl, hy⟩
      rw [List.getElem?_map] at hy
      obtain ⟨t, ht, rfl⟩ := Option.map_eq_some_iff.mp hy
      obtain ⟨p, hp, cl, gl, as, us, ht1, hcl, hca, hgl, hga⟩ := Sw.Paired.atR hfr ht
      have hmem := List.mem_of_getElem? hp
      obtain ⟨ok1, ok2, ok3⟩ := hok p hmem
      obtain ⟨sz1, sz2⟩ := hsz.2 p hmem
      have las : as.length ≤ 1000 := by rw [← Sw.Paired.len hca]; exact sz1
      have lus : us.length ≤ 1000 := by rw [← Sw.Paired.len hga]; exact sz2
      have hdr : ps.drop i = p :: ps.drop (i + 1) := by
        have := List.drop_eq_getElem_cons (List.getElem?_eq_some_iff.mp hp).1
        rw [(List.getElem?_eq_some_iff.mp hp).2] at this
        exact this
      rw [hdr] at herr
      have hpe : partsErr (p :: ps.drop (i + 1)) = match tabRes true p.2.1 (p.2.2.map some) with
        | .name => some (.name (some p.1))
        | .col o => some (.col o)
        | .grp i => some (.grp i)
        | .ok => partsErr (ps.drop (i + 1)) := rfl
      rw [hpe] at herr
      walk_at "go"
      refine ⟨t, _, rfl, SqL.of (w.get ht1), rfl, ?_⟩
      walk_at "go"
      refine ⟨rfl, rfl, G1, R, cl, gl, p.2.1, as, us, p.2.2, rfl, w, hcl, hca, hgl, hga, ok3, las, lus, ?_⟩
      have ret : ∀ e xs, partsErr ps = some e → errV e = some xs → ∀ t G' H', Same G1 G' → G' t = some (.tup xs) → Wd G' R H' → Q (.ref t) H' := fun e xs h1 h2 => fin e xs (by rw [esp, h1]) h2
      cases er : tabRes true p.2.1 (p.2.2.map some) with
      | name => exact absurd er tabRes_name
      | col o =>
        rw [er] at herr
        intro t G' H' s q w
        walk_at "go"
        refine ⟨rfl, _, rfl, ?_⟩
        rw [decide_eq_false (show ¬ (V.ref t = V.non) from fun z => nomatch z)]
        walk_at "go"
        exact ret (.col o) _ herr rfl t G' _ s q w
      | grp j =>
        rw [er] at herr
        intro t G' H' s q w
        walk_at "go"
        refine ⟨rfl, _, rfl, ?_⟩
        rw [decide_eq_false (show ¬ (V.ref t = V.non) from fun z => nomatch z)]
        walk_at "go"
        exact ret (.grp j) _ herr rfl t G' _ s q w
      | ok =>
        rw [er] at herr
        intro H7 w
        walk_at "go"
        refine ⟨rfl, _, rfl, ?_⟩
        rw [decide_eq_true (show V.non = V.non from rfl)]
        walk_at "go"
        exact ⟨_, _, _, _, rfl, w, herr⟩
    · rintro σ' H5 ⟨y2, y3, y4, y5, rfl, w, herr⟩
      rw [List.length_map, ← Sw.Paired.len hfr, List.drop_length] at herr
      replace herr : partsErr ps = none := herr
      rw [herr] at esp
      replace esp : schP ps = match schRes (ps.map partTab) with
        | .name o => .name o
        | .unknown n => .unknown n
        | .ok => .ok (ps.map partTab) := esp
      have esr : schRes (ps.map partTab) = match firstDup [] (ps.map (·.1)) with
        | some n => .name (some n)
        | none => if ps.map partTab = [] then .name none else match (colsP ps).find? (strange (ps.map (·.1))) with
          | some c => .unknown c.target
          | none => .ok := by
        unfold schRes
        rw [allCols_parts, names_parts]
        all_goals rfl
      have lps : (ps.map (·.1)).length ≤ 1000 := by rw [List.length_map]; exact hsz.1
      walk_at "go"
      refine ⟨pl, rfl, ⟨_, SqL.of (w.get hpl)⟩, ?_⟩
      refine lc_it (itf_list (xs := ts.map V.ref)) w (fun H e => SqL.of (e _ _ hpl)) (by rw [sizeLine_eq, List.length_map]; omega) (fun i _ acc => acc = ((ps.map (·.1)).take i).map V.str) rfl ?_ ?_
      · rintro j y Gi acc D Ha Hb hj ej nD rfl ha wj ⟨rfl, hy⟩
        rw [List.getElem?_map] at hy
        obtain ⟨t, ht, rfl⟩ := Option.map_eq_some_iff.mp hy
        obtain ⟨p, hp, cl, gl, as, us, ht1, hcl, hca, hgl, hga⟩ := Sw.Paired.atR hfr ht
        walk_at "go"
        refine ⟨rfl, ?_⟩
        walk_at "go"
        refine g_ixL wj (SqL.of (upd_old (ej _ _ ht1) nD)) (v := .str p.1) (atI_nat (i := 0) rfl) ?_
        refine lc_keep (Pv := fun i _ acc => acc = ((ps.map (·.1)).take i).map V.str) wj ej nD ha hj (by rw [sizeLine_eq, List.length_map]; omega) ?_
        rw [List.take_add_one, List.getElem?_map, hp]
        simp
      rintro D1 Gn acc Ha ej nD rfl ha w
      rw [List.length_map, ← Sw.Paired.len hfr, List.take_of_length_le (by rw [List.length_map]; exact Nat.le_refl _)] at w
      have S2 : Same G1 (upd Gn D1 (.lst ((ps.map (·.1)).map V.str))) := Same.trans ej (Same.newG nD)
      have q2 : upd Gn D1 (.lst ((ps.map (·.1)).map V.str)) D1 = some (.lst ((ps.map (·.1)).map V.str)) := upd_same
      generalize upd Gn D1 (.lst ((ps.map (·.1)).map V.str)) = G2 at *
      have NM : ∃ ns : List Str, ns = ps.map (·.1) := ⟨_, rfl⟩
      obtain ⟨ns, hns⟩ := NM
      rw [← hns] at q2 esr lps
      have fdn := firstDup_head ns []
      rw [fdn] at esr
      walk_at "go"
      refine ⟨D1, _, rfl, Evl.ex_l w.sub (SqL.of q2), ?_⟩
      refine lc_it (itf_enum (xs := ns.map V.str)) w (fun H e => SqL.of (e _ _ q2)) (by rw [sizeLine_eq, List.length_map]; omega) (fun i _ acc => acc = (dups [] (ns.take i)).map V.str) rfl ?_ ?_
      · rintro j y Gi acc D Ha Hb hj ej2 nD2 rfl ha wj ⟨T0, x, rfl, hT0, rfl, hx⟩
        rw [List.getElem?_map] at hx
        obtain ⟨nm, hnm, rfl⟩ := Option.map_eq_some_iff.mp hx
        have dt := dups_take hnm
        have wj0 := wj.new (o := .tup [.int (j : Nat), .str nm]) hT0
        have nT := wj.free hT0
        walk_at "go"
        refine ⟨T0, _, rfl, SqT.of upd_same, rfl, ?_⟩
        walk_at "go"
        refine ⟨rfl, ?_⟩
        walk_at "go"
        have qd : upd (upd Gi D (.lst ((dups [] (ns.take j)).map V.str))) T0 (.tup [.int (j : Nat), .str nm]) D1 = some (.lst (ns.map V.str)) := upd_old (upd_old (ej2 _ _ q2) nD2) nT
        refine g_slLA wj0 (SqL.of qd) fun l9 G9 H9 n9 s9 q9 w9 => ?_
        rw [cut_hi, ← List.map_take] at q9
        refine g_inL w9 (SqL.of q9) rfl (by rw [List.all_map]; exact List.all_eq_true.mpr fun _ _ => rfl) ?_
        rw [inV_str]
        have w8 := (w9.drop s9).drop (Same.newG nT)
        walk_at "go"
        refine iteD (fun h1 => ?_) (fun h1 => ?_)
        · walk_at "go"
          refine lc_keep (Pv := fun i _ acc => acc = (dups [] (ns.take i)).map V.str) w8 ej2 nD2 ha hj (by rw [sizeLine_eq, List.length_map]; omega) ?_
          rw [dt, if_pos h1, List.map_append]
          rfl
        · refine lc_drop (Pv := fun i _ acc => acc = (dups [] (ns.take i)).map V.str) w8 ej2 nD2 ha ?_
          rw [dt, if_neg h1, List.append_nil]
      rintro D2 Gn2 acc2 Hb ej2 nD2 rfl ha2 w
      rw [List.length_map, List.take_length] at w
      have S3 : Same G2 (upd Gn2 D2 (.lst ((dups [] ns).map V.str))) := Same.trans ej2 (Same.newG nD2)
      have q3 : upd Gn2 D2 (.lst ((dups [] ns).map V.str)) D2 = some (.lst ((dups [] ns).map V.str)) := upd_same
      generalize upd Gn2 D2 (.lst ((dups [] ns).map V.str)) = G3 at *
      have S13 := Same.trans S2 S3
      have ldu := dups_len ns []
      have flats : ∀ l : List Str, (l.map V.str).all flatV = true := fun l => by rw [List.all_map]; exact List.all_eq_true.mpr fun _ _ => rfl
      walk_at "go"
      refine g_newA w (by walk_at "sz") fun q G4 H3 n4 s4 q4 w3 => ?_
      refine g_neF w3 (SqL.of (s4 _ _ q3)) (SqL.of q4) (flats _) rfl ?_
      replace w := w3.drop s4
      rw [eqVs_nil]
      walk_at "go"
      refine iteN (fun h1 => ?_) (fun h1 => ?_)
      · walk_at "go"
        refine g_newA w (by walk_at "sz") fun q4 G4 H4 n4 s4 q4' w => ?_
        refine g_addLA w (s4 _ _ q3) q4' (by rw [sizeLine_eq, List.length_map]; show _ + 1 ≤ _; omega) fun q5 G5 H5 n5 s5 q5' w => ?_
        walk_at "go"
        cases hd : dups [] ns with
        | nil => exact absurd hd h1
        | cons n r =>
          rw [hd] at q5' esr
          refine g_ixL w (SqL.of q5') (v := .str n) (atI_nat (i := 0) rfl) ?_
          walk_at "go"
          refine g_newA w (by walk_at "sz") fun t G6 H6 n6 s6 q6 w => ?_
          exact fin (.name (some n)) _ (by rw [esp, esr]; rfl) rfl t G6 H6 (Same.trans S13 (Same.trans s4 (Same.trans s5 s6))) q6 w
      rw [h1] at q3 esr
      replace esr : schRes (ps.map partTab) = if ps.map partTab = [] then .name none else match (colsP ps).find? (strange ns) with
          | some c => .unknown c.target
          | none => .ok := esr
      walk_at "go"
      refine g_newA w (by walk_at "sz") fun q G4 H3 n4 s4 q4 w3 => ?_
      refine g_eqF w3 (SqL.of (s4 _ _ (S3 _ _ q2))) (SqL.of q4) (flats _) rfl ?_
      replace w := w3.drop s4
      rw [eqVs_nil]
      walk_at "go"
      refine iteD (fun h2 => ?_) (fun h2 => ?_)
      · walk_at "go"
        have hps : ps = [] := by rw [hns] at h2; exact List.map_eq_nil_iff.mp h2
        refine g_newA w (by walk_at "sz") fun q4 G4 H4 n4 s4 q4' w => ?_
        refine g_addLA w (s4 _ _ q3) q4' (by rw [sizeLine_eq]; decide) fun q5 G5 H5 n5 s5 q5' w => ?_
        walk_at "go"
        refine g_ixL w (SqL.of q5') (v := .non) (atI_nat (i := 0) rfl) ?_
        walk_at "go"
        refine g_newA w (by walk_at "sz") fun t G6 H6 n6 s6 q6 w => ?_
        refine fin (.name none) _ (by rw [esp, esr, if_pos (by rw [hps]; rfl)]) rfl t G6 H6 (Same.trans S13 (Same.trans s4 (Same.trans s5 s6))) q6 w
      have hps : ¬ ps.map partTab = [] := fun z => h2 (by rw [hns, List.map_eq_nil_iff.mp z]; rfl)
      rw [if_neg hps] at esr
      walk_at "go"
      have hpl3 := S13 _ _ hpl
      refine ⟨pl, rfl, ⟨_, SqL.of (w.get hpl3)⟩, ?_⟩
      refine for_it (itf_list (xs := ts.map V.ref)) (fun i σ' H' => ∃ y2 y3 y4 y8, σ' = [some (.str z), some (.ref pl), y2, y3, y4, y5, some (.ref D1), some (.ref D2), y8, none, none, none, none] ∧ Wd G3 R H' ∧ (colsP ps).find? (strange ns) = (colsP (ps.drop i)).find? (strange ns))
        ⟨_, _, _, _, rfl, w, rfl⟩ (fun i σ' H' _ h => ?_) ?_ ?_
      · obtain ⟨_, _, _, _, _, w, _⟩ := h
        exact Evl.ex_l w.sub (SqL.of hpl3)
      · rintro i y σ' H5 H6 hi ⟨y2, y3, y4, y8, rfl, w, hfd⟩ ⟨rfl, hy⟩
        rw [List.getElem?_map] at hy
        obtain ⟨t, ht, rfl⟩ := Option.map_eq_some_iff.mp hy
        obtain ⟨p, hp, cl, gl, as, us, ht1, hcl, hca, hgl, hga⟩ := Sw.Paired.atR hfr ht
        have hmem := List.mem_of_getElem? hp
        obtain ⟨ok1, ok2, ok3⟩ := hok p hmem
        obtain ⟨sz1, sz2⟩ := hsz.2 p hmem
        have las : as.length ≤ 1000 := by rw [← Sw.Paired.len hca]; exact sz1
        have hdr : ps.drop i = p :: ps.drop (i + 1) := by
          have := List.drop_eq_getElem_cons (List.getElem?_eq_some_iff.mp hp).1
          rw [(List.getElem?_eq_some_iff.mp hp).2] at this
          exact this
        have hcp : colsP (p :: ps.drop (i + 1)) = p.2.1 ++ colsP (ps.drop (i + 1)) := rfl
        rw [hdr, hcp, List.find?_append] at hfd
        walk_at "go"
        refine ⟨t, _, rfl, SqL.of (w.get (S13 _ _ ht1)), rfl, ?_⟩
        walk_at "go"
        refine ⟨cl, rfl, ⟨_, SqL.of (w.get (S13 _ _ hcl))⟩, ?_⟩
        refine lc_it (itf_list (xs := as.map V.ref)) w (fun H e => SqL.of (e _ _ (S13 _ _ hcl))) (by rw [sizeLine_eq, List.length_map]; omega) (fun i _ acc => acc = (strL ns (p.2.1.take i)).map V.str) rfl ?_ ?_
        · rintro j y Gi acc D Ha Hb hj ej nD rfl ha wj ⟨rfl, hy⟩
          rw [List.getElem?_map] at hy
          obtain ⟨ca, hca2, rfl⟩ := Option.map_eq_some_iff.mp hy
          obtain ⟨cc, hcc, hct2⟩ := Sw.Paired.atR hca hca2
          have hct : SqT K (upd Gi D (.lst ((strL ns (p.2.1.take j)).map V.str))) ca (colTup cc) := Evl.ex_t (Same.trans S13 (Same.trans ej (Same.newG nD))) hct2
          have ht1 : strL ns (p.2.1.take (j + 1)) = strL ns (p.2.1.take j) ++ (if strange ns cc = true then [cc.target] else []) := by
            unfold strL
            rw [List.take_add_one, hcc, List.filter_append, List.map_append]
            congr 1
            show ([cc].filter _).map _ = _
            cases e : strange ns cc with
            | true =>
              rw [List.filter_cons_of_pos e]
              rfl
            | false =>
              rw [List.filter_cons_of_neg (by rw [e]; exact Bool.false_ne_true)]
              rfl
          have drop : strange ns cc = false → ∀ Hc, Wd (upd Gi D (.lst ((strL ns (p.2.1.take j)).map V.str))) R Hc → _ := fun hb Hc wc => lc_drop (i := j) (Pv := fun i _ acc => acc = (strL ns (p.2.1.take i)).map V.str) wc ej nD ha (by rw [ht1, hb, if_neg (by decide), List.append_nil])
          walk_at "go"
          refine ⟨rfl, ?_⟩
          walk_at "go"
          refine g_ixT wj hct (colTup0 cc) ?_
          walk_at "go"
          refine g_eqS rfl ?_
          rw [kstr_ref]
          walk_at "go"
          refine iteD (fun g1 => ?_) (fun g1 => ?_)
          · have hc2 := colTup2 cc
            rw [if_pos g1] at hc2
            walk_at "go"
            refine g_ixT wj hct hc2 ?_
            walk_at "go"
            refine g_niL wj (SqL.of (upd_old (ej _ _ (S3 _ _ q2)) nD)) rfl (flats _) ?_
            rw [inV_str]
            walk_at "go"
            refine iteN (fun g2 => ?_) (fun g2 => ?_)
            · walk_at "go"
              refine g_ixT wj hct hc2 ?_
              refine lc_keep (Pv := fun i _ acc => acc = (strL ns (p.2.1.take i)).map V.str) wj ej nD ha hj (by rw [sizeLine_eq, List.length_map]; omega) ?_
              have es : strange ns cc = true := by
                unfold strange
                rw [decide_eq_true g1, decide_eq_true g2]
                rfl
              rw [ht1, if_pos es, List.map_append]
              rfl
            · refine drop ?_ _ wj
              unfold strange
              rw [decide_eq_false (show ¬ (cc.target ∉ ns) from fun z => z g2), Bool.and_false]
          · walk_at "go"
            refine drop ?_ _ wj
            unfold strange
            rw [decide_eq_false g1]
            rfl
        rintro D5 Gn5 acc5 Hc ej5 nD5 rfl ha5 w
        rw [List.length_map, ← Sw.Paired.len hca, List.take_length] at w
        have S5 : Same G3 (upd Gn5 D5 (.lst ((strL ns p.2.1).map V.str))) := Same.trans ej5 (Same.newG nD5)
        have q5 : upd Gn5 D5 (.lst ((strL ns p.2.1).map V.str)) D5 = some (.lst ((strL ns p.2.1).map V.str)) := upd_same
        generalize upd Gn5 D5 (.lst ((strL ns p.2.1).map V.str)) = G5 at *
        walk_at "go"
        refine g_newA w (by walk_at "sz") fun q G6 H6 n6 s6 q6 w3 => ?_
        refine g_neF w3 (SqL.of (s6 _ _ q5)) (SqL.of q6) (flats _) rfl ?_
        replace w := w3.drop s6
        rw [eqVs_nil]
        walk_at "go"
        refine iteN (fun g1 => ?_) (fun g1 => ?_)
        · walk_at "go"
          cases hd : strL ns p.2.1 with
          | nil => exact absurd hd g1
          | cons n r =>
            obtain ⟨c, hfc, hct⟩ := strL_cons hd
            rw [hd] at q5
            rw [hfc] at hfd
            replace hfd : (colsP ps).find? (strange ns) = some c := hfd
            rw [hfd] at esr
            refine g_ixL w (SqL.of q5) (v := .str n) (atI_nat (i := 0) rfl) ?_
            walk_at "go"
            refine g_newA w (by walk_at "sz") fun t G8 H8 n8 s8 q8 w => ?_
            refine fin (.unknown c.target) _ (by rw [esp, esr]) rfl t G8 H8 (Same.trans S13 (Same.trans S5 s8)) (by rw [hct]; exact q8) w
        · walk_at "go"
          rw [strL_nil g1] at hfd
          exact ⟨_, _, _, _, rfl, w.drop S5, hfd⟩
      · rintro σ' H5 ⟨y2, y3, y4, y8, rfl, w, hfd⟩
        rw [List.length_map, ← Sw.Paired.len hfr, List.drop_length] at hfd
        replace hfd : (colsP ps).find? (strange ns) = none := hfd
        rw [hfd] at esr
        walk_at "go"
        refine k2 ?_ _ (w.drop (Same.trans S1 S13))
        show errV (schP ps) = none
        rw [esp, esr]
        rfl
end
end Sv


set_option Elab.async false
set_option linter.all false
set_option maxRecDepth 100000
set_option maxHeartbeats 4000000
namespace Sv
open PySem PySem.Spec PyProof.Rows L2 Sw
local macro_rules | `(tactic| walk_at "go1") => `(tactic| first
  | ((with_reducible refine' g_var ?hv ?_); (case hv => rfl))
  | with_reducible refine g_c ?_
  | with_reducible refine g_op ?_
  | with_reducible refine g_un ?_
  | with_reducible refine g_seq ?_
  | with_reducible refine g_next ?_
  | with_reducible refine g_asg ?_
  | with_reducible refine g_name ?_
  | with_reducible refine g_drop ?_
  | with_reducible refine g_sub ?_
  | with_reducible refine g_ret ?_
  | with_reducible refine g_retN ?_
  | with_reducible refine g_ifS ?_
  | with_reducible refine g_if ?_
  | with_reducible refine g_test ?_
  | with_reducible refine g_bl ?_
  | with_reducible refine g_cons ?_
  | with_reducible refine g_nil ?_
  | with_reducible refine g_and ?_
  | with_reducible refine g_or ?_
  | with_reducible refine g_not ?_
  | with_reducible refine g_callB ?_
  | with_reducible refine g_addI ?_
  | with_reducible refine g_I0 ?_
  | with_reducible refine g_calG ?_
  | with_reducible refine g_mkG ?_
  | with_reducible refine g_tup ?_
  | with_reducible refine g_pairs1 ?_
  | with_reducible refine g_pairs0 ?_
  | with_reducible refine g_dget ?_
  | with_reducible refine g_lvals ?_
  | with_reducible refine g_forT ?_
  | with_reducible refine g_lcT ?_
  | with_reducible refine g_dput ?_
  | with_reducible refine g_lc2L ?_
  | with_reducible refine g_iList ?_
  | with_reducible refine g_lcX ?_
  | with_reducible refine g_js1 ?_
  | with_reducible refine g_js0 ?_
  | with_reducible refine g_fmt ?_
  | with_reducible refine g_tLenSet ?_
  | with_reducible refine g_mkV ?_
  | with_reducible refine g_mkV1 ?_
  | with_reducible refine g_lst ?_
  | with_reducible refine g_forL ?_
  | with_reducible refine g_forR ?_
  | with_reducible refine g_forR2 ?_
  | with_reducible refine g_forS ?_
  | with_reducible refine g_forE ?_
  | with_reducible refine g_lcL ?_
  | with_reducible refine g_lcR ?_
  | with_reducible refine g_lcS ?_
  | with_reducible refine g_lcE ?_
  | with_reducible refine g_orT ?_
  | with_reducible refine g_slc ?_
  | with_reducible refine g_noPart ?_
  | with_reducible refine g_part ?_
  | with_reducible refine g_bm ?_
  | with_reducible refine g_par ?_
  | with_reducible refine g_yes ?_
  | with_reducible refine g_tupG ?_
  | with_reducible refine g_lstG ?_
  | with_reducible refine g_gcons ?_
  | with_reducible refine g_gnil ?_
  | with_reducible refine g_chain ?_
  | with_reducible refine g_truB ?_
  | with_reducible refine g_truN ?_
  | with_reducible refine g_truI ?_
  | with_reducible refine g_m1 ?_
  | with_reducible refine g_fld ?_
  | with_reducible refine g_con ?_
  | with_reducible refine g_tru ?_
  | with_reducible refine g_U ?_
  | with_reducible refine g_xg ?_
  | with_reducible refine g_andT ?_
  | with_reducible refine g_exI ?_
  | with_reducible refine g_dnew ?_
  | with_reducible refine g_intB ?_
  | with_reducible refine g_meth ?_
  | with_reducible refine g_prop ?_
  | with_reducible refine g_exc1 ?_
  | with_reducible refine g_setF ?_
  | with_reducible refine g_star ?_
  | with_reducible refine g_strM ?_
  | with_reducible refine iteT ?_
  | with_reducible refine iteF ?_
  | with_reducible refine iteNT ?_
  | with_reducible refine iteNF ?_)
local macro_rules | `(tactic| walk_at "go") => `(tactic| repeat (walk_at "go1"))
local macro_rules | `(tactic| walk_at "sz") => `(tactic| (first | (rw [sizeLine_eq]; simp only [List.length_cons, List.length_nil, List.length_map, List.length_append, List.length_take]; omega) | (rw [sizeLine_eq]; omega)))
section
variable {P : Program} {wo : World} {A : Ad} {K : PySem.W.Frag} {mg : Str → Option Value} {base : Heap}
/-! ### _law_too_large -/
def spTooL : Sp := fun vs H Q _ => ∃ G R s, vs = [.str s] ∧ Wd G R H ∧ s.length ≤ 1000000 ∧ ∀ b H', Wd G R H' → Q (.bl b) H'
theorem sp_len {s y : Str} (hy : y.length = 1) : (Txt.split s y).length ≤ s.length + 1 ∧ ∀ x ∈ Txt.split s y, x.length ≤ s.length := by
  have h := split_weight s y (by omega)
  refine ⟨by omega, fun x hx => ?_⟩
  have h2 : x.length ≤ ((Txt.split s y).map (·.length)).sum := le_sum (List.mem_map_of_mem hx)
  have h3 := split_pos s y
  omega
theorem g_par3 {i j l : Nat} {tr : TA} {D : Ends} {σ : L2.St} {H : Hp} (k : tr σ H fun vs H1 => ∃ u v w, vs = [u, v, w] ∧ D.nx (((σ.set i (some u)).set j (some v)).set l (some w)) H1) : tPar3 i j l tr D σ H := k
theorem sc__law_too_large : FnScope (["_law_text", "_law_tables", "_law_columns", "_law_groups_here", "_law_line", "_law_word"] : List Str) (["_law_text"] : List Str) (defScope s__law_too_large) := ⟨rfl, rfl, rfl, by decide +kernel, rfl, by decide +kernel, by decide +kernel⟩
theorem ok_tool {f : Addr} {fd : FuncData} (F : Fun K "_law_too_large" "_law_too_large" s__law_too_large f fd) (T : Txt K mg A) : FnOk P wo K mg base (L2.CX P wo) 1 f fd (["_law_text"] : List Str) spTooL := by
  refine okT F sc__law_too_large (fun vs H Q E h => ?_) (fun cdv Ar outer s H vs Q E hr tk po h => ?_)
  · obtain ⟨_, _, _, rfl, _⟩ := h
    rfl
  obtain ⟨G, R, z, rfl, w, hz, k⟩ := h
  refine ⟨_, (pss_cons (ps_asg (pe_tup (pa_cons pe_int (pa_cons pe_int (pa_cons pe_int pa_nil)))) (kg_tup (n := 3) K rfl (pgs_cons (pg_name (i := 1) sc__law_too_large.nd rfl (by first | exact Or.inl rfl | exact Or.inr rfl)) (pgs_cons (pg_name (i := 2) sc__law_too_large.nd rfl (by first | exact Or.inl rfl | exact Or.inr rfl)) (pgs_cons (pg_name (i := 3) sc__law_too_large.nd rfl (by first | exact Or.inl rfl | exact Or.inr rfl)) pgs_nil)))))
      (pss_cons (ps_for po rfl (ki_list K (ke_split (pv 0) pe_str)) (pg_name (i := 4) sc__law_too_large.nd rfl (by first | exact Or.inl rfl | exact Or.inr rfl)) (pss_cons (ps_set (i := 5) sc__law_too_large.nd rfl (by first | exact Or.inl rfl | exact Or.inr rfl) (pe_ix (ka_ix K) (ke_split (pv 4) pe_str) pe_int (fun _ _ => rfl)))
      (pss_cons (ps_if (pt_cmpR (ka_eq K hr.units) (pv 5) pe_str (nomark _)) (pss_one (ps_par3 (i := 1) (j := 2) (l := 3) rfl sc__law_too_large.nd rfl rfl rfl (by decide) (by decide) (by decide) rfl rfl rfl (pa_cons (pe_op (ka_add K) (pv 1) pe_int) (pa_cons pe_int (pa_cons pe_int pa_nil))) (by rfl))) (pss_one (ps_if (pt_cmpR (ka_eq K hr.units) (pv 5) pe_str (nomark _)) (pss_one (ps_set (i := 3) sc__law_too_large.nd rfl (by first | exact Or.inl rfl | exact Or.inr rfl) (pe_op (ka_add K) (pv 3) pe_int))) (pss_one (ps_if (pt_cmpR (ka_ne K hr.units) (pv 4) pe_str (nomark _)) (pss_one (ps_set (i := 2) sc__law_too_large.nd rfl (by first | exact Or.inl rfl | exact Or.inr rfl) (pe_op (ka_add K) (pv 2) pe_int))) pss_nil)))))
      (pss_one (ps_if (PW.pt (pw_or (pt_cmpR op_gt (pv 1) pe_int (nomark _)) (pw_or (pt_cmpR op_gt (pv 2) pe_int (nomark _)) (pw_or1 (pt_cmpR op_gt (pv 3) pe_int (nomark _)))))) (pss_one (ps_ret pe_bl)) pss_nil)))))
      (pss_one (ps_ret pe_bl)))), ?_⟩
  walk_at "go"
  refine g_newL w (by walk_at "sz") fun tp H0 n0 w0 => ?_
  refine ⟨tp, _, rfl, SqT.of (w0.get upd_same), rfl, ?_⟩
  replace w := w0.drop (Same.newG n0)
  walk_at "go"
  refine g_split w (by decide) (by rw [sizeLine_eq]; omega) fun p0 H1 n0 w => ?_
  obtain ⟨l1, l2⟩ := sp_len (s := z) (y := "\n") (by decide)
  have S0 : Same G (upd G p0 (.lst ((Txt.split z "\n").map V.str))) := Same.newG n0
  have q0 : upd G p0 (.lst ((Txt.split z "\n").map V.str)) p0 = some (.lst ((Txt.split z "\n").map V.str)) := upd_same
  generalize upd G p0 (.lst ((Txt.split z "\n").map V.str)) = G1 at *
  refine ⟨p0, rfl, ⟨_, SqL.of (w.get q0)⟩, ?_⟩
  refine for_it (itf_list (xs := (Txt.split z "\n").map V.str)) (fun i σ' H' => ∃ (a b c : Int), ∃ y4 y5, σ' = [some (.str z), some (.int a), some (.int b), some (.int c), y4, y5] ∧ Wd G1 R H')
    ⟨_, _, _, _, _, rfl, w⟩ (fun i σ' H' _ h => ?_) ?_ ?_
  · obtain ⟨_, _, _, _, _, _, w⟩ := h
    exact Evl.ex_l w.sub (SqL.of q0)
  · rintro i y σ' H5 H6 hi ⟨a, b, c, y4, y5, rfl, w⟩ ⟨rfl, hy⟩
    rw [List.getElem?_map] at hy
    obtain ⟨ln, hln, rfl⟩ := Option.map_eq_some_iff.mp hy
    have lnl := l2 ln (List.mem_of_getElem? hln)
    walk_at "go"
    refine g_split w (by decide) (by rw [sizeLine_eq]; omega) fun wl H7 nwl w7 => ?_
    walk_at "go"
    refine g_ixW (i := 0) w7 upd_same (List.length_pos_iff.mpr (split_ne ln)) ?_
    replace w := w7.drop (Same.newG nwl)
    with_reducible refine g_name ?_
    with_reducible refine g_seq ?_
    refine joinS (C := fun σ' H' => ∃ (a b c : Int), ∃ y4 y5, σ' = [some (.str z), some (.int a), some (.int b), some (.int c), y4, y5] ∧ Wd G1 R H') (fun N hN => ?_) ?_
    · walk_at "go"
      refine g_eqS rfl ?_
      walk_at "go"
      refine iteD (fun h1 => ?_) (fun h1 => ?_)
      · walk_at "go"
        refine g_par3 ?_
        walk_at "go"
        refine ⟨_, _, _, rfl, ?_⟩
        exact hN _ _ ⟨_, _, _, _, _, rfl, w⟩
      · walk_at "go"
        refine g_eqS rfl ?_
        walk_at "go"
        refine iteD (fun h2 => ?_) (fun h2 => ?_)
        · walk_at "go"
          exact hN _ _ ⟨_, _, _, _, _, rfl, w⟩
        · walk_at "go"
          refine g_neS rfl ?_
          walk_at "go"
          refine iteN (fun h3 => ?_) (fun h3 => ?_)
          · walk_at "go"
            exact hN _ _ ⟨_, _, _, _, _, rfl, w⟩
          · walk_at "go"
            exact hN _ _ ⟨_, _, _, _, _, rfl, w⟩
    rintro _ H8 ⟨a, b, c, y4, y5, rfl, w⟩
    walk_at "go"
    refine iteD (fun h1 => ?_) (fun h1 => ?_)
    · walk_at "go"
      exact k _ _ (w.drop S0)
    walk_at "go"
    refine iteD (fun h1 => ?_) (fun h1 => ?_)
    · walk_at "go"
      exact k _ _ (w.drop S0)
    walk_at "go"
    refine iteD (fun h1 => ?_) (fun h1 => ?_)
    · walk_at "go"
      exact k _ _ (w.drop S0)
    walk_at "go"
    exact ⟨_, _, _, _, _, rfl, w⟩
  · rintro σ' H5 ⟨a, b, c, y4, y5, rfl, w⟩
    walk_at "go"
    exact k _ _ (w.drop S0)
end
end Sv


set_option Elab.async false
set_option linter.all false
set_option maxRecDepth 100000
set_option maxHeartbeats 4000000
namespace Sv
open PySem PySem.Spec PyProof.Rows L2 Sw
local macro_rules | `(tactic| walk_at "go1") => `(tactic| first
  | ((with_reducible refine' g_var ?hv ?_); (case hv => rfl))
  | with_reducible refine g_c ?_
  | with_reducible refine g_op ?_
  | with_reducible refine g_un ?_
  | with_reducible refine g_seq ?_
  | with_reducible refine g_next ?_
  | with_reducible refine g_asg ?_
  | with_reducible refine g_name ?_
  | with_reducible refine g_drop ?_
  | with_reducible refine g_sub ?_
  | with_reducible refine g_ret ?_
  | with_reducible refine g_retN ?_
  | with_reducible refine g_ifS ?_
  | with_reducible refine g_if ?_
  | with_reducible refine g_test ?_
  | with_reducible refine g_bl ?_
  | with_reducible refine g_cons ?_
  | with_reducible refine g_nil ?_
  | with_reducible refine g_and ?_
  | with_reducible refine g_or ?_
  | with_reducible refine g_not ?_
  | with_reducible refine g_callB ?_
  | with_reducible refine g_addI ?_
  | with_reducible refine g_I0 ?_
  | with_reducible refine g_calG ?_
  | with_reducible refine g_mkG ?_
  | with_reducible refine g_tup ?_
  | with_reducible refine g_pairs1 ?_
  | with_reducible refine g_pairs0 ?_
  | with_reducible refine g_dget ?_
  | with_reducible refine g_lvals ?_
  | with_reducible refine g_forT ?_
  | with_reducible refine g_lcT ?_
  | with_reducible refine g_dput ?_
  | with_reducible refine g_lc2L ?_
  | with_reducible refine g_iList ?_
  | with_reducible refine g_lcX ?_
  | with_reducible refine g_js1 ?_
  | with_reducible refine g_js0 ?_
  | with_reducible refine g_fmt ?_
  | with_reducible refine g_tLenSet ?_
  | with_reducible refine g_mkV ?_
  | with_reducible refine g_mkV1 ?_
  | with_reducible refine g_lst ?_
  | with_reducible refine g_forL ?_
  | with_reducible refine g_forR ?_
  | with_reducible refine g_forR2 ?_
  | with_reducible refine g_forS ?_
  | with_reducible refine g_forE ?_
  | with_reducible refine g_lcL ?_
  | with_reducible refine g_lcR ?_
  | with_reducible refine g_lcS ?_
  | with_reducible refine g_lcE ?_
  | with_reducible refine g_orT ?_
  | with_reducible refine g_slc ?_
  | with_reducible refine g_noPart ?_
  | with_reducible refine g_part ?_
  | with_reducible refine g_bm ?_
  | with_reducible refine g_par ?_
  | with_reducible refine g_yes ?_
  | with_reducible refine g_tupG ?_
  | with_reducible refine g_lstG ?_
  | with_reducible refine g_gcons ?_
  | with_reducible refine g_gnil ?_
  | with_reducible refine g_chain ?_
  | with_reducible refine g_truB ?_
  | with_reducible refine g_truN ?_
  | with_reducible refine g_truI ?_
  | with_reducible refine g_m1 ?_
  | with_reducible refine g_fld ?_
  | with_reducible refine g_con ?_
  | with_reducible refine g_tru ?_
  | with_reducible refine g_U ?_
  | with_reducible refine g_xg ?_
  | with_reducible refine g_andT ?_
  | with_reducible refine g_exI ?_
  | with_reducible refine g_dnew ?_
  | with_reducible refine g_intB ?_
  | with_reducible refine g_meth ?_
  | with_reducible refine g_prop ?_
  | with_reducible refine g_exc1 ?_
  | with_reducible refine g_setF ?_
  | with_reducible refine g_star ?_
  | with_reducible refine g_strM ?_
  | with_reducible refine iteT ?_
  | with_reducible refine iteF ?_
  | with_reducible refine iteNT ?_
  | with_reducible refine iteNF ?_)
local macro_rules | `(tactic| walk_at "go") => `(tactic| repeat (walk_at "go1"))
local macro_rules | `(tactic| walk_at "sz") => `(tactic| (first | (rw [sizeLine_eq]; simp only [List.length_cons, List.length_nil, List.length_map, List.length_append, List.length_take]; omega) | (rw [sizeLine_eq]; omega)))
section
variable {P : Program} {wo : World} {A : Ad} {K : PySem.W.Frag} {mg : Str → Option Value} {base : Heap}
def moreS : List Str := ["table a", "table zz", "int a", "text zz optional", "ref a a restrict", "unique a", "unique a a", ""]
def wordS : List Str := ["a", "bo", "optional", "clear", "unique", "", "Z", "key"]
def signS : List Str := [" ", "\n", "a", "-"]
theorem moreS_ok : ∀ s ∈ moreS, s.length ≤ 16 ∧ nl s = 0 := by decide +kernel
theorem wordS_ok : ∀ s ∈ wordS, s.length ≤ 8 ∧ nl s = 0 := by decide +kernel
theorem signS_ok : ∀ s ∈ signS, s.length ≤ 1 ∧ nl s ≤ 1 := by decide +kernel
theorem ixN_nat {n i : Nat} (h : i < n) : ixN n (i : Int) = some i := by
  unfold ixN
  rw [if_pos (by omega), if_pos (by omega)]
  rfl
/-! ### _law_spoilt -/
def spSpoil : Sp := fun vs H Q _ => ∃ G a c t, vs = [.ref a, .str t] ∧ Wd G (RD a c) H ∧ t.length ≤ 100000 ∧ ∀ t' H', t'.length ≤ 3 * t.length + 60 → nl t' ≤ 3 * nl t + 3 → Wd G (RD a c) H' → Q (.str t') H'
theorem sc__law_spoilt : FnScope (["_law_state", "_law_text", "_law_lines", "_law_way", "_law_at", "_law_other", "_law_more", "_law_line", "_law_word", "_law_words", "_law_spot", "_law_place"] : List Str) (["_law_state", "_law_text"] : List Str) (defScope s__law_spoilt) := ⟨rfl, rfl, rfl, by decide +kernel, rfl, by decide +kernel, by decide +kernel⟩
theorem ok_spoil {f : Addr} {fd : FuncData} (F : Fun K "_law_spoilt" "_law_spoilt" s__law_spoilt f fd) (T : Txt K mg A) (Gd : GFn P wo K mg base 1 "_law_draw" 2 [] (fun vs _ => spDraw vs)) (Gp : GFn P wo K mg base 2 "_law_pick" 2 [] (fun vs _ => spPick K vs)) : FnOk P wo K mg base (L2.CX P wo) 3 f fd (["_law_state", "_law_text"] : List Str) spSpoil := by
  refine okT F sc__law_spoilt (fun vs H Q E h => ?_) (fun cdv Ar outer s H vs Q E hr tk po h => ?_)
  · obtain ⟨_, _, _, _, rfl, _⟩ := h
    rfl
  obtain ⟨G, a, c, t, rfl, w, ht, k⟩ := h
  refine ⟨_, (pss_cons (ps_par (i := 2) (j := 3) rfl sc__law_spoilt.nd rfl rfl (by decide) rfl rfl (pa_cons (ke_split (pv 1) pe_str) (pa_cons (pe_callG Gd (hr.mono (by decide)) tk (pa_cons (pv 0) (pa_cons pe_int pa_nil)) pk_nil) pa_nil)) (by rfl))
      (pss_cons (ps_par (i := 4) (j := 5) rfl sc__law_spoilt.nd rfl rfl (by decide) rfl rfl (pa_cons (pe_callG Gd (hr.mono (by decide)) tk (pa_cons (pv 0) (pa_cons (pe_callB (ka_len K) (by rfl) T.nb_len (by decide +kernel) (pa_cons (pv 2) pa_nil)) pa_nil)) pk_nil) (pa_cons (pe_callG Gd (hr.mono (by decide)) tk (pa_cons (pv 0) (pa_cons (pe_callB (ka_len K) (by rfl) T.nb_len (by decide +kernel) (pa_cons (pv 2) pa_nil)) pa_nil)) pk_nil) pa_nil)) (by rfl))
      (pss_cons (ps_set (i := 6) sc__law_spoilt.nd rfl (by first | exact Or.inl rfl | exact Or.inr rfl) (pe_lst (pa_cons pe_str (pa_cons pe_str (pa_cons pe_str (pa_cons pe_str (pa_cons pe_str (pa_cons pe_str (pa_cons pe_str (pa_cons pe_str pa_nil))))))))))
      (pss_cons (ps_set (i := 7) sc__law_spoilt.nd rfl (by first | exact Or.inl rfl | exact Or.inr rfl) (pe_callG Gp (hr.mono (by decide)) tk (pa_cons (pv 0) (pa_cons (pv 6) pa_nil)) pk_nil))
      (pss_cons (ps_set (i := 8) sc__law_spoilt.nd rfl (by first | exact Or.inl rfl | exact Or.inr rfl) (pe_callG Gp (hr.mono (by decide)) tk (pa_cons (pv 0) (pa_cons (pe_lst (pa_cons pe_str (pa_cons pe_str (pa_cons pe_str (pa_cons pe_str (pa_cons pe_str (pa_cons pe_str (pa_cons pe_str (pa_cons pe_str pa_nil))))))))) pa_nil)) pk_nil))
      (pss_cons (ps_set (i := 9) sc__law_spoilt.nd rfl (by first | exact Or.inl rfl | exact Or.inr rfl) (ke_split (pe_ix (ka_ix K) (pv 2) (pv 4) (fun _ _ => rfl)) pe_str))
      (pss_cons (ps_set (i := 10) sc__law_spoilt.nd rfl (by first | exact Or.inl rfl | exact Or.inr rfl) (pe_callG Gd (hr.mono (by decide)) tk (pa_cons (pv 0) (pa_cons (pe_callB (ka_len K) (by rfl) T.nb_len (by decide +kernel) (pa_cons (pv 9) pa_nil)) pa_nil)) pk_nil))
      (pss_cons (ps_if (pt_cmpR (ka_eq K hr.units) (pv 3) pe_int (nomark _)) (pss_one (ps_set (i := 2) sc__law_spoilt.nd rfl (by first | exact Or.inl rfl | exact Or.inr rfl) (pe_op (ka_add K) (pe_slice (ka_sl K) (pv 2) po_none (po_some (pv 4))) (pe_slice (ka_sl K) (pv 2) (po_some (pe_op (ka_add K) (pv 4) pe_int)) po_none)))) (pss_one (ps_if (pt_cmpR (ka_eq K hr.units) (pv 3) pe_int (nomark _)) (pss_one (ps_set (i := 2) sc__law_spoilt.nd rfl (by first | exact Or.inl rfl | exact Or.inr rfl) (pe_op (ka_add K) (pe_op (ka_add K) (pe_slice (ka_sl K) (pv 2) po_none (po_some (pv 4))) (pe_lst (pa_cons (pv 7) pa_nil))) (pe_slice (ka_sl K) (pv 2) (po_some (pv 4)) po_none)))) (pss_one (ps_if (pt_cmpR (ka_eq K hr.units) (pv 3) pe_int (nomark _)) (pss_one (ps_set (i := 2) sc__law_spoilt.nd rfl (by first | exact Or.inl rfl | exact Or.inr rfl) (pe_op (ka_add K) (pe_op (ka_add K) (pe_slice (ka_sl K) (pv 2) po_none (po_some (pv 4))) (pe_lst (pa_cons (pe_ix (ka_ix K) (pv 2) (pv 5) (fun _ _ => rfl)) pa_nil))) (pe_slice (ka_sl K) (pv 2) (po_some (pe_op (ka_add K) (pv 4) pe_int)) po_none)))) (pss_one (ps_if (pt_cmpR (ka_eq K hr.units) (pv 3) pe_int (nomark _)) (pss_one (ps_asg (ke_join K pe_str (pe_op (ka_add K) (pe_op (ka_add K) (pe_slice (ka_sl K) (pv 9) po_none (po_some (pv 10))) (pe_lst (pa_cons (pv 8) pa_nil))) (pe_slice (ka_sl K) (pv 9) (po_some (pv 10)) po_none))) (pg_sub (pv 2) (pv 4) set_list))) (pss_one (ps_if (pt_cmpR (ka_eq K hr.units) (pv 3) pe_int (nomark _)) (pss_one (ps_asg (ke_join K pe_str (pe_op (ka_add K) (pe_slice (ka_sl K) (pv 9) po_none (po_some (pv 10))) (pe_slice (ka_sl K) (pv 9) (po_some (pe_op (ka_add K) (pv 10) pe_int)) po_none))) (pg_sub (pv 2) (pv 4) set_list))) (pss_one (ps_if (pt_cmpR (ka_eq K hr.units) (pv 3) pe_int (nomark _)) (pss_one (ps_asg (ke_join K pe_str (pe_op (ka_add K) (pe_op (ka_add K) (pe_slice (ka_sl K) (pv 9) po_none (po_some (pv 10))) (pe_lst (pa_cons (pv 8) pa_nil))) (pe_slice (ka_sl K) (pv 9) (po_some (pe_op (ka_add K) (pv 10) pe_int)) po_none))) (pg_sub (pv 2) (pv 4) set_list))) (pss_cons (ps_set (i := 11) sc__law_spoilt.nd rfl (by first | exact Or.inl rfl | exact Or.inr rfl) (pe_callG Gd (hr.mono (by decide)) tk (pa_cons (pv 0) (pa_cons (pe_op (ka_add K) (pe_callB (ka_len K) (by rfl) T.nb_len (by decide +kernel) (pa_cons (pv 1) pa_nil)) pe_int) pa_nil)) pk_nil))
      (pss_one (ps_ret (pe_op (ka_add K) (pe_op (ka_add K) (pe_slice (ka_sl K) (pv 1) po_none (po_some (pv 11))) (pe_callG Gp (hr.mono (by decide)) tk (pa_cons (pv 0) (pa_cons (pe_lst (pa_cons pe_str (pa_cons pe_str (pa_cons pe_str (pa_cons pe_str pa_nil))))) pa_nil)) pk_nil)) (pe_slice (ka_sl K) (pv 1) (po_some (pe_op (ka_add K) (pv 11) (pe_callG Gd (hr.mono (by decide)) tk (pa_cons (pv 0) (pa_cons pe_int pa_nil)) pk_nil))) po_none))))))))))))))))
      (pss_one (ps_ret (ke_join K pe_str (pv 2)))))))))))), ?_⟩
  walk_at "go"
  refine g_split w (by decide) (by rw [sizeLine_eq]; omega) fun p H1 n1 w => ?_
  have hp : upd G p (.lst ((Txt.split t "\n").map V.str)) p = some (.lst ((Txt.split t "\n").map V.str)) := upd_same
  have sG : Same G (upd G p (.lst ((Txt.split t "\n").map V.str))) := Same.newG n1
  have hpos := split_pos t "\n"
  have hne : Txt.split t "\n" ≠ [] := List.length_pos_iff.mp hpos
  have ml := split_sf len_add t "\n" hne
  have mn := split_sf nl_add t "\n" hne
  have e1 : ("\n" : Str).length = 1 := rfl
  have e2 : nl ("\n" : Str) = 1 := rfl
  have e3 : (" " : Str).length = 1 := rfl
  have e4 : nl (" " : Str) = 0 := rfl
  rw [e1, Nat.mul_one] at ml
  rw [e2, Nat.mul_one] at mn
  generalize Txt.split t "\n" = ws at *
  generalize upd G p (.lst (ws.map V.str)) = G1 at *
  have hs : SqL K G1 p (ws.map V.str) := SqL.of hp
  have fin : ∀ (q : Addr) (us : List Str) (Gx : Hp) (H' : Hp), Same G Gx → Gx q = some (.lst (us.map V.str)) → sf Str.length us + us.length ≤ 3 * t.length + 60 → sf nl us + us.length ≤ 3 * nl t + 3 → Wd Gx (RD a c) H' → rJoin K (.str "\n") [.ref q] H' Q := fun q us Gx H' e hq h1 h2 w' => by
    have j1 := join_le len_add "\n" us
    have j2 := join_le nl_add "\n" us
    rw [e1] at j1
    rw [e2] at j2
    refine g_join w' (SqL.of hq) (by rw [e1]; show sf Str.length us + _ ≤ _; omega) ?_
    exact k _ _ (by omega) (by omega) (w'.drop e)
  walk_at "go"
  refine ⟨rfl, rfl, G1, a, c, 7, rfl, w, by decide, by decide, fun way H2 r0 r1 w => ?_⟩
  walk_at "go"
  refine ⟨_, _, rfl, ?_⟩
  walk_at "go"
  refine g_lenL w hs ?_
  rw [List.length_map]
  walk_at "go"
  refine ⟨rfl, rfl, G1, a, c, _, rfl, w, by omega, by omega, fun at_ H4 a0 a1 w => ?_⟩
  walk_at "go"
  refine g_lenL w hs ?_
  rw [List.length_map]
  walk_at "go"
  refine ⟨rfl, rfl, G1, a, c, _, rfl, w, by omega, by omega, fun ot H5 o0 o1 w => ?_⟩
  obtain ⟨ka, rfl⟩ : ∃ j : Nat, at_ = j := ⟨at_.toNat, by omega⟩
  obtain ⟨ko, rfl⟩ : ∃ j : Nat, ot = j := ⟨ot.toNat, by omega⟩
  have hka : ka < ws.length := by omega
  have hko : ko < ws.length := by omega
  walk_at "go"
  refine ⟨_, _, rfl, ?_⟩
  walk_at "go"
  refine g_newA w (by walk_at "sz") fun p7 G7 H7 n7 s7 q7 w => ?_
  walk_at "go"
  refine ⟨rfl, rfl, _, a, c, w, .inl ⟨p7, moreS.map V.str, rfl, .inl (SqL.of q7), by decide, by decide, fun x H8 hx w => ?_⟩⟩
  obtain ⟨line, hli, rfl⟩ := List.mem_map.mp hx
  obtain ⟨li1, li2⟩ := moreS_ok line hli
  walk_at "go"
  refine g_newA w (by walk_at "sz") fun p8 G8 H8 n8 s8 q8 w => ?_
  walk_at "go"
  refine ⟨rfl, rfl, _, a, c, w, .inl ⟨p8, wordS.map V.str, rfl, .inl (SqL.of q8), by decide, by decide, fun x H9 hx w => ?_⟩⟩
  obtain ⟨word, hwo, rfl⟩ := List.mem_map.mp hx
  obtain ⟨wo1, wo2⟩ := wordS_ok word hwo
  have S8 : Same G1 G8 := Same.trans s7 s8
  have hp8 := S8 _ _ hp
  walk_at "go"
  refine g_ixW (i := ka) w hp8 hka ?_
  walk_at "go"
  have lln : (wAt ws ka).length ≤ sf Str.length ws := sf_mem (wAt_mem hka)
  have lnn : nl (wAt ws ka) ≤ sf nl ws := sf_mem (wAt_mem hka)
  have lon : (wAt ws ko).length ≤ sf Str.length ws := sf_mem (wAt_mem hko)
  have lnon : nl (wAt ws ko) ≤ sf nl ws := sf_mem (wAt_mem hko)
  refine g_split w (by decide) (by rw [sizeLine_eq]; omega) fun wl H10 nwl w => ?_
  have wpos := split_pos (wAt ws ka) " "
  have wne : Txt.split (wAt ws ka) " " ≠ [] := List.length_pos_iff.mp wpos
  have wml := split_sf len_add (wAt ws ka) " " wne
  have wmn := split_sf nl_add (wAt ws ka) " " wne
  rw [e3, Nat.mul_one] at wml
  rw [e4, Nat.mul_zero, Nat.add_zero, Nat.add_zero] at wmn
  have S9 : Same G8 (upd G8 wl (.lst ((Txt.split (wAt ws ka) " ").map V.str))) := Same.newG nwl
  have hwl : upd G8 wl (.lst ((Txt.split (wAt ws ka) " ").map V.str)) wl = some (.lst ((Txt.split (wAt ws ka) " ").map V.str)) := upd_same
  generalize hwd : Txt.split (wAt ws ka) " " = wd at *
  generalize upd G8 wl (.lst (wd.map V.str)) = G9 at *
  have SG9 : Same G G9 := Same.trans sG (Same.trans S8 S9)
  have hp9 := S9 _ _ hp8
  walk_at "go"
  refine g_lenL w (SqL.of hwl) ?_
  rw [List.length_map]
  walk_at "go"
  refine ⟨rfl, rfl, _, a, c, _, rfl, w, by omega, by omega, fun spot H11 sp0 sp1 w => ?_⟩
  walk_at "go"
  refine g_eqS rfl ?_
  walk_at "go"
  have hn1 : 1 ≤ ws.length := by omega
  -- two slices of the lines, and one line between
  have two : ∀ (u1 u2 : List Str), (∀ f, sf f u1 ≤ sf f ws) → (∀ f, sf f u2 ≤ sf f ws) → u1.length ≤ ws.length → u2.length ≤ ws.length → sf Str.length (u1 ++ u2) + (u1 ++ u2).length ≤ 3 * t.length + 60 ∧ sf nl (u1 ++ u2) + (u1 ++ u2).length ≤ 3 * nl t + 3 := fun u1 u2 h1 h2 h3 h4 => by
    have a1 := h1 Str.length
    have a2 := h2 Str.length
    have b1 := h1 nl
    have b2 := h2 nl
    rw [sf_app, sf_app, List.length_append]
    omega
  obtain ⟨c1, ec1, hc1, lc1⟩ := cutV_sf ws none (some (ka : Int))
  obtain ⟨c2, ec2, hc2, lc2⟩ := cutV_sf ws (some ((ka : Int) + 1)) none
  refine iteD (fun h1 => ?_) (fun h1 => ?_)
  · walk_at "go"
    refine g_slLA w (SqL.of hp9) fun q1 J1 I1 m1 t1 r1' w => ?_
    rw [ec1] at r1'
    walk_at "go"
    refine g_slLA w (SqL.of (t1 _ _ hp9)) fun q2 J2 I2 m2 t2 r2' w => ?_
    rw [ec2] at r2'
    refine g_addLA w (t2 _ _ r1') r2' (by rw [sizeLine_eq, List.length_map, List.length_map]; omega) fun q3 J3 I3 m3 t3 r3' w => ?_
    rw [← List.map_append] at r3'
    obtain ⟨z1, z2⟩ := two c1 c2 hc1 hc2 lc1 lc2
    walk_at "go"
    exact fin q3 _ _ _ (Same.trans SG9 (Same.trans t1 (Same.trans t2 t3))) r3' z1 z2 w
  walk_at "go"
  refine g_eqS rfl ?_
  walk_at "go"
  refine iteD (fun h2 => ?_) (fun h2 => ?_)
  · obtain ⟨d2, ed2, hd2, ld2⟩ := cutV_sf ws (some (ka : Int)) none
    walk_at "go"
    refine g_slLA w (SqL.of hp9) fun q1 J1 I1 m1 t1 r1' w => ?_
    rw [ec1] at r1'
    walk_at "go"
    refine g_newA w (by walk_at "sz") fun q2 J2 I2 m2 t2 r2' w => ?_
    refine g_addLA w (t2 _ _ r1') r2' (by rw [sizeLine_eq, List.length_map]; show _ + 1 ≤ _; omega) fun q3 J3 I3 m3 t3 r3' w => ?_
    walk_at "go"
    refine g_slLA w (SqL.of (t3 _ _ (t2 _ _ (t1 _ _ hp9)))) fun q4 J4 I4 m4 t4 r4' w => ?_
    rw [ed2] at r4'
    refine g_addLA w (t4 _ _ r3') r4' (by rw [sizeLine_eq, List.length_append, List.length_map, List.length_map]; show _ + 1 + _ ≤ _; omega) fun q5 J5 I5 m5 t5 r5' w => ?_
    have em : c1.map V.str ++ [V.str line] ++ d2.map V.str = (c1 ++ [line] ++ d2).map V.str := by simp
    rw [em] at r5'
    walk_at "go"
    refine fin q5 _ _ _ (Same.trans SG9 (Same.trans t1 (Same.trans t2 (Same.trans t3 (Same.trans t4 t5))))) r5' ?_ ?_ w
    · have a1 := hc1 Str.length
      have a2 := hd2 Str.length
      rw [sf_app, sf_app, sf_cons, List.length_append, List.length_append, List.length_cons, List.length_nil]
      show _ + (line.length + 0) + _ + _ ≤ _
      omega
    · have a1 := hc1 nl
      have a2 := hd2 nl
      rw [sf_app, sf_app, sf_cons, List.length_append, List.length_append, List.length_cons, List.length_nil, li2]
      show _ + (0 + 0) + _ + _ ≤ _
      omega
  walk_at "go"
  refine g_eqS rfl ?_
  walk_at "go"
  refine iteD (fun h3 => ?_) (fun h3 => ?_)
  · walk_at "go"
    refine g_slLA w (SqL.of hp9) fun q1 J1 I1 m1 t1 r1' w => ?_
    rw [ec1] at r1'
    walk_at "go"
    refine g_ixW (i := ko) w (t1 _ _ hp9) hko ?_
    walk_at "go"
    refine g_newA w (by walk_at "sz") fun q2 J2 I2 m2 t2 r2' w => ?_
    refine g_addLA w (t2 _ _ r1') r2' (by rw [sizeLine_eq, List.length_map]; show _ + 1 ≤ _; omega) fun q3 J3 I3 m3 t3 r3' w => ?_
    walk_at "go"
    refine g_slLA w (SqL.of (t3 _ _ (t2 _ _ (t1 _ _ hp9)))) fun q4 J4 I4 m4 t4 r4' w => ?_
    rw [ec2] at r4'
    refine g_addLA w (t4 _ _ r3') r4' (by rw [sizeLine_eq, List.length_append, List.length_map, List.length_map]; show _ + 1 + _ ≤ _; omega) fun q5 J5 I5 m5 t5 r5' w => ?_
    have em : c1.map V.str ++ [V.str (wAt ws ko)] ++ c2.map V.str = (c1 ++ [wAt ws ko] ++ c2).map V.str := by simp
    rw [em] at r5'
    walk_at "go"
    refine fin q5 _ _ _ (Same.trans SG9 (Same.trans t1 (Same.trans t2 (Same.trans t3 (Same.trans t4 t5))))) r5' ?_ ?_ w
    · have a1 := hc1 Str.length
      have a2 := hc2 Str.length
      rw [sf_app, sf_app, sf_cons, List.length_append, List.length_append, List.length_cons, List.length_nil]
      show _ + ((wAt ws ko).length + 0) + _ + _ ≤ _
      omega
    · have a1 := hc1 nl
      have a2 := hc2 nl
      rw [sf_app, sf_app, sf_cons, List.length_append, List.length_append, List.length_cons, List.length_nil]
      show _ + (nl (wAt ws ko) + 0) + _ + _ ≤ _
      omega
  -- one line made anew
  obtain ⟨ks, rfl⟩ : ∃ j : Nat, spot = j := ⟨spot.toNat, by omega⟩
  obtain ⟨v1, ev1, hv1, lv1⟩ := cutV_sf wd none (some (ks : Int))
  obtain ⟨v2, ev2, hv2, lv2⟩ := cutV_sf wd (some (ks : Int)) none
  obtain ⟨v3, ev3, hv3, lv3⟩ := cutV_sf wd (some ((ks : Int) + 1)) none
  have setl : ∀ (us : List Str) (Gx : Hp) (H' : Hp) (P : Hp → Prop), sf Str.length us + us.length ≤ 2 * (wAt ws ka).length + 20 → sf nl us ≤ 2 * nl (wAt ws ka) → Same G9 Gx → Wd Gx (RD a c) H' → (∀ H'', (∀ Q2 : VK, Q2 = Q → rJoin K (.str "
") [.ref p] H'' Q2) → P H'') → rSetL (.ref p) (.int (ka : Int)) (.str (Txt.join " " us)) H' P := fun us Gx H' P h1 h2 e w' kk => by
    have j1 := join_le len_add " " us
    have j2 := join_le nl_add " " us
    rw [e3] at j1
    rw [e4] at j2
    refine g_setL w' (e _ _ hp9) (j' := ka) (by rw [List.length_map]; exact ixN_nat hka) fun H'' w'' => kk H'' fun Q2 hq => ?_
    subst hq
    have es : (ws.map V.str).set ka (.str (Txt.join " " us)) = (ws.set ka (Txt.join " " us)).map V.str := by rw [List.map_set]
    rw [es] at w''
    have s1 := sf_set Str.length ws ka (Txt.join " " us)
    have s2 := sf_set nl ws ka (Txt.join " " us)
    have sG' : Same G (upd Gx p (.lst ((ws.set ka (Txt.join " " us)).map V.str))) := Same.setL (Same.trans SG9 e) n1
    refine fin p _ _ _ sG' upd_same ?_ ?_ w''
    · rw [List.length_set]; omega
    · rw [List.length_set]; omega
  have jsz : ∀ us : List Str, sf Str.length us + us.length ≤ 2 * (wAt ws ka).length + 20 → (us.map (·.length)).sum + us.length * (" " : Str).length ≤ 16777216 := fun us h => by
    rw [e3]
    show sf Str.length us + _ ≤ _
    omega
  walk_at "go"
  refine g_eqS rfl ?_
  walk_at "go"
  refine iteD (fun h4 => ?_) (fun h4 => ?_)
  · walk_at "go"
    refine g_slLA w (SqL.of hwl) fun q1 J1 I1 m1 t1 r1' w => ?_
    rw [ev1] at r1'
    walk_at "go"
    refine g_newA w (by walk_at "sz") fun q2 J2 I2 m2 t2 r2' w => ?_
    refine g_addLA w (t2 _ _ r1') r2' (by rw [sizeLine_eq, List.length_map]; show _ + 1 ≤ _; omega) fun q3 J3 I3 m3 t3 r3' w => ?_
    walk_at "go"
    refine g_slLA w (SqL.of (t3 _ _ (t2 _ _ (t1 _ _ hwl)))) fun q4 J4 I4 m4 t4 r4' w => ?_
    rw [ev2] at r4'
    refine g_addLA w (t4 _ _ r3') r4' (by rw [sizeLine_eq, List.length_append, List.length_map, List.length_map]; show _ + 1 + _ ≤ _; omega) fun q5 J5 I5 m5 t5 r5' w => ?_
    have em : v1.map V.str ++ [V.str word] ++ v2.map V.str = (v1 ++ [word] ++ v2).map V.str := by simp
    rw [em] at r5'
    have z1 : sf Str.length (v1 ++ [word] ++ v2) + (v1 ++ [word] ++ v2).length ≤ 2 * (wAt ws ka).length + 20 := by
      have a1 := hv1 Str.length
      have a2 := hv2 Str.length
      rw [sf_app, sf_app, sf_cons, List.length_append, List.length_append, List.length_cons, List.length_nil]
      show _ + (word.length + 0) + _ + _ ≤ _
      omega
    have z2 : sf nl (v1 ++ [word] ++ v2) ≤ 2 * nl (wAt ws ka) := by
      have a1 := hv1 nl
      have a2 := hv2 nl
      rw [sf_app, sf_app, sf_cons, wo2]
      show _ + (0 + 0) + _ ≤ _
      omega
    walk_at "go"
    refine g_join w (SqL.of r5') (jsz _ z1) ?_
    walk_at "go"
    refine setl _ _ _ _ z1 z2 (Same.trans t1 (Same.trans t2 (Same.trans t3 (Same.trans t4 t5)))) w fun H'' hj => ?_
    walk_at "go"
    exact hj Q rfl
  walk_at "go"
  refine g_eqS rfl ?_
  walk_at "go"
  refine iteD (fun h5 => ?_) (fun h5 => ?_)
  · walk_at "go"
    refine g_slLA w (SqL.of hwl) fun q1 J1 I1 m1 t1 r1' w => ?_
    rw [ev1] at r1'
    walk_at "go"
    refine g_slLA w (SqL.of (t1 _ _ hwl)) fun q4 J4 I4 m4 t4 r4' w => ?_
    rw [ev3] at r4'
    refine g_addLA w (t4 _ _ r1') r4' (by rw [sizeLine_eq, List.length_map, List.length_map]; omega) fun q5 J5 I5 m5 t5 r5' w => ?_
    rw [← List.map_append] at r5'
    have z1 : sf Str.length (v1 ++ v3) + (v1 ++ v3).length ≤ 2 * (wAt ws ka).length + 20 := by
      have a1 := hv1 Str.length
      have a2 := hv3 Str.length
      rw [sf_app, List.length_append]
      omega
    have z2 : sf nl (v1 ++ v3) ≤ 2 * nl (wAt ws ka) := by
      have a1 := hv1 nl
      have a2 := hv3 nl
      rw [sf_app]
      omega
    walk_at "go"
    refine g_join w (SqL.of r5') (jsz _ z1) ?_
    walk_at "go"
    refine setl _ _ _ _ z1 z2 (Same.trans t1 (Same.trans t4 t5)) w fun H'' hj => ?_
    walk_at "go"
    exact hj Q rfl
  walk_at "go"
  refine g_eqS rfl ?_
  walk_at "go"
  refine iteD (fun h6 => ?_) (fun h6 => ?_)
  · walk_at "go"
    refine g_slLA w (SqL.of hwl) fun q1 J1 I1 m1 t1 r1' w => ?_
    rw [ev1] at r1'
    walk_at "go"
    refine g_newA w (by walk_at "sz") fun q2 J2 I2 m2 t2 r2' w => ?_
    refine g_addLA w (t2 _ _ r1') r2' (by rw [sizeLine_eq, List.length_map]; show _ + 1 ≤ _; omega) fun q3 J3 I3 m3 t3 r3' w => ?_
    walk_at "go"
    refine g_slLA w (SqL.of (t3 _ _ (t2 _ _ (t1 _ _ hwl)))) fun q4 J4 I4 m4 t4 r4' w => ?_
    rw [ev3] at r4'
    refine g_addLA w (t4 _ _ r3') r4' (by rw [sizeLine_eq, List.length_append, List.length_map, List.length_map]; show _ + 1 + _ ≤ _; omega) fun q5 J5 I5 m5 t5 r5' w => ?_
    have em : v1.map V.str ++ [V.str word] ++ v3.map V.str = (v1 ++ [word] ++ v3).map V.str := by simp
    rw [em] at r5'
    have z1 : sf Str.length (v1 ++ [word] ++ v3) + (v1 ++ [word] ++ v3).length ≤ 2 * (wAt ws ka).length + 20 := by
      have a1 := hv1 Str.length
      have a2 := hv3 Str.length
      rw [sf_app, sf_app, sf_cons, List.length_append, List.length_append, List.length_cons, List.length_nil]
      show _ + (word.length + 0) + _ + _ ≤ _
      omega
    have z2 : sf nl (v1 ++ [word] ++ v3) ≤ 2 * nl (wAt ws ka) := by
      have a1 := hv1 nl
      have a2 := hv3 nl
      rw [sf_app, sf_app, sf_cons, wo2]
      show _ + (0 + 0) + _ ≤ _
      omega
    walk_at "go"
    refine g_join w (SqL.of r5') (jsz _ z1) ?_
    walk_at "go"
    refine setl _ _ _ _ z1 z2 (Same.trans t1 (Same.trans t2 (Same.trans t3 (Same.trans t4 t5)))) w fun H'' hj => ?_
    walk_at "go"
    exact hj Q rfl
  have hts : t.length ≤ sizeLine := by rw [sizeLine_eq]; omega
  walk_at "go"
  refine g_lenS hts ?_
  walk_at "go"
  refine ⟨rfl, rfl, _, a, c, _, rfl, w, by omega, by omega, fun pl H12 p0 p1 w => ?_⟩
  walk_at "go"
  refine g_slS hts ?_
  walk_at "go"
  refine g_newA w (by walk_at "sz") fun q2 J2 I2 m2 t2 r2' w => ?_
  walk_at "go"
  refine ⟨rfl, rfl, _, a, c, w, .inl ⟨q2, signS.map V.str, rfl, .inl (SqL.of r2'), by decide, by decide, fun x H11 hx w => ?_⟩⟩
  obtain ⟨sg, hsg, rfl⟩ := List.mem_map.mp hx
  obtain ⟨sg1, sg2⟩ := signS_ok sg hsg
  have b1 := cutS_length t none (some pl)
  have n1' := nl_cut t none (some pl)
  refine g_addS (by rw [sizeLine_eq]; omega) ?_
  walk_at "go"
  refine ⟨rfl, rfl, _, a, c, _, rfl, w, by decide, by decide, fun r3 H13 r30 r31 w => ?_⟩
  walk_at "go"
  have b2 := cutS_length t (some (pl + r3)) none
  have n2' := nl_cut t (some (pl + r3)) none
  refine g_slS hts ?_
  refine g_addS (by rw [sizeLine_eq, strLen_append]; omega) ?_
  refine k _ _ (by rw [strLen_append, strLen_append]; omega) (by rw [nl_add.a, nl_add.a]; omega) (w.drop (Same.trans SG9 t2))
end
end Sv


set_option Elab.async false
set_option linter.all false
set_option maxRecDepth 100000
set_option maxHeartbeats 4000000
namespace Sv
open PySem PySem.Spec PyProof.Rows L2 Sw
local macro_rules | `(tactic| walk_at "go1") => `(tactic| first
  | ((with_reducible refine' g_var ?hv ?_); (case hv => rfl))
  | with_reducible refine g_c ?_
  | with_reducible refine g_op ?_
  | with_reducible refine g_un ?_
  | with_reducible refine g_seq ?_
  | with_reducible refine g_next ?_
  | with_reducible refine g_asg ?_
  | with_reducible refine g_name ?_
  | with_reducible refine g_drop ?_
  | with_reducible refine g_sub ?_
  | with_reducible refine g_ret ?_
  | with_reducible refine g_retN ?_
  | with_reducible refine g_ifS ?_
  | with_reducible refine g_if ?_
  | with_reducible refine g_test ?_
  | with_reducible refine g_bl ?_
  | with_reducible refine g_cons ?_
  | with_reducible refine g_nil ?_
  | with_reducible refine g_and ?_
  | with_reducible refine g_or ?_
  | with_reducible refine g_not ?_
  | with_reducible refine g_callB ?_
  | with_reducible refine g_addI ?_
  | with_reducible refine g_I0 ?_
  | with_reducible refine g_calG ?_
  | with_reducible refine g_mkG ?_
  | with_reducible refine g_tup ?_
  | with_reducible refine g_pairs1 ?_
  | with_reducible refine g_pairs0 ?_
  | with_reducible refine g_dget ?_
  | with_reducible refine g_lvals ?_
  | with_reducible refine g_forT ?_
  | with_reducible refine g_lcT ?_
  | with_reducible refine g_dput ?_
  | with_reducible refine g_lc2L ?_
  | with_reducible refine g_iList ?_
  | with_reducible refine g_lcX ?_
  | with_reducible refine g_js1 ?_
  | with_reducible refine g_js0 ?_
  | with_reducible refine g_fmt ?_
  | with_reducible refine g_tLenSet ?_
  | with_reducible refine g_mkV ?_
  | with_reducible refine g_mkV1 ?_
  | with_reducible refine g_lst ?_
  | with_reducible refine g_forL ?_
  | with_reducible refine g_forR ?_
  | with_reducible refine g_forR2 ?_
  | with_reducible refine g_forS ?_
  | with_reducible refine g_forE ?_
  | with_reducible refine g_lcL ?_
  | with_reducible refine g_lcR ?_
  | with_reducible refine g_lcS ?_
  | with_reducible refine g_lcE ?_
  | with_reducible refine g_orT ?_
  | with_reducible refine g_slc ?_
  | with_reducible refine g_noPart ?_
  | with_reducible refine g_part ?_
  | with_reducible refine g_bm ?_
  | with_reducible refine g_par ?_
  | with_reducible refine g_yes ?_
  | with_reducible refine g_tupG ?_
  | with_reducible refine g_lstG ?_
  | with_reducible refine g_gcons ?_
  | with_reducible refine g_gnil ?_
  | with_reducible refine g_chain ?_
  | with_reducible refine g_truB ?_
  | with_reducible refine g_truN ?_
  | with_reducible refine g_truI ?_
  | with_reducible refine g_m1 ?_
  | with_reducible refine g_fld ?_
  | with_reducible refine g_con ?_
  | with_reducible refine g_tru ?_
  | with_reducible refine g_U ?_
  | with_reducible refine g_xg ?_
  | with_reducible refine g_andT ?_
  | with_reducible refine g_exI ?_
  | with_reducible refine g_dnew ?_
  | with_reducible refine g_intB ?_
  | with_reducible refine g_meth ?_
  | with_reducible refine g_prop ?_
  | with_reducible refine g_exc1 ?_
  | with_reducible refine g_setF ?_
  | with_reducible refine g_star ?_
  | with_reducible refine g_strM ?_
  | with_reducible refine iteT ?_
  | with_reducible refine iteF ?_
  | with_reducible refine iteNT ?_
  | with_reducible refine iteNF ?_)
local macro_rules | `(tactic| walk_at "go") => `(tactic| repeat (walk_at "go1"))
local macro_rules | `(tactic| walk_at "sz") => `(tactic| (first | (rw [sizeLine_eq]; simp only [List.length_cons, List.length_nil, List.length_map, List.length_append, List.length_take]; omega) | (rw [sizeLine_eq]; omega)))
/-- the classes that may be raised -/
def errCs (A : Ad) : List Addr := [A.InvalidText, A.InvalidGroup, A.InvalidName, A.InvalidColumn, A.UnknownTable]
structure RdF (K : PySem.W.Frag) (A : Ad) : Prop where
  em : ∀ C ∈ errCs A, PySem.W.exmOne K (.ref C) (.ref A.SaveError) = some true
  ec : ∀ C ∈ errCs A, ExcC K C
  xf : ∀ C ∈ errCs A, XfC K C
  ki : ∀ (i j : Nat) (C D : Addr), (errCs A)[i]? = some C → (errCs A)[j]? = some D → PySem.W.kitOne K (.ref C) (.ref D) = some (decide (i = j))
  nl : ∀ C ∈ errCs A, ∀ f ∈ (["line", "index", "name"] : List Str), PySem.W.findIn K (.ref C) f = some none
def errX (A : Ad) : PRes → Option (Nat × Str × V)
  | .text i => some (0, "line", .int (i : Nat))
  | .grp i => some (1, "index", .int (i : Nat))
  | .name o => some (2, "name", optV o)
  | .col o => some (3, "name", optV o)
  | .unknown n => some (4, "name", .str n)
  | .ok _ => none
theorem PQ.of {K : PySem.W.Frag} {A : Ad} {G : Hp} {R : Res} {Q : VK} {E : XK} {r : PRes} (h1 : ∀ i C f x, errX A r = some (i, f, x) → (errCs A)[i]? = some C → XQ G R C f x E) (h2 : ∀ ts, r = .ok ts → ∀ x G' H', Same G G' → G x = none → SchAt K A G' x ts → Wd G' R H' → Q (.ref x) H') : PQ K A G R Q E r := by
  cases r with
  | text i => exact h1 0 _ _ _ rfl rfl
  | grp i => exact h1 1 _ _ _ rfl rfl
  | name i => exact h1 2 _ _ _ rfl rfl
  | col i => exact h1 3 _ _ _ rfl rfl
  | unknown i => exact h1 4 _ _ _ rfl rfl
  | ok ts => exact h2 ts rfl
section
variable {P : Program} {wo : World} {A : Ad} {K : PySem.W.Frag} {mg : Str → Option Value} {base : Heap}
theorem g_isX {G H : Hp} {R : Res} {Q : VK} {a d C D : Addr} {fs : List (Str × V)} {b : Bool} (w : Wd G R H) (ha : G a = some (exv a (.ref C) (some d))) (hd : G d = some (.xd fs)) (ec : ExcC K C) (hk : PySem.W.kitOne K (.ref C) (.ref D) = some b) (k : Q (.bl b) H) : rIsV K [.ref a, .ref D] H Q :=
  ⟨a, C, some d, .ref D, .ref D, b, rfl, .inr (w.get ha), fun _ z => ⟨fs, by cases z; exact .inr (w.get hd)⟩, ec, fun u r => r, hk, k⟩
theorem g_xX {G H : Hp} {R : Res} {P : V → Prop} {a d C : Addr} {fs : List (Str × V)} {f : Str} {v : V} (w : Wd G R H) (ha : G a = some (exv a (.ref C) (some d))) (hd : G d = some (.xd fs)) (xf : XfC K C) (hno : PySem.W.findIn K (.ref C) f = some none) (hl : fs.lookup f = some v) (k : P v) :
    ∃ (a' C' dd : Addr) (fs' : List (Str × V)) (v' : V), V.ref a = .ref a' ∧ ExAt H a' C' (some dd) ∧ DxAt H dd fs' ∧ XfC K C' ∧ PySem.W.findIn K (.ref C') f = some none ∧ fs'.lookup f = some v' ∧ P v' := ⟨a, C, d, fs, v, rfl, .inr (w.get ha), .inr (w.get hd), xf, hno, hl, k⟩
theorem idx_no (i : Nat) (h : i < 5) (m : Nat) (z' : V) (hm : m < i) (hz : ([decide (i = 0), decide (i = 1), decide (i = 2), decide (i = 3), decide (i = 4)].map V.bl)[m]? = some z') : eqV z' (.bl true) = false := by
  rcases (show i = 0 ∨ i = 1 ∨ i = 2 ∨ i = 3 ∨ i = 4 by omega) with z | z | z | z | z <;> subst z <;> rcases (show m = 0 ∨ m = 1 ∨ m = 2 ∨ m = 3 ∨ 4 ≤ m by omega) with y | y | y | y | y <;> first | omega | (subst y; cases hz; rfl)
theorem joinSeq {s1 s2 : TS} {D : Ends} {σ : L2.St} {H : Hp} {C : L2.St → Hp → Prop} (h : ∀ N : L2.St → Hp → Prop, (∀ σ' H', C σ' H' → N σ' H') → s1 { D with nx := N } σ H) (k : ∀ σ' H', C σ' H' → s2 D σ' H') : tSeq s1 s2 D σ H := h (s2 D) k
/-! ### _law_read -/
def spLRead (K : PySem.W.Frag) (A : Ad) : Sp := fun vs H Q _ => ∃ G R v r, vs = [v] ∧ Wd G R H ∧
  ((∃ s : Str, v = .str s ∧ s.length ≤ 1000000 ∧ (Txt.split s "\n").length ≤ 1000 ∧ r = parseS s) ∨ (NotStr K G v ∧ r = .text 0)) ∧ (∀ ts, r = .ok ts → (∀ t ∈ ts, t.ok) ∧ (schLines ts).length ≤ 100000) ∧
  (∀ xs, errV r = some xs → ∀ t G' H', Same G G' → G' t = some (.tup xs) → Wd G' R H' → Q (.ref t) H') ∧ (∀ ts, r = .ok ts → ∀ H', Wd G R H' → Q (.str (schText ts)) H')
theorem sc__law_read : FnScope (["_law_value", "_law_found", "_law_caught", "e", "_law_kinds", "_law_word"] : List Str) (["_law_value"] : List Str) (defScope s__law_read) := ⟨rfl, rfl, rfl, by decide +kernel, rfl, by decide +kernel, by decide +kernel⟩
theorem ok_lread {f : Addr} {fd : FuncData} (F : Fun K "_law_read" "_law_read" s__law_read f fd) (T : Txt K mg A) (RF : RdF K A) (Gspa : GSt P wo K mg base 10 "Schema" "parse" 1 [] (fun vs _ => spSchParse K A vs))
    (GT : GPr P wo K mg base 6 A.Schema "text" (fun vs _ => spSText K A vs)) : FnOk P wo K mg base (L2.CX P wo) 11 f fd (["_law_value"] : List Str) (spLRead K A) := by
  refine okT F sc__law_read (fun vs H Q E h => ?_) (fun cdv Ar outer s H vs Q E hr tk po h => ?_)
  · obtain ⟨_, _, _, _, rfl, _⟩ := h
    rfl
  obtain ⟨G, R, v, r, rfl, w, h, hok, k1, k2⟩ := h
  refine ⟨_, (pss_cons (ps_asg (pe_tup (pa_cons pe_non (pa_cons pe_non pa_nil))) (kg_tup (n := 2) K rfl (pgs_cons (pg_name (i := 1) sc__law_read.nd rfl (by first | exact Or.inl rfl | exact Or.inr rfl)) (pgs_cons (pg_name (i := 2) sc__law_read.nd rfl (by first | exact Or.inl rfl | exact Or.inr rfl)) pgs_nil))))
      (pss_cons (ps_try_keep (i := 3) rfl rfl sc__law_read.nd rfl rfl (names_of rfl T.g_SaveError) tk rfl (fun _ _ _ tk po => (pss_one (ps_set (i := 1) sc__law_read.nd rfl (by first | exact Or.inl rfl | exact Or.inr rfl) (pe_static Gspa (hr.mono (by decide)) tk (pa_cons (pv 0) pa_nil) pk_nil)))) (fun _ _ _ _ _ hz hf => (pss_one (ps_set (i := 2) sc__law_read.nd rfl (by first | exact Or.inl rfl | exact Or.inr rfl) (pv 3)))))
      (pss_cons (ps_if (pt_cmpR op_isN (pv 2) pe_non (nomark _)) (pss_one (ps_ret (kp_prop (k := 6) P wo K mg base (pv 1) (hr.mono (by decide))))) pss_nil)
      (pss_cons (ps_set (i := 4) sc__law_read.nd rfl (by first | exact Or.inl rfl | exact Or.inr rfl) (pe_lst (pa_cons (pe_callB (call_isV K) (by rfl) T.nb_isinstance (by decide +kernel) (pa_cons (pv 2) (pa_cons (pe_globE (by rfl) T.g_InvalidText) pa_nil))) (pa_cons (pe_callB (call_isV K) (by rfl) T.nb_isinstance (by decide +kernel) (pa_cons (pv 2) (pa_cons (pe_globE (by rfl) T.g_InvalidGroup) pa_nil))) pa_nil))))
      (pss_cons (ps_set (i := 4) sc__law_read.nd rfl (by first | exact Or.inl rfl | exact Or.inr rfl) (pe_op (ka_add K) (pv 4) (pe_lst (pa_cons (pe_callB (call_isV K) (by rfl) T.nb_isinstance (by decide +kernel) (pa_cons (pv 2) (pa_cons (pe_globE (by rfl) T.g_InvalidName) pa_nil))) (pa_cons (pe_callB (call_isV K) (by rfl) T.nb_isinstance (by decide +kernel) (pa_cons (pv 2) (pa_cons (pe_globE (by rfl) T.g_InvalidColumn) pa_nil))) pa_nil)))))
      (pss_cons (ps_expr (pe_bm PySem.F.plainAttrs_list PySem.F.slot_list_append PySem.F.type_list_append mt_append (pv 4) (pa_cons (pe_callB (call_isV K) (by rfl) T.nb_isinstance (by decide +kernel) (pa_cons (pv 2) (pa_cons (pe_globE (by rfl) T.g_UnknownTable) pa_nil))) pa_nil)))
      (pss_cons (ps_if (pt_cmpR (ka_ne K hr.units) (pe_bm PySem.F.plainAttrs_list PySem.F.slot_list_count PySem.F.type_list_count (mt_bcount K) (pv 4) (pa_cons pe_bl pa_nil)) pe_int (nomark _)) (pss_one (ps_ret (pe_tup (pa_cons pe_str (pa_cons pe_non pa_nil))))) pss_nil)
      (pss_cons (ps_if (kt_truth K (pe_ix (ka_ix K) (pv 4) pe_int (fun _ _ => rfl)) (by intro _; rfl)) (pss_one (ps_ret (pe_tup (pa_cons pe_str (pa_cons (pe_xv K (pv 2)) pa_nil))))) pss_nil)
      (pss_cons (ps_if (kt_truth K (pe_ix (ka_ix K) (pv 4) pe_int (fun _ _ => rfl)) (by intro _; rfl)) (pss_one (ps_ret (pe_tup (pa_cons pe_str (pa_cons (pe_xv K (pv 2)) pa_nil))))) pss_nil)
      (pss_cons (ps_set (i := 5) sc__law_read.nd rfl (by first | exact Or.inl rfl | exact Or.inr rfl) (pe_ix (ka_ix K) (pe_lst (pa_cons pe_str (pa_cons pe_str (pa_cons pe_str pa_nil)))) (pe_op op_sub (pe_bm PySem.F.plainAttrs_list PySem.F.slot_list_index PySem.F.type_list_index mt_index (pv 4) (pa_cons pe_bl pa_nil)) pe_int) (fun _ _ => rfl)))
      (pss_one (ps_ret (pe_tup (pa_cons (pv 5) (pa_cons (pe_xv K (pv 2)) pa_nil))))))))))))))), ?_⟩
  walk_at "go"
  refine g_newL w (by walk_at "sz") fun tp H0 n0 w0 => ?_
  refine ⟨tp, _, rfl, SqT.of (w0.get upd_same), rfl, ?_⟩
  replace w := w0.drop (Same.newG n0)
  with_reducible refine g_gcons ?_
  with_reducible refine g_name ?_
  with_reducible refine g_gcons ?_
  with_reducible refine g_name ?_
  with_reducible refine g_gnil ?_
  with_reducible refine joinSeq (C := fun σ' H' => (∃ ts x G', r = .ok ts ∧ σ' = [some v, some (.ref x), some .non, none, none, none] ∧ Same G G' ∧ SchAt K A G' x ts ∧ Wd G' R H') ∨
    (∃ i C f x a d G', errX A r = some (i, f, x) ∧ (errCs A)[i]? = some C ∧ σ' = [some v, some .non, some (.ref a), none, none, none] ∧ Same G G' ∧ G' a = some (exv a (.ref C) (some d)) ∧ G' d = some (.xd [(f, x)]) ∧ Wd G' R H')) ?_ ?_
  · intro N hN
    have PQr : ∀ (Q : VK) (E : XK), PQ K A G R Q E r → spSchParse K A [v] H0 Q E := fun Q E hpq => by
      refine ⟨G, R, v, rfl, w, ?_⟩
      rcases h with ⟨s, rfl, h1, h2, rfl⟩ | ⟨h1, rfl⟩
      · exact .inl ⟨s, rfl, h1, h2, hpq⟩
      · exact .inr ⟨h1, hpq⟩
    walk_at "go"
    refine ⟨rfl, rfl, PQr _ _ (PQ.of (fun i C f x e1 e2 => ?_) fun ts e1 x G' H' s n hs w' => ?_)⟩
    · intro G' d H' s nd hd w'
      have hm := List.mem_of_getElem? e2
      refine ⟨true, RF.em C hm, fun _ a ha => ?_, fun z => Bool.noConfusion z⟩
      walk_at "go"
      refine hN _ _ (.inr ⟨i, C, f, x, a, d, _, e1, e2, rfl, Same.trans s (Same.newG (w'.free ha)), upd_same, upd_old hd (w'.free ha), w'.new ha⟩)
    · walk_at "go"
      exact hN _ _ (.inl ⟨ts, x, G', e1, rfl, s, hs, w'⟩)
  rintro _ H1 (⟨ts, x, G', e1, rfl, s1, hs, w⟩ | ⟨i, C, f, x, a, d, G', e1, e2, rfl, s1, ha, hd, w⟩)
  · obtain ⟨o1, o2⟩ := hok ts e1
    obtain ⟨dx, dd, tas, hx1, hx2⟩ := id hs
    walk_at "go"
    refine ⟨rfl, _, rfl, ?_⟩
    rw [decide_eq_true (show V.non = V.non from rfl)]
    walk_at "go"
    refine ⟨x, A.Schema, dx, _, _, rfl, w.get hx1, GT, ?_⟩
    exact ⟨G', R, x, ts, rfl, w, hs, o1, o2, fun H2 w2 => k2 ts e1 _ (w2.drop s1)⟩
  have hm := List.mem_of_getElem? e2
  have hec := RF.ec C hm
  have hxf := RF.xf C hm
  have hki := fun j D (h : (errCs A)[j]? = some D) => RF.ki i j C D e2 h
  have i0 := hki 0 _ rfl
  have i1 := hki 1 _ rfl
  have i2 := hki 2 _ rfl
  have i3 := hki 3 _ rfl
  have i4 := hki 4 _ rfl
  have hfn : f ∈ (["line", "index", "name"] : List Str) := by
    cases r with
    | ok ts => cases e1
    | _ => cases e1; decide +kernel
  have hno := RF.nl C hm f hfn
  have ret : ∀ (wd : Str) G2 H2 t, errV r = some [.str wd, x] → Same G' G2 → G2 t = some (.tup [.str wd, x]) → Wd G2 R H2 → Q (.ref t) H2 := fun wd G2 H2 t e s q w2 => k1 _ e t G2 H2 (Same.trans s1 s) q w2
  walk_at "go"
  refine ⟨rfl, _, rfl, ?_⟩
  rw [decide_eq_false (show ¬ (V.ref a = V.non) from fun z => nomatch z)]
  walk_at "go"
  refine g_isX w ha hd hec i0 ?_
  walk_at "go"
  refine g_isX w ha hd hec i1 ?_
  walk_at "go"
  refine g_newA w (by walk_at "sz") fun q2 G2 H2 n2 s2 q2' w => ?_
  have ha2 := s2 _ _ ha
  have hd2 := s2 _ _ hd
  walk_at "go"
  refine g_isX w ha2 hd2 hec i2 ?_
  walk_at "go"
  refine g_isX w ha2 hd2 hec i3 ?_
  walk_at "go"
  refine g_newA w (by walk_at "sz") fun q3 G3 H3 n3 s3 q3' w => ?_
  refine g_addLA w (s3 _ _ q2') q3' (by rw [sizeLine_eq]; show 2 + 2 ≤ 16777216; decide) fun q4 G4 H4 n4 s4 q4' w => ?_
  have S4 : Same G' G4 := Same.trans s2 (Same.trans s3 s4)
  walk_at "go"
  refine g_tyL w q4' ?_
  walk_at "go"
  refine g_isX w (S4 _ _ ha) (S4 _ _ hd) hec i4 ?_
  walk_at "go"
  refine g_app w q4' (by rw [sizeLine_eq]; show 4 < 16777216; decide) fun H5 w => ?_
  have n4' : G' q4 = none := Same.free (Same.trans s2 s3) n4
  have S5 : Same G' (upd G4 q4 (.lst ([V.bl (decide (i = 0)), V.bl (decide (i = 1))] ++ [V.bl (decide (i = 2)), V.bl (decide (i = 3))] ++ [V.bl (decide (i = 4))]))) := Same.setL S4 n4'
  have q5 : upd G4 q4 (.lst ([V.bl (decide (i = 0)), V.bl (decide (i = 1))] ++ [V.bl (decide (i = 2)), V.bl (decide (i = 3))] ++ [V.bl (decide (i = 4))])) q4 = some (.lst ([decide (i = 0), decide (i = 1), decide (i = 2), decide (i = 3), decide (i = 4)].map V.bl)) := upd_same
  generalize upd G4 q4 (.lst ([V.bl (decide (i = 0)), V.bl (decide (i = 1))] ++ [V.bl (decide (i = 2)), V.bl (decide (i = 3))] ++ [V.bl (decide (i = 4))])) = G5 at *
  have ha5 := S5 _ _ ha
  have hd5 := S5 _ _ hd
  have hi : i < 5 := (List.getElem?_eq_some_iff.mp e2).1
  have hcnt : ([decide (i = 0), decide (i = 1), decide (i = 2), decide (i = 3), decide (i = 4)].count true) = 1 := by
    rcases (show i = 0 ∨ i = 1 ∨ i = 2 ∨ i = 3 ∨ i = 4 by omega) with z | z | z | z | z <;> (subst z; decide)
  walk_at "go"
  refine g_tyL w q5 ?_
  walk_at "go"
  refine ⟨q4, _, true, rfl, rfl, SqL.of (w.get q5), ?_⟩
  rw [hcnt]
  walk_at "go"
  refine g_neS rfl ?_
  rw [decide_eq_true (show V.int ((1 : Nat) : Int) = V.int 1 from rfl)]
  walk_at "go"
  cases r with
    | ok ts => cases e1
    | text j =>
      cases e1
      refine g_ixL w (SqL.of q5) (v := .bl (decide (0 = 0))) (atI_nat (i := 0) rfl) ?_
      walk_at "go"
      refine iteT ?_
      walk_at "go"
      refine g_tXv ?_
      walk_at "go"
      refine g_xX w ha5 hd5 hxf hno lk_eq ?_
      walk_at "go"
      refine g_newA w (by walk_at "sz") fun t G7 H7 n7 s7 q7 w => ?_
      exact ret "text" G7 H7 t rfl (Same.trans S5 s7) q7 w
    | grp j =>
      cases e1
      refine g_ixL w (SqL.of q5) (v := .bl (decide (1 = 0))) (atI_nat (i := 0) rfl) ?_
      walk_at "go"
      refine iteF ?_
      walk_at "go"
      refine g_ixL w (SqL.of q5) (v := .bl (decide (1 = 1))) (atI_nat (i := 1) rfl) ?_
      walk_at "go"
      refine iteT ?_
      walk_at "go"
      refine g_tXv ?_
      walk_at "go"
      refine g_xX w ha5 hd5 hxf hno lk_eq ?_
      walk_at "go"
      refine g_newA w (by walk_at "sz") fun t G7 H7 n7 s7 q7 w => ?_
      exact ret "group" G7 H7 t rfl (Same.trans S5 s7) q7 w
    | name j =>
      cases e1
      refine g_ixL w (SqL.of q5) (v := .bl (decide (2 = 0))) (atI_nat (i := 0) rfl) ?_
      walk_at "go"
      refine iteF ?_
      walk_at "go"
      refine g_ixL w (SqL.of q5) (v := .bl (decide (2 = 1))) (atI_nat (i := 1) rfl) ?_
      walk_at "go"
      refine iteF ?_
      walk_at "go"
      refine g_newA w (by walk_at "sz") fun q6 G6 H6 n6 s6 q6' w => ?_
      walk_at "go"
      refine g_tyL w (s6 _ _ q5) ?_
      walk_at "go"
      refine ⟨q4, _, .bl true, 2, .bl true, rfl, rfl, SqL.of (w.get (s6 _ _ q5)), rfl, rfl, rfl, rfl, idx_no 2 (by decide), ?_⟩
      walk_at "go"
      refine g_ixL w (SqL.of q6') (v := .str "name") rfl ?_
      walk_at "go"
      replace w := w.drop s6
      refine g_tXv ?_
      walk_at "go"
      refine g_xX w ha5 hd5 hxf hno lk_eq ?_
      walk_at "go"
      refine g_newA w (by walk_at "sz") fun t G7 H7 n7 s7 q7 w => ?_
      exact ret "name" G7 H7 t rfl (Same.trans S5 s7) q7 w
    | col j =>
      cases e1
      refine g_ixL w (SqL.of q5) (v := .bl (decide (3 = 0))) (atI_nat (i := 0) rfl) ?_
      walk_at "go"
      refine iteF ?_
      walk_at "go"
      refine g_ixL w (SqL.of q5) (v := .bl (decide (3 = 1))) (atI_nat (i := 1) rfl) ?_
      walk_at "go"
      refine iteF ?_
      walk_at "go"
      refine g_newA w (by walk_at "sz") fun q6 G6 H6 n6 s6 q6' w => ?_
      walk_at "go"
      refine g_tyL w (s6 _ _ q5) ?_
      walk_at "go"
      refine ⟨q4, _, .bl true, 3, .bl true, rfl, rfl, SqL.of (w.get (s6 _ _ q5)), rfl, rfl, rfl, rfl, idx_no 3 (by decide), ?_⟩
      walk_at "go"
      refine g_ixL w (SqL.of q6') (v := .str "column") rfl ?_
      walk_at "go"
      replace w := w.drop s6
      refine g_tXv ?_
      walk_at "go"
      refine g_xX w ha5 hd5 hxf hno lk_eq ?_
      walk_at "go"
      refine g_newA w (by walk_at "sz") fun t G7 H7 n7 s7 q7 w => ?_
      exact ret "column" G7 H7 t rfl (Same.trans S5 s7) q7 w
    | unknown j =>
      cases e1
      refine g_ixL w (SqL.of q5) (v := .bl (decide (4 = 0))) (atI_nat (i := 0) rfl) ?_
      walk_at "go"
      refine iteF ?_
      walk_at "go"
      refine g_ixL w (SqL.of q5) (v := .bl (decide (4 = 1))) (atI_nat (i := 1) rfl) ?_
      walk_at "go"
      refine iteF ?_
      walk_at "go"
      refine g_newA w (by walk_at "sz") fun q6 G6 H6 n6 s6 q6' w => ?_
      walk_at "go"
      refine g_tyL w (s6 _ _ q5) ?_
      walk_at "go"
      refine ⟨q4, _, .bl true, 4, .bl true, rfl, rfl, SqL.of (w.get (s6 _ _ q5)), rfl, rfl, rfl, rfl, idx_no 4 (by decide), ?_⟩
      walk_at "go"
      refine g_ixL w (SqL.of q6') (v := .str "unknown") rfl ?_
      walk_at "go"
      replace w := w.drop s6
      refine g_tXv ?_
      walk_at "go"
      refine g_xX w ha5 hd5 hxf hno lk_eq ?_
      walk_at "go"
      refine g_newA w (by walk_at "sz") fun t G7 H7 n7 s7 q7 w => ?_
      exact ret "unknown" G7 H7 t rfl (Same.trans S5 s7) q7 w
end
end Sv


set_option Elab.async false
set_option linter.all false
set_option maxRecDepth 100000
set_option maxHeartbeats 4000000
namespace Sv
open PySem PySem.Spec PyProof.Rows L2 Sw
def partLines (p : Part) : List Str := (("table " : Str) ++ p.1) :: p.2.1.map Col.text ++ p.2.2.map grpText
def allLines (ps : List Part) : List Str := ps.flatMap partLines
theorem allLines_snoc (ps : List Part) (p : Part) : allLines (ps ++ [p]) = allLines ps ++ partLines p := by
  unfold allLines
  rw [List.flatMap_append]
  simp
theorem lines_tabs (ps : List Part) : schLines (ps.map partTab) = allLines ps := by
  unfold schLines allLines
  rw [List.flatMap_map]
  rfl
theorem str_nil_app (s : Str) : s ++ Str.empty = s := by
  show (⟨s.cps ++ #[]⟩ : Str) = s
  rw [Array.append_empty]
theorem str_assoc (a b c : Str) : a ++ b ++ c = a ++ (b ++ c) := by
  show (⟨(a.cps ++ b.cps) ++ c.cps⟩ : Str) = ⟨a.cps ++ (b.cps ++ c.cps)⟩
  rw [Array.append_assoc]
theorem join_words (l : Str) : Str.join " " (Txt.split l " ") = l := StrLaws.join_split l " "
theorem took_lines {ps ps' : List Part} {l : Str} (h : tookLine ps l = some ps') : allLines ps' = allLines ps ++ [l] := by
  have jw := join_words l
  by_cases ht : tbLine (Txt.split l " ")
  · rw [tl_table ht] at h
    cases h
    rw [allLines_snoc]
    congr 1
    obtain ⟨h0, h2, _⟩ := ht
    generalize Txt.split l " " = ws at *
    match ws, h2 with
    | [a, b], _ =>
      have h0 : a = "table" := h0
      subst h0
      rw [← jw]
      show [("table " : Str) ++ b] = [("table" : Str) ++ " " ++ b]
      have e : (("table" : Str) ++ " ") = "table " := by decide +kernel
      rw [e]
  · rcases parts_view ps with rfl | ⟨init, p, rfl⟩
    · rw [tl_nil ht] at h
      cases h
    · rw [tl_last ht] at h
      rw [allLines_snoc]
      split at h
      · rename_i hu
        split at h
        · rename_i hc
          cases h
          rw [allLines_snoc, List.append_assoc]
          congr 1
          show (("table " : Str) ++ p.1) :: p.2.1.map Col.text ++ (p.2.2 ++ [(Txt.split l " ").drop 1]).map grpText = ((("table " : Str) ++ p.1) :: p.2.1.map Col.text ++ p.2.2.map grpText) ++ [l]
          rw [List.map_append, ← List.append_assoc]
          congr 1
          show [Txt.join " " ("unique" :: (Txt.split l " ").drop 1)] = [l]
          rw [TL.join_eq]
          congr 1
          generalize Txt.split l " " = ws at *
          match ws, hc.1 with
          | a :: r, _ =>
            have hu : a = "unique" := hu
            subst hu
            exact jw
        · cases h
      · split at h
        · rename_i hg
          split at h
          · rename_i c hc
            cases h
            rw [allLines_snoc, List.append_assoc]
            congr 1
            show (("table " : Str) ++ p.1) :: (p.2.1 ++ [c]).map Col.text ++ p.2.2.map grpText = ((("table " : Str) ++ p.1) :: p.2.1.map Col.text ++ p.2.2.map grpText) ++ [l]
            have ec : c.text = l := by
              unfold parseT at hc
              split at hc
              · split at hc
                · rename_i q
                  cases hc
                  exact q
                · cases hc
              · cases hc
            rw [hg, List.map_nil, List.append_nil, List.append_nil, List.map_append, ← ec]
            rfl
          · cases h
        · cases h
theorem run_lines : ∀ (ls : List Str) (ps ps' : List Part) (i : Nat), runL ps i ls = .inr ps' → allLines ps' = allLines ps ++ ls
  | [], ps, ps', i, h => by
    have : ps = ps' := Sum.inr.inj h
    rw [this, List.append_nil]
  | l :: r, ps, ps', i, h => by
    cases e : tookLine ps l with
    | none => rw [runL_stop e] at h; cases h
    | some ps1 =>
      rw [runL_step e] at h
      rw [run_lines r ps1 ps' (i + 1) h, took_lines e, List.append_assoc]
      rfl
theorem run_ok : ∀ (ls : List Str) (ps ps' : List Part) (i : Nat), runL ps i ls = .inr ps' → Pok ps → Psz ps i → Pok ps' ∧ Psz ps' (i + ls.length)
  | [], ps, ps', i, h, a, b => by
    have : ps = ps' := Sum.inr.inj h
    rw [← this]
    exact ⟨a, b⟩
  | l :: r, ps, ps', i, h, a, b => by
    cases e : tookLine ps l with
    | none => rw [runL_stop e] at h; cases h
    | some ps1 =>
      rw [runL_step e] at h
      obtain ⟨a1, b1⟩ := took_keep e a b
      have := run_ok r ps1 ps' (i + 1) h a1 b1
      rw [List.length_cons]
      rw [show i + (r.length + 1) = i + 1 + r.length by omega]
      exact this
theorem joinNl : ∀ ls : List Str, Str.join "" (ls.map (· ++ ("\n" : Str))) = Str.join "\n" (ls ++ [("" : Str)])
  | [] => rfl
  | [a] => by
    show a ++ ("\n" : Str) = a ++ ("\n" : Str) ++ ""
    exact (str_nil_app _).symm
  | a :: b :: r => by
    have ih := joinNl (b :: r)
    show (a ++ ("\n" : Str)) ++ "" ++ Str.join "" ((b :: r).map (· ++ ("\n" : Str))) = a ++ "\n" ++ Str.join "\n" ((b :: r) ++ [("" : Str)])
    rw [ih]
    congr 1
theorem lines_back {s : Str} (h : lastS s = "") : Str.join "" ((linesS s).map (· ++ ("\n" : Str))) = s := by
  rw [joinNl]
  have e : linesS s = (Txt.split s "\n").dropLast := if_pos h
  have la := last_app (splitN_pos s)
  rw [show wAt (Txt.split s "\n") ((Txt.split s "\n").length - 1) = lastS s from rfl, h] at la
  rw [e, la]
  exact StrLaws.join_split s "\n"
theorem tabRes_ok {cs : List Col} {gs : List (List Str)} (h : tabRes true cs (gs.map some) = .ok) : firstDup [] (cs.map Col.name) = none ∧ cs ≠ [] ∧ ∀ g ∈ gs, isGrp cs g = true := by
  unfold tabRes at h
  rw [if_neg (by decide)] at h
  cases e : firstDup [] (cs.map Col.name) with
  | some n => rw [e] at h; cases h
  | none =>
    rw [e] at h
    by_cases hc : cs = []
    · rw [hc] at h; cases h
    · refine ⟨rfl, hc, fun g hg => ?_⟩
      simp only [if_neg hc] at h
      cases e2 : (gs.map some).findIdx? (fun o => !grpB cs o) with
      | some i => rw [e2] at h; cases h
      | none =>
        have := (List.findIdx?_eq_none_iff.mp e2) (some g) (List.mem_map_of_mem hg)
        cases q : isGrp cs g with
        | true => rfl
        | false =>
          have z : (!isGrp cs g) = false := this
          rw [q] at z
          cases z
theorem partsErr_ok : ∀ {ps : List Part}, partsErr ps = none → ∀ p ∈ ps, tabRes true p.2.1 (p.2.2.map some) = .ok
  | [], _, p, h => absurd h List.not_mem_nil
  | q :: r, h, p, hp => by
    have e : partsErr (q :: r) = match tabRes true q.2.1 (q.2.2.map some) with
      | .name => some (.name (some q.1))
      | .col o => some (.col o)
      | .grp i => some (.grp i)
      | .ok => partsErr r := rfl
    rw [e] at h
    cases er : tabRes true q.2.1 (q.2.2.map some) with
    | name => rw [er] at h; cases h
    | col o => rw [er] at h; cases h
    | grp o => rw [er] at h; cases h
    | ok =>
      rw [er] at h
      rcases List.mem_cons.mp hp with rfl | hp
      · exact er
      · exact partsErr_ok h p hp
theorem schP_ok {ps : List Part} {ts : List Tab} (h : schP ps = .ok ts) : partsErr ps = none ∧ ts = ps.map partTab := by
  unfold schP at h
  cases e : partsErr ps with
  | some r =>
    rw [e] at h
    have : r = .ok ts := h
    rw [this] at e
    exfalso
    clear h this
    induction ps with
    | nil => cases e
    | cons q l ih =>
      have e' : partsErr (q :: l) = match tabRes true q.2.1 (q.2.2.map some) with
        | .name => some (.name (some q.1))
        | .col o => some (.col o)
        | .grp i => some (.grp i)
        | .ok => partsErr l := rfl
      rw [e'] at e
      cases er : tabRes true q.2.1 (q.2.2.map some) with
      | name => rw [er] at e; cases e
      | col o => rw [er] at e; cases e
      | grp o => rw [er] at e; cases e
      | ok => rw [er] at e; exact ih e
  | none =>
    rw [e] at h
    cases e2 : schRes (ps.map partTab) with
    | name o => rw [e2] at h; cases h
    | unknown o => rw [e2] at h; cases h
    | ok => rw [e2] at h; cases h; exact ⟨rfl, rfl⟩
theorem parse_back {s : Str} {ts : List Tab} (h : parseS s = .ok ts) (hl : (Txt.split s "\n").length ≤ 1000) : schText ts = s ∧ (∀ t ∈ ts, t.ok) ∧ (schLines ts).length ≤ 1000 := by
  have hll : (linesS s).length ≤ 1000 := by
    unfold linesS
    split
    · rw [List.length_dropLast]; omega
    · exact hl
  unfold parseS at h
  cases e : runL [] 0 (linesS s) with
  | inl i => rw [e] at h; cases h
  | inr ps =>
    rw [e] at h
    by_cases hs : lastS s = ""
    · simp only [if_pos hs] at h
      obtain ⟨hp, rfl⟩ := schP_ok h
      have hal := run_lines _ _ _ _ e
      obtain ⟨ok, sz⟩ := run_ok _ _ _ _ e (fun _ z => absurd z List.not_mem_nil) ⟨Nat.le_refl _, fun _ z => absurd z List.not_mem_nil⟩
      have eL : schLines (ps.map partTab) = linesS s := by
        rw [lines_tabs, hal]
        rfl
      refine ⟨?_, fun t ht => ?_, by rw [eL]; exact hll⟩
      · unfold schText
        rw [TL.join_eq, eL]
        exact lines_back hs
      · obtain ⟨p, hpm, rfl⟩ := List.mem_map.mp ht
        obtain ⟨o1, o2, o3⟩ := ok p hpm
        obtain ⟨z1, z2⟩ := sz.2 p hpm
        obtain ⟨t1, t2, t3⟩ := tabRes_ok (partsErr_ok hp p hpm)
        exact ⟨o1, o2, t3, by show p.2.1.length ≤ 1000; omega, by show p.2.2.length ≤ 1000; omega, t1, t2⟩
    · simp only [if_neg hs] at h
      cases h
/-! ### the texts of errors are names -/
def nmOk : PRes → Prop
  | .name (some n) => isNm n = true
  | .col (some n) => isNm n = true
  | .unknown n => isNm n = true
  | _ => True
theorem dup_mem : ∀ (l seen : List Str) (n : Str), firstDup seen l = some n → n ∈ l
  | [], _, _, h => by cases h
  | m :: r, seen, n, h => by
    rw [firstDup] at h
    by_cases z : m ∈ seen
    · rw [if_pos z] at h
      cases h
      exact List.mem_cons_self
    · rw [if_neg z] at h
      exact List.mem_cons_of_mem _ (dup_mem r _ n h)
theorem partsErr_nm : ∀ {ps : List Part} {r : PRes}, partsErr ps = some r → Pok ps → nmOk r
  | [], r, h, _ => by cases h
  | q :: l, r, h, ok => by
    have e : partsErr (q :: l) = match tabRes true q.2.1 (q.2.2.map some) with
      | .name => some (.name (some q.1))
      | .col o => some (.col o)
      | .grp i => some (.grp i)
      | .ok => partsErr l := rfl
    rw [e] at h
    obtain ⟨o1, o2, o3⟩ := ok q List.mem_cons_self
    cases er : tabRes true q.2.1 (q.2.2.map some) with
    | name => rw [er] at h; cases h; exact o1
    | grp o => rw [er] at h; cases h; exact trivial
    | ok =>
      rw [er] at h
      exact partsErr_nm h fun p hp => ok p (List.mem_cons_of_mem _ hp)
    | col o =>
      rw [er] at h
      cases h
      cases o with
      | none => exact trivial
      | some n =>
        unfold tabRes at er
        rw [if_neg (by decide)] at er
        cases e2 : firstDup [] (q.2.1.map Col.name) with
        | some m =>
          rw [e2] at er
          cases er
          obtain ⟨c, hc, rfl⟩ := List.mem_map.mp (dup_mem _ _ _ e2)
          exact (o2 c hc).1
        | none =>
          rw [e2] at er
          by_cases hc : q.2.1 = []
          · simp only [if_pos hc] at er
            cases er
          · simp only [if_neg hc] at er
            split at er <;> cases er
theorem parse_nm (s : Str) : nmOk (parseS s) := by
  unfold parseS
  cases e : runL [] 0 (linesS s) with
  | inl i => exact trivial
  | inr ps =>
    obtain ⟨ok, sz⟩ := run_ok _ _ _ _ e (fun _ z => absurd z List.not_mem_nil) ⟨Nat.le_refl _, fun _ z => absurd z List.not_mem_nil⟩
    show nmOk (if lastS s = "" then schP ps else .text (linesS s).length)
    split
    · unfold schP
      cases ep : partsErr ps with
      | some r => exact partsErr_nm ep ok
      | none =>
        show nmOk (match schRes (ps.map partTab) with
          | .name o => .name o
          | .unknown n => .unknown n
          | .ok => .ok (ps.map partTab))
        unfold schRes
        cases e2 : firstDup [] ((ps.map partTab).map Tab.name) with
        | some n =>
          have hm := dup_mem _ _ _ e2
          rw [names_parts] at hm
          obtain ⟨p, hp, rfl⟩ := List.mem_map.mp hm
          exact (ok p hp).1
        | none =>
          by_cases hc : ps.map partTab = []
          · simp only [if_pos hc]
            exact trivial
          · simp only [if_neg hc]
            cases e3 : (allCols (ps.map partTab)).find? (strange ((ps.map partTab).map Tab.name)) with
            | none => exact trivial
            | some c =>
              have hm := List.mem_of_find?_eq_some e3
              have hst := List.find?_some e3
              rw [allCols_parts] at hm
              obtain ⟨p, hp, hc2⟩ := List.mem_flatMap.mp hm
              have hr : c.k = .ref := by
                unfold strange at hst
                exact of_decide_eq_true (Bool.and_eq_true_iff.mp hst).1
              exact (((ok p hp).2.1 c hc2).2 hr).1
    · exact trivial
theorem low_ok {s : Str} (h : lowS s = true) : PyData.strOk s = true := by
  unfold PyData.strOk
  rw [Array.all_eq_true']
  intro x hx
  unfold lowS at h
  have := List.all_eq_true.mp h x (by simpa using hx)
  rw [decide_eq_true_eq] at this
  have hl : ∀ c ∈ letters.cps.toList, c < 0x110000 := by decide +kernel
  exact decide_eq_true (hl x this)
end Sv

set_option Elab.async false
set_option linter.all false
set_option maxRecDepth 100000
set_option maxHeartbeats 4000000
namespace Sv
open PySem PySem.Spec PyProof.Rows L2 Sw
local macro_rules | `(tactic| walk_at "go1") => `(tactic| first
  | ((with_reducible refine' g_var ?hv ?_); (case hv => rfl))
  | with_reducible refine g_c ?_
  | with_reducible refine g_op ?_
  | with_reducible refine g_un ?_
  | with_reducible refine g_seq ?_
  | with_reducible refine g_next ?_
  | with_reducible refine g_asg ?_
  | with_reducible refine g_name ?_
  | with_reducible refine g_drop ?_
  | with_reducible refine g_sub ?_
  | with_reducible refine g_ret ?_
  | with_reducible refine g_retN ?_
  | with_reducible refine g_ifS ?_
  | with_reducible refine g_if ?_
  | with_reducible refine g_test ?_
  | with_reducible refine g_bl ?_
  | with_reducible refine g_cons ?_
  | with_reducible refine g_nil ?_
  | with_reducible refine g_and ?_
  | with_reducible refine g_or ?_
  | with_reducible refine g_not ?_
  | with_reducible refine g_callB ?_
  | with_reducible refine g_addI ?_
  | with_reducible refine g_I0 ?_
  | with_reducible refine g_calG ?_
  | with_reducible refine g_mkG ?_
  | with_reducible refine g_tup ?_
  | with_reducible refine g_pairs1 ?_
  | with_reducible refine g_pairs0 ?_
  | with_reducible refine g_dget ?_
  | with_reducible refine g_lvals ?_
  | with_reducible refine g_forT ?_
  | with_reducible refine g_lcT ?_
  | with_reducible refine g_dput ?_
  | with_reducible refine g_lc2L ?_
  | with_reducible refine g_iList ?_
  | with_reducible refine g_lcX ?_
  | with_reducible refine g_js1 ?_
  | with_reducible refine g_js0 ?_
  | with_reducible refine g_fmt ?_
  | with_reducible refine g_tLenSet ?_
  | with_reducible refine g_mkV ?_
  | with_reducible refine g_mkV1 ?_
  | with_reducible refine g_lst ?_
  | with_reducible refine g_forL ?_
  | with_reducible refine g_forR ?_
  | with_reducible refine g_forR2 ?_
  | with_reducible refine g_forS ?_
  | with_reducible refine g_forE ?_
  | with_reducible refine g_lcL ?_
  | with_reducible refine g_lcR ?_
  | with_reducible refine g_lcS ?_
  | with_reducible refine g_lcE ?_
  | with_reducible refine g_orT ?_
  | with_reducible refine g_slc ?_
  | with_reducible refine g_noPart ?_
  | with_reducible refine g_part ?_
  | with_reducible refine g_bm ?_
  | with_reducible refine g_par ?_
  | with_reducible refine g_yes ?_
  | with_reducible refine g_tupG ?_
  | with_reducible refine g_lstG ?_
  | with_reducible refine g_gcons ?_
  | with_reducible refine g_gnil ?_
  | with_reducible refine g_chain ?_
  | with_reducible refine g_truB ?_
  | with_reducible refine g_truN ?_
  | with_reducible refine g_truI ?_
  | with_reducible refine g_m1 ?_
  | with_reducible refine g_fld ?_
  | with_reducible refine g_con ?_
  | with_reducible refine g_tru ?_
  | with_reducible refine g_U ?_
  | with_reducible refine g_xg ?_
  | with_reducible refine g_andT ?_
  | with_reducible refine g_exI ?_
  | with_reducible refine g_dnew ?_
  | with_reducible refine g_intB ?_
  | with_reducible refine g_meth ?_
  | with_reducible refine g_prop ?_
  | with_reducible refine g_exc1 ?_
  | with_reducible refine g_setF ?_
  | with_reducible refine g_star ?_
  | with_reducible refine g_strM ?_
  | with_reducible refine iteT ?_
  | with_reducible refine iteF ?_
  | with_reducible refine iteNT ?_
  | with_reducible refine iteNF ?_)
local macro_rules | `(tactic| walk_at "go") => `(tactic| repeat (walk_at "go1"))
local macro_rules | `(tactic| walk_at "sz") => `(tactic| (first | (rw [sizeLine_eq]; simp only [List.length_cons, List.length_nil, List.length_map, List.length_append, List.length_take]; omega) | (rw [sizeLine_eq]; omega)))
/-- what the text says of str: no other class -/
structure NsF (K : PySem.W.Frag) : Prop where
  n1 : PySem.W.kitOne K (.type "NoneType") (.type "str") = some false
  n2 : PySem.W.kitOne K (.type "int") (.type "str") = some false
  n3 : PySem.W.kitOne K (.type "bool") (.type "str") = some false
  n4 : PySem.W.kitOne K (.type "tuple") (.type "str") = some false
  n5 : PySem.W.kitOne K (.type "list") (.type "str") = some false
  n6 : PySem.W.kitOne K (.type "dict") (.type "str") = some false
theorem sh_nm {w n : Str} (hw : PyData.strOk w = true) (hn : isNm n = true) : SeqAt.shaped (.tuple [.str w, .str n]) = true := by
  have h := low_ok (s := n) (by
    unfold isNm at hn
    exact (Bool.and_eq_true_iff.mp hn).2)
  show ((PyData.strOk w && (PyData.strOk n && true)) && decide (PyData.depth (.tuple [.str w, .str n]) ≤ 64)) = true
  rw [hw, h]
  rfl
theorem sh_int {w : Str} (hw : PyData.strOk w = true) (i : Int) : SeqAt.shaped (.tuple [.str w, .int i]) = true := by
  show ((PyData.strOk w && (true && true)) && decide (PyData.depth (.tuple [.str w, .int i]) ≤ 64)) = true
  rw [hw]
  rfl
theorem sh_non {w : Str} (hw : PyData.strOk w = true) : SeqAt.shaped (.tuple [.str w, .none]) = true := by
  show ((PyData.strOk w && (true && true)) && decide (PyData.depth (.tuple [.str w, .none]) ≤ 64)) = true
  rw [hw]
  rfl
theorem errV_dp {r : PRes} {xs : List V} (h : errV r = some xs) (n : nmOk r) : ∃ ds, (∀ (K : PySem.W.Frag) (H : Hp), DpAll K H xs ds) ∧ SeqAt.shaped (.tuple ds) = true := by
  cases r with
  | text i => cases h; exact ⟨_, fun K H => .cons (.str _) (.cons (.int _) .nil), sh_int (by decide +kernel) _⟩
  | grp i => cases h; exact ⟨_, fun K H => .cons (.str _) (.cons (.int _) .nil), sh_int (by decide +kernel) _⟩
  | unknown m => cases h; exact ⟨_, fun K H => .cons (.str _) (.cons (.str _) .nil), sh_nm (by decide +kernel) n⟩
  | ok ts => cases h
  | name o =>
    cases h
    cases o with
    | none => exact ⟨_, fun K H => .cons (.str _) (.cons .non .nil), sh_non (by decide +kernel)⟩
    | some m => exact ⟨_, fun K H => .cons (.str _) (.cons (.str _) .nil), sh_nm (by decide +kernel) n⟩
  | col o =>
    cases h
    cases o with
    | none => exact ⟨_, fun K H => .cons (.str _) (.cons .non .nil), sh_non (by decide +kernel)⟩
    | some m => exact ⟨_, fun K H => .cons (.str _) (.cons (.str _) .nil), sh_nm (by decide +kernel) n⟩
theorem errV_none {r : PRes} (h : errV r = none) : ∃ ts, r = .ok ts := by
  cases r with
  | ok ts => exact ⟨ts, rfl⟩
  | _ => cases h
def spLaw (K : PySem.W.Frag) : Sp := fun vs H Q _ => ∃ (s : Addr) (ns : List Int), vs = [.ref s] ∧ SqL K H s (ns.map V.int) ∧ ∀ H', Q (.bl true) H'
def bnd (j : Nat) : Nat := if j = 0 then 3000 else if j = 1 then 9060 else if j = 2 then 27240 else 81780
def bnn (j : Nat) : Nat := if j = 0 then 30 else if j = 1 then 93 else if j = 2 then 282 else 849
theorem bnd_le (j : Nat) : bnd j ≤ 81780 := by
  unfold bnd
  split
  · decide
  · split
    · decide
    · split <;> decide
theorem bnn_le (j : Nat) : bnn j ≤ 849 := by
  unfold bnn
  split
  · decide
  · split
    · decide
    · split <;> decide
theorem bnd_step {j n : Nat} (h : j < 3) (hn : n ≤ bnd j) : 3 * n + 60 ≤ bnd (j + 1) := by
  rcases (show j = 0 ∨ j = 1 ∨ j = 2 by omega) with rfl | rfl | rfl
  · have : n ≤ 3000 := hn
    show _ ≤ 9060
    omega
  · have : n ≤ 9060 := hn
    show _ ≤ 27240
    omega
  · have : n ≤ 27240 := hn
    show _ ≤ 81780
    omega
theorem bnn_step {j n : Nat} (h : j < 3) (hn : n ≤ bnn j) : 3 * n + 3 ≤ bnn (j + 1) := by
  rcases (show j = 0 ∨ j = 1 ∨ j = 2 by omega) with rfl | rfl | rfl
  · have : n ≤ 30 := hn
    show _ ≤ 93
    omega
  · have : n ≤ 93 := hn
    show _ ≤ 282
    omega
  · have : n ≤ 282 := hn
    show _ ≤ 849
    omega
theorem lines_le (s : Str) : (Txt.split s "\n").length ≤ nl s + 1 := by
  have := split_sf nl_add s "\n" (List.length_pos_iff.mp (split_pos s "\n"))
  have e : nl ("\n" : Str) = 1 := rfl
  rw [e, Nat.mul_one] at this
  omega
section
variable {P : Program} {wo : World} {A : Ad} {K : PySem.W.Frag} {mg : Str → Option Value} {base : Heap}
theorem sc_law : FnScope (["_law_script", "_law_state", "_law_turn", "_law_text", "_law_more", "_law_due_here", "_law_found"] : List Str) (["_law_script"] : List Str) (defScope s_law) := ⟨rfl, rfl, rfl, by decide +kernel, rfl, by decide +kernel, by decide +kernel⟩
theorem ok_law {f : Addr} {fd : FuncData} (F : Fun K "law" "law" s_law f fd) (T : Txt K mg A) (NF : NsF K) (Gb : GFn P wo K mg base 1 "_law_begun" 1 [] (fun vs _ => spBegun K vs)) (Gd : GFn P wo K mg base 1 "_law_draw" 2 [] (fun vs _ => spDraw vs)) (Gp : GFn P wo K mg base 2 "_law_pick" 2 [] (fun vs _ => spPick K vs))
    (Gls : GFn P wo K mg base 4 "_law_spec" 2 [] (fun vs _ => spLSpec K vs)) (Glst : GFn P wo K mg base 2 "_law_schema_text" 1 [] (fun vs _ => spLSchT K vs)) (Gsp : GFn P wo K mg base 3 "_law_spoilt" 2 [] (fun vs _ => spSpoil vs)) (Gltla : GFn P wo K mg base 1 "_law_too_large" 1 [] (fun vs _ => spTooL vs))
    (Gldu : GFn P wo K mg base 4 "_law_due" 1 [] (fun vs _ => spLDue K vs)) (Glr : GFn P wo K mg base 11 "_law_read" 1 [] (fun vs _ => spLRead K A vs)) : FnOk P wo K mg base (L2.CX P wo) 12 f fd (["_law_script"] : List Str) (spLaw K) := by
  refine okT F sc_law (fun vs H Q E h => ?_) (fun cdv Ar outer s H vs Q E hr tk po h => ?_)
  · obtain ⟨_, _, rfl, _⟩ := h
    rfl
  obtain ⟨l, ns, rfl, hl, k⟩ := h
  refine ⟨_, (pss_cons (ps_set (i := 1) sc_law.nd rfl (by first | exact Or.inl rfl | exact Or.inr rfl) (pe_callG Gb (hr.mono (by decide)) tk (pa_cons (pv 0) pa_nil) pk_nil))
      (pss_cons (ps_for po rfl (pi_range1 (by rfl) T.nb_range (pa_cons pe_int pa_nil)) (pg_name (i := 2) sc_law.nd rfl (by first | exact Or.inl rfl | exact Or.inr rfl)) (pss_cons (ps_set (i := 3) sc_law.nd rfl (by first | exact Or.inl rfl | exact Or.inr rfl) (pe_callG Glst (hr.mono (by decide)) tk (pa_cons (pe_callG Gls (hr.mono (by decide)) tk (pa_cons (pv 1) (pa_cons pe_int pa_nil)) pk_nil) pa_nil) pk_nil))
      (pss_cons (ps_for po rfl (pi_range1 (by rfl) T.nb_range (pa_cons (pe_op (ka_add K) pe_int (pe_callG Gd (hr.mono (by decide)) tk (pa_cons (pv 1) (pa_cons pe_int pa_nil)) pk_nil)) pa_nil)) (pg_name (i := 4) sc_law.nd rfl (by first | exact Or.inl rfl | exact Or.inr rfl)) (pss_cons (ps_set (i := 3) sc_law.nd rfl (by first | exact Or.inl rfl | exact Or.inr rfl) (pe_callG Gsp (hr.mono (by decide)) tk (pa_cons (pv 1) (pa_cons (pv 3) pa_nil)) pk_nil))
      (pss_one (ps_if (pt_not (kt_truth K (pe_callG Gltla (hr.mono (by decide)) tk (pa_cons (pv 3) pa_nil) pk_nil) (by intro _; rfl))) (pss_cons (ps_par (i := 5) (j := 6) rfl sc_law.nd rfl rfl (by decide) rfl rfl (pa_cons (pe_callG Gldu (hr.mono (by decide)) tk (pa_cons (pv 3) pa_nil) pk_nil) (pa_cons (pe_callG Glr (hr.mono (by decide)) tk (pa_cons (pv 3) pa_nil) pk_nil) pa_nil)) (by rfl))
      (pss_one (ps_if (pt_cmpR (ka_ne K hr.units) (pv 6) (pe_ifExp (pt_cmpR op_isN (pv 5) pe_non (nomark _)) (pv 3) (pv 5)) (nomark _)) (pss_one (ps_ret pe_bl)) pss_nil))) pss_nil))))
      (pss_one (ps_if (pt_cmpR (ka_ne K hr.units) (pe_callG Glr (hr.mono (by decide)) tk (pa_cons (pe_callG Gp (hr.mono (by decide)) tk (pa_cons (pv 1) (pa_cons (pe_lst (pa_cons pe_non (pa_cons pe_int (pa_cons pe_bl (pa_cons (pe_tup pa_nil) (pa_cons (pe_lst pa_nil) (pa_cons pe_dnewK (pa_cons (pe_lst (pa_cons pe_str pa_nil)) pa_nil)))))))) pa_nil)) pk_nil) pa_nil) pk_nil) (pe_tup (pa_cons pe_str (pa_cons pe_int pa_nil))) (nomark _)) (pss_one (ps_ret pe_bl)) pss_nil)))))
      (pss_one (ps_ret (pe_cmpR (ka_eq K hr.units) (pe_callG Glr (hr.mono (by decide)) tk (pa_cons pe_str pa_nil) pk_nil) (pe_tup (pa_cons pe_str (pa_cons pe_non pa_nil))) (nomark _)))))), ?_⟩
  walk_at "go"
  refine ⟨rfl, rfl, l, ns, rfl, hl, fun a c H1 w1 => ?_⟩
  walk_at "go"
  refine ⟨5, rfl, by decide, by decide, ?_⟩
  refine for_it itf_range (fun i σ' H' => ∃ t2 t3 t4 t5 t6, σ' = [some (.ref l), some (.ref a), t2, t3, t4, t5, t6] ∧ Wd H (RD a c) H') ⟨none, none, none, none, none, rfl, w1⟩ (fun _ _ _ _ _ => True.intro) ?_ ?_
  · rintro i x σ' H' H'' hi ⟨t2, t3, t4, t5, t6, rfl, w⟩ ⟨rfl, rfl⟩
    walk_at "go"
    refine ⟨rfl, rfl, H, a, c, rfl, w, fun p ps ts G2 H2 s2 hp hsp lps hgd w => ?_⟩
    walk_at "go"
    refine ⟨rfl, rfl, G2, RD a c, p, ps, ts, rfl, w, hp, hsp, lps, hgd, fun tx H3 htx hnx w => ?_⟩
    replace w := w.drop s2
    walk_at "go"
    refine ⟨rfl, rfl, H, a, c, 3, rfl, w, by decide, by decide, fun r H4 r0 r1 w => ?_⟩
    walk_at "go"
    refine ⟨_, rfl, by omega, by omega, ?_⟩
    refine for_it itf_range (fun j σ' H' => ∃ t4 t5 t6, ∃ tx : Str, σ' = [some (.ref l), some (.ref a), some (.int (0 + (i : Nat))), some (.str tx), t4, t5, t6] ∧ tx.length ≤ bnd j ∧ nl tx ≤ bnn j ∧ Wd H (RD a c) H') ⟨t4, t5, t6, tx, rfl, htx, hnx, w⟩ (fun _ _ _ _ _ => True.intro) ?_ ?_
    · rintro j x σ' H' H'' hj ⟨t4, t5, t6, tx, rfl, htx, hnx, w⟩ ⟨rfl, rfl⟩
      have hj3 : j < 3 := by omega
      have hb := bnd_le j
      walk_at "go"
      refine ⟨rfl, rfl, H, a, c, tx, rfl, w, by omega, fun t' H7 ht' hn' w => ?_⟩
      have hb1 := Nat.le_trans ht' (bnd_step hj3 htx)
      have hb2 := Nat.le_trans hn' (bnn_step hj3 hnx)
      have hb3 := bnd_le (j + 1)
      have hb4 := bnn_le (j + 1)
      have hln := lines_le t'
      clear ht' hn' htx hnx
      walk_at "go"
      refine ⟨rfl, rfl, H, RD a c, t', rfl, w, by omega, fun b H8 w => ?_⟩
      walk_at "go"
      cases b with
      | true =>
        walk_at "go"
        exact ⟨_, _, _, t', rfl, hb1, hb2, w⟩
      | false =>
        walk_at "go"
        refine ⟨rfl, rfl, H, RD a c, t', rfl, w, by omega, by omega, fun xs hxs t G9 H9 s9 q9 w => ?_, fun hxs H9 w => ?_⟩
        · walk_at "go"
          refine ⟨rfl, rfl, G9, RD a c, .str t', parseS t', rfl, w, .inl ⟨t', rfl, by omega, by omega, rfl⟩, fun ts hts => ?_, fun ys hys u G10 H10 s10 q10 w => ?_, fun ts hts => ?_⟩
          · rw [hts] at hxs
            cases hxs
          · rw [hxs] at hys
            cases hys
            obtain ⟨ds, hd1, hd2⟩ := errV_dp hxs (parse_nm t')
            walk_at "go"
            refine ⟨_, _, rfl, ?_⟩
            walk_at "go"
            refine ⟨rfl, _, rfl, ?_⟩
            rw [decide_eq_false (show ¬ (V.ref t = V.non) from fun z => nomatch z)]
            walk_at "go"
            refine g_neD (.tup (SqT.of (w.get q10)) (hd1 _ _)) (.tup (SqT.of (w.get (s10 _ _ q9))) (hd1 _ _)) hd2 hd2 ?_
            rw [SeqAt.eqv_refl _ (SeqAt.canLay_of_shaped hd2)]
            walk_at "go"
            exact ⟨_, _, _, t', rfl, hb1, hb2, w.drop (Same.trans s9 s10)⟩
          · rw [hts] at hxs
            cases hxs
        · obtain ⟨ts, hts⟩ := errV_none hxs
          obtain ⟨b1, b2, b3⟩ := parse_back hts (by omega)
          walk_at "go"
          refine ⟨rfl, rfl, H, RD a c, .str t', parseS t', rfl, w, .inl ⟨t', rfl, by omega, by omega, rfl⟩, fun ts' hts' => ?_, fun ys hys => ?_, fun ts' hts' H10 w => ?_⟩
          · rw [hts] at hts'
            cases hts'
            exact ⟨b2, Nat.le_trans b3 (by decide)⟩
          · rw [hxs] at hys
            cases hys
          · rw [hts] at hts'
            cases hts'
            rw [b1]
            walk_at "go"
            refine ⟨_, _, rfl, ?_⟩
            walk_at "go"
            refine ⟨rfl, _, rfl, ?_⟩
            rw [decide_eq_true (show V.non = V.non from rfl)]
            walk_at "go"
            refine g_neS rfl ?_
            rw [decide_eq_true (show V.str t' = V.str t' from rfl)]
            walk_at "go"
            exact ⟨_, _, _, t', rfl, hb1, hb2, w⟩
    · rintro σ' H5 ⟨t4, t5, t6, tx, rfl, htx, hnx, w⟩
      walk_at "go"
      refine g_newL w (by walk_at "sz") fun q1 I1 m1 x1 => ?_
      walk_at "go"
      refine g_newL x1 (by walk_at "sz") fun q2 I2 m2 x2 => ?_
      walk_at "go"
      refine g_new x2 fun q3 I3 m3 x3 => ?_
      walk_at "go"
      refine g_newL x3 (by walk_at "sz") fun q4 I4 m4 x4 => ?_
      walk_at "go"
      refine g_newL x4 (by walk_at "sz") fun q5 I5 m5 x5 => ?_
      walk_at "go"
      refine ⟨rfl, rfl, _, a, c, x5, .inl ⟨q5, _, rfl, .inl (SqL.of upd_same), (show 0 < 7 by decide), (show 7 < 1000000 by decide), fun y I7 hy x7 => ?_⟩⟩
      walk_at "go"
      refine ⟨rfl, rfl, _, _, y, .text 0, rfl, x7, .inr ⟨?_, rfl⟩, fun ts hts => (nomatch hts), fun ys hys u G8 H8 s8 q8 w8 => ?_, fun ts hts => (nomatch hts)⟩
      · simp only [List.mem_cons, List.not_mem_nil, or_false] at hy
        rcases hy with rfl | rfl | rfl | rfl | rfl | rfl | rfl
        · exact ⟨_, .base .non, NF.n1⟩
        · exact ⟨_, .base (.int _), NF.n2⟩
        · exact ⟨_, .base (.bl _), NF.n3⟩
        · exact ⟨_, .base (.tup (upd_old (upd_old (upd_old (upd_old upd_same m2) m3) m4) m5)), NF.n4⟩
        · exact ⟨_, .base (.lst (upd_old (upd_old (upd_old upd_same m3) m4) m5)), NF.n5⟩
        · exact ⟨_, .base (.dK (upd_old (upd_old upd_same m4) m5)), NF.n6⟩
        · exact ⟨_, .base (.lst (upd_old upd_same m5)), NF.n5⟩
      cases hys
      walk_at "go"
      refine g_newA w8 (by walk_at "sz") fun q9 G9 H9 n9 s9 q9' w9 => ?_
      refine g_neD (d := .tuple [.str "text", .int ((0 : Nat) : Int)]) (e := .tuple [.str "text", .int 0]) (.tup (SqT.of (w9.get (s9 _ _ q8))) (.cons (.str _) (.cons (.int _) .nil))) (.tup (SqT.of (w9.get q9')) (.cons (.str _) (.cons (.int _) .nil))) (sh_int (by decide +kernel) _) (sh_int (by decide +kernel) _) ?_
      rw [show PyData.eqv (.tuple [.str "text", .int ((0 : Nat) : Int)]) (.tuple [.str "text", .int 0]) = true from rfl]
      walk_at "go"
      exact ⟨_, _, _, _, _, rfl, w9.drop (Same.trans (Same.trans (Same.trans (Same.trans (Same.trans (Same.trans (Same.newG m1) (Same.newG m2)) (Same.newG m3)) (Same.newG m4)) (Same.newG m5)) s8) s9)⟩
  · rintro σ' H' ⟨t2, t3, t4, t5, t6, rfl, w⟩
    walk_at "go"
    have pe : parseS "" = .name none := rfl
    refine ⟨rfl, rfl, _, _, .str "", .name none, rfl, w, .inl ⟨"", rfl, by decide, by decide +kernel, pe.symm⟩, fun ts hts => (nomatch hts), fun ys hys u G8 H8 s8 q8 w8 => ?_, fun ts hts => (nomatch hts)⟩
    cases hys
    walk_at "go"
    refine g_newA w8 (by walk_at "sz") fun q9 G9 H9 n9 s9 q9' w9 => ?_
    refine g_eqD (d := .tuple [.str "name", .none]) (e := .tuple [.str "name", .none]) (.tup (SqT.of (w9.get (s9 _ _ q8))) (.cons (.str _) (.cons .non .nil))) (.tup (SqT.of (w9.get q9')) (.cons (.str _) (.cons .non .nil))) (sh_non (by decide +kernel)) (sh_non (by decide +kernel)) ?_
    rw [show PyData.eqv (.tuple [.str "name", .none]) (.tuple [.str "name", .none]) = true from rfl]
    exact k _
end
end Sv


set_option Elab.async false
set_option linter.all false
set_option maxRecDepth 100000
set_option maxHeartbeats 4000000
namespace Sv
open PySem PySem.Spec PyProof.Rows L2 Sw
theorem mk_tabV {P : Program} {wo : World} {A : Ad} {K : PySem.W.Frag} {mg : Str → Option Value} {base : Heap} {f : Addr} {oc kV dc pm cd ct : Value} {od an : Option Addr} {sl : Array (Option Value)}
    (lk : K.lookup f = some ⟨oc, od, .func (PySem.W.fnOf "__init__" "Table.__init__" (defArgs s_Table___init__) (defBody s_Table___init__) (defScope s_Table___init__) .none kV dc pm an cd ct), sl⟩) (hcd : PySem.W.codeIn K cd "Table.__init__" = true)
    (T : Txt K mg A) (CF : ColF K A) (TF : TabF K A) (Gn : GFn P wo K mg base 1 "is_name" 1 [] (fun vs _ => spIsName K vs)) (Gig : GFn P wo K mg base 3 "is_group" 2 [] (fun vs _ => spIsGroup K A vs))
    (XN : Exc1 P wo K mg base "InvalidName" A.InvalidName "name") (XC : Exc1 P wo K mg base "InvalidColumn" A.InvalidColumn "name") (XG : Exc1 P wo K mg base "InvalidGroup" A.InvalidGroup "index") : Sw.CalV P wo K mg base 4 f 2 ["unique"] (spTabV K A) :=
  Sw.fn_starK (P := P) (w := wo) (mg := mg) (base := base) (n := 2) (ks := ["unique"]) (sp := spTabInit K A) (fun us t ws => us ++ ws ++ [t]) (fun r rt rz => (r.append rz).append (.cons rt .nil)) (fun h1 h2 => by rw [List.length_append, List.length_append, h1, h2]; rfl) lk hcd sc_Table___init__
    (fun us rest ws l1 l2 => match us, ws, rest, l1, l2 with | [_, _], [_], [], _, _ => rfl | [_, _], [_], _ :: _, _, _ => rfl) (fun A0 outer s H vs Q E hr tk po h => tab_body T CF TF Gn Gig XN XC XG hr tk po h)
theorem mk_schV {P : Program} {wo : World} {A : Ad} {K : PySem.W.Frag} {mg : Str → Option Value} {base : Heap} {f : Addr} {oc kV dc pm cd ct : Value} {od an : Option Addr} {sl : Array (Option Value)}
    (lk : K.lookup f = some ⟨oc, od, .func (PySem.W.fnOf "__init__" "Schema.__init__" (defArgs s_Schema___init__) (defBody s_Schema___init__) (defScope s_Schema___init__) .none kV dc pm an cd ct), sl⟩) (hcd : PySem.W.codeIn K cd "Schema.__init__" = true)
    (T : Txt K mg A) (CF : ColF K A) (TF : TabF K A) (GK : ∀ k, GPr P wo K mg base 1 (kcls A k) "kind" (fun vs _ => spKind A vs)) (GC : GPr P wo K mg base 1 A.Table "columns" (fun vs _ => spCols K A vs))
    (XN : Exc1 P wo K mg base "InvalidName" A.InvalidName "name") (XU : Exc1 P wo K mg base "UnknownTable" A.UnknownTable "name") : Sw.CalV P wo K mg base 3 f 1 [] (spSchV K A) :=
  Sw.fn_starK (P := P) (w := wo) (mg := mg) (base := base) (n := 1) (ks := []) (sp := spSchInit K A) (fun us t ws => us ++ ws ++ [t]) (fun r rt rz => (r.append rz).append (.cons rt .nil)) (fun h1 h2 => by rw [List.length_append, List.length_append, h1, h2]; rfl) lk hcd sc_Schema___init__
    (fun us rest ws l1 l2 => match us, ws, rest, l1, l2 with | [_], [], [], _, _ => rfl | [_], [], _ :: _, _, _ => rfl) (fun A0 outer s H vs Q E hr tk po h => sch_body T CF TF GK GC XN XU hr tk po h)
end Sv

set_option Elab.async false
set_option linter.all false
set_option maxRecDepth 100000
set_option maxHeartbeats 4000000
namespace Sv
open PySem PySem.Spec PyProof.Rows L2 Sw
theorem exm2 {K : PySem.W.Frag} {cls c d : Value} {b1 b2 : Bool} (h1 : PySem.W.exmOne K cls c = some b1) (h2 : PySem.W.exmOne K cls d = some b2) : PySem.W.exmAny K cls [c, d] = some (b1 || (b2 || false)) := by
  unfold PySem.W.exmAny
  rw [h1]
  unfold PySem.W.exmAny
  rw [h2]
  rfl
theorem kit_self {K : PySem.W.Frag} {c : Addr} : PySem.W.kitOne K (.ref c) (.ref c) = some true := by
  unfold PySem.W.kitOne
  rw [if_pos (by simp)]
theorem words_not {c : Col} (h : c.k ≠ .ref) : c.words = c.words0 := by
  unfold Col.words
  rw [if_neg h]
theorem bindsup1 {K : PySem.W.Frag} {fd : FuncData} {p1 : Str} (h : ∀ a, bindArgs fd ⟨[a], []⟩ = pure ([p1].zip [a])) : Binds K fd [p1] [] := fun s us X hl => by
  rw [List.append_nil] at hl ⊢
  match us, hl with
  | [a], _ => exact BindsTo.of_eq (h a)
theorem bindsup2 {K : PySem.W.Frag} {fd : FuncData} {p1 p2 : Str} (h : ∀ a b, bindArgs fd ⟨[a, b], []⟩ = pure ([p1, p2].zip [a, b])) : Binds K fd [p1, p2] [] := fun s us X hl => by
  rw [List.append_nil] at hl ⊢
  match us, hl with
  | [a, b], _ => exact BindsTo.of_eq (h a b)
def rdB (K : PySem.W.Frag) (cs : List Addr) (sv : Addr) : Bool := (List.range 5).all fun i =>
  decide (PySem.W.exmOne K (.ref (cs.getD i 0)) (.ref sv) = some true) && (((List.range 5).all fun j => decide (PySem.W.kitOne K (.ref (cs.getD i 0)) (.ref (cs.getD j 0)) = some (decide (i = j)))) && ((["line", "index", "name"] : List Str).all fun f => decide (PySem.W.findIn K (.ref (cs.getD i 0)) f = some none)))
theorem five5 {A : Ad} {P : Addr → Prop} (h0 : P A.InvalidText) (h1 : P A.InvalidGroup) (h2 : P A.InvalidName) (h3 : P A.InvalidColumn) (h4 : P A.UnknownTable) : ∀ C ∈ errCs A, P C := fun C h => by
  unfold errCs at h
  simp only [List.mem_cons, List.not_mem_nil, or_false] at h
  rcases h with rfl | rfl | rfl | rfl | rfl
  · exact h0
  · exact h1
  · exact h2
  · exact h3
  · exact h4
theorem rdF_of {K : PySem.W.Frag} {A : Ad} (h : rdB K (errCs A) A.SaveError = true) (he : ∀ C ∈ errCs A, ExcC K C) (hx : ∀ C ∈ errCs A, XfC K C) : RdF K A := by
  have k : ∀ (i : Nat) (C : Addr), (errCs A)[i]? = some C → i < 5 ∧ (errCs A).getD i 0 = C := fun i C hi => by
    refine ⟨(List.getElem?_eq_some_iff.mp hi).1, ?_⟩
    rw [List.getD_eq_getElem?_getD, hi]
    rfl
  have sp : ∀ {a b : Bool}, (a && b) = true → a = true ∧ b = true := fun h => Bool.and_eq_true_iff.mp h
  have m : ∀ i, i < 5 → _ := fun i hi => List.all_eq_true.mp h i (List.mem_range.mpr hi)
  refine ⟨fun C hC => ?_, he, hx, fun i j C D hi hj => ?_, fun C hC f hf => ?_⟩
  · obtain ⟨i, hi⟩ := List.getElem?_of_mem hC
    obtain ⟨i5, ei⟩ := k i C hi
    have := of_decide_eq_true (sp (m i i5)).1
    rw [ei] at this
    exact this
  · obtain ⟨i5, ei⟩ := k i C hi
    obtain ⟨j5, ej⟩ := k j D hj
    have := of_decide_eq_true (List.all_eq_true.mp (sp (sp (m i i5)).2).1 j (List.mem_range.mpr j5))
    rw [ei, ej] at this
    exact this
  · obtain ⟨i, hi⟩ := List.getElem?_of_mem hC
    obtain ⟨i5, ei⟩ := k i C hi
    have := of_decide_eq_true (List.all_eq_true.mp (sp (sp (m i i5)).2).2 f hf)
    rw [ei] at this
    exact this

theorem all_mk {P : Program} {wo : World} {K : PySem.W.Frag} {h : Heap} {mg : Str → Option Value} {fa : Addr} (X : K.In h) (G : h.Ns mainGlobals mg) (hfa : mg "law" = some (.ref fa)) (hfile : ((P.main.file : Str) == "/claim/cut.py") = true) (htop : (P.main.scope.names.lookup ("super" : Str)).isSome = false)
    {c16 c18 c20 c22 c24 c26 c28 c30 c32 c34 c36 c38 a46 a57 N103 f122 cc133 ca134 N157 f176 cc187 ca188 N211 f230 cc241 ca242 N265 f284 cc295 ca296 N319 f338 cc349 ca350 f402 f416 D417 f434 cc445 ca446 f466 f482 cc493 ca494 p514 g515 f535 p549 g550 p568 g569 f589 f619 p634 g635 f653 f668 p683 g684 p702 g703 f721 f735 p749 g750 f768 f782 f796 f810 f824 f838 f852 f866 f880 f894 f908 f922 f936 f950 f964 f978 f992 f1006 f1020 : Addr}
    {t40 t42 t44 t48 t49 t50 t51 t52 t59 t60 t61 t74 t85 t96 tf141 tf195 tf249 tf303 tf357 tf453 tf501 : Tok}
    {od53 od62 dd110 od130 an131 od139 od145 dd164 od184 an185 od193 od199 dd218 od238 an239 od247 od253 dd272 od292 an293 od301 od307 dd326 od346 an347 od355 od361 od410 an411 od426 an427 od442 an443 od451 od457 od475 an476 od490 an491 od499 od505 od529 an530 od543 an544 od562 an563 od583 an584 od597 an598 od628 an629 od647 an648 od662 an663 od677 an678 od696 an697 od715 an716 od729 an730 od743 an744 od762 an763 od776 an777 od790 an791 od804 an805 od818 an819 od832 an833 od846 an847 od860 an861 od874 an875 od888 an889 od902 an903 od916 an917 od930 an931 od944 an945 od958 an959 od972 an973 od986 an987 od1000 an1001 od1014 an1015 od1028 an1029 : Option Addr}
    {n54 n63 : Nat}
    {sl55 sl64 sl132 sl140 sl146 sl186 sl194 sl200 sl240 sl248 sl254 sl294 sl302 sl308 sl348 sl356 sl362 sl412 sl428 sl444 sl452 sl458 sl477 sl492 sl500 sl506 sl531 sl545 sl564 sl585 sl599 sl630 sl649 sl664 sl679 sl698 sl717 sl731 sl745 sl764 sl778 sl792 sl806 sl820 sl834 sl848 sl862 sl876 sl890 sl904 sl918 sl932 sl946 sl960 sl974 sl988 sl1002 sl1016 sl1030 : Array (Option Value)}
    {nm101 q102 nm155 q156 nm209 q210 nm263 q264 nm317 q318 : Str}
    {bs104 bm105 sub107 bs158 bm159 sub161 bs212 bm213 sub215 bs266 bm267 sub269 bs320 bm321 sub323 rs521 rs552 rs575 rs639 rs688 rs707 rs752 : List Value}
    {sn106 sn160 sn214 sn268 sn322 : List Str}
    {ab108 ab162 ab216 ab270 ab324 : Bool}
    {col109 col163 col217 col271 col325 : Option Bool}
    {m111 m112 m113 m114 m115 m165 m166 m167 m168 m169 m219 m220 m221 m222 m223 m273 m274 m275 m276 m277 m327 m328 m329 m330 m331 : Option Value}
    {oc125 kV126 dc127 pm128 ct129 ol137 ol144 oc179 kV180 dc181 pm182 ct183 ol191 ol198 oc233 kV234 dc235 pm236 ct237 ol245 ol252 oc287 kV288 dc289 pm290 ct291 ol299 ol306 oc341 kV342 dc343 pm344 ct345 ol353 ol360 oc404 kV405 dc406 pm407 cd408 ct409 oc420 dc422 pm423 cd424 ct425 oc437 kV438 dc439 pm440 ct441 ol449 ol456 oc469 kV470 dc471 pm472 cd473 ct474 oc485 kV486 dc487 pm488 ct489 ol497 ol504 oc523 kV524 dc525 pm526 cd527 ct528 oc537 kV538 dc539 pm540 cd541 ct542 oc556 kV557 dc558 pm559 cd560 ct561 oc577 kV578 dc579 pm580 cd581 ct582 oc591 kV592 dc593 pm594 cd595 ct596 oc622 kV623 dc624 pm625 cd626 ct627 oc641 kV642 dc643 pm644 cd645 ct646 oc656 kV657 dc658 pm659 cd660 ct661 oc671 kV672 dc673 pm674 cd675 ct676 oc690 kV691 dc692 pm693 cd694 ct695 oc709 kV710 dc711 pm712 cd713 ct714 oc723 kV724 dc725 pm726 cd727 ct728 oc737 kV738 dc739 pm740 cd741 ct742 oc756 kV757 dc758 pm759 cd760 ct761 oc770 kV771 dc772 pm773 cd774 ct775 oc784 kV785 dc786 pm787 cd788 ct789 oc798 kV799 dc800 pm801 cd802 ct803 oc812 kV813 dc814 pm815 cd816 ct817 oc826 kV827 dc828 pm829 cd830 ct831 oc840 kV841 dc842 pm843 cd844 ct845 oc854 kV855 dc856 pm857 cd858 ct859 oc868 kV869 dc870 pm871 cd872 ct873 oc882 kV883 dc884 pm885 cd886 ct887 oc896 kV897 dc898 pm899 cd900 ct901 oc910 kV911 dc912 pm913 cd914 ct915 oc924 kV925 dc926 pm927 cd928 ct929 oc938 kV939 dc940 pm941 cd942 ct943 oc952 kV953 dc954 pm955 cd956 ct957 oc966 kV967 dc968 pm969 cd970 ct971 oc980 kV981 dc982 pm983 cd984 ct985 oc994 kV995 dc996 pm997 cd998 ct999 oc1008 kV1009 dc1010 pm1011 cd1012 ct1013 oc1022 kV1023 dc1024 pm1025 cd1026 ct1027 : Value}
    {va138 va192 va246 va300 va354 va450 va498 : Array Value}
    (h1 : PySem.W.nsIn K PySem.cStatics "thirdparty.any" = some none)
    (h2 : PySem.W.nsIn K mainGlobals "super" = some none)
    (h3 : PySem.W.nsIn K mainGlobals "isinstance" = some none)
    (h4 : PySem.W.nsIn K mainGlobals "str" = some none)
    (h5 : PySem.W.nsIn K mainGlobals "len" = some none)
    (h6 : PySem.W.nsIn K mainGlobals "all" = some none)
    (h7 : PySem.W.nsIn K mainGlobals "enumerate" = some none)
    (h8 : PySem.W.nsIn K mainGlobals "list" = some none)
    (h9 : PySem.W.nsIn K mainGlobals "tuple" = some none)
    (h10 : PySem.W.nsIn K mainGlobals "set" = some none)
    (h11 : PySem.W.nsIn K mainGlobals "any" = some none)
    (h12 : PySem.W.nsIn K mainGlobals "abs" = some none)
    (h13 : PySem.W.nsIn K mainGlobals "range" = some none)
    (h14 : PySem.W.nsIn K mainGlobals "int" = some none)
    (h15 : PySem.W.nsIn K mainGlobals "dict" = some none)
    (h17 : PySem.W.nsIn K mainGlobals "SaveError" = some (some (.ref c16)))
    (h19 : PySem.W.nsIn K mainGlobals "InvalidName" = some (some (.ref c18)))
    (h21 : PySem.W.nsIn K mainGlobals "InvalidColumn" = some (some (.ref c20)))
    (h23 : PySem.W.nsIn K mainGlobals "InvalidGroup" = some (some (.ref c22)))
    (h25 : PySem.W.nsIn K mainGlobals "UnknownTable" = some (some (.ref c24)))
    (h27 : PySem.W.nsIn K mainGlobals "InvalidText" = some (some (.ref c26)))
    (h29 : PySem.W.nsIn K mainGlobals "Column" = some (some (.ref c28)))
    (h31 : PySem.W.nsIn K mainGlobals "IntColumn" = some (some (.ref c30)))
    (h33 : PySem.W.nsIn K mainGlobals "TextColumn" = some (some (.ref c32)))
    (h35 : PySem.W.nsIn K mainGlobals "RefColumn" = some (some (.ref c34)))
    (h37 : PySem.W.nsIn K mainGlobals "Table" = some (some (.ref c36)))
    (h39 : PySem.W.nsIn K mainGlobals "Schema" = some (some (.ref c38)))
    (h41 : PySem.W.nsIn K mainGlobals "LETTERS" = some (some (.str "abcdefghijklmnopqrstuvwxyz" t40)))
    (h43 : PySem.W.nsIn K mainGlobals "LONGEST_NAME" = some (some (.int 8 t42)))
    (h45 : PySem.W.nsIn K mainGlobals "MOST_IN_GROUP" = some (some (.int 3 t44)))
    (h47 : PySem.W.nsIn K mainGlobals "RESERVED" = some (some (.ref a46)))
    (h56 : K.lookup a46 = some ⟨.type "tuple", od53, .seq #[.str "key" t48, .str "limit" t49, .str "order" t50, .str "self" t51, .str "table" t52] n54, sl55⟩)
    (h58 : PySem.W.nsIn K mainGlobals "RULES" = some (some (.ref a57)))
    (h65 : K.lookup a57 = some ⟨.type "tuple", od62, .seq #[.str "restrict" t59, .str "clear" t60, .str "cascade" t61] n63, sl64⟩)
    (h66 : PySem.W.plainGet K c30 Str.empty = true)
    (h67 : PySem.W.hasDictIn K c30 = true)
    (h68 : PySem.W.plainOver K c30 = true)
    (h69 : PySem.W.findIn K (.ref c30) "__setattr__" = some (some (.builtin "object.__setattr__")))
    (h70 : PySem.W.makesIn K c30 = true)
    (h71 : PySem.W.keepIn K (.ref c30) = true)
    (h72 : PySem.W.findIn K (.ref c30) "name" = some none)
    (h73 : PySem.W.findIn K (.ref c30) "optional" = some none)
    (h75 : PySem.W.findIn K (.ref c30) "KIND" = some (some (.str "int" t74)))
    (h76 : PySem.W.specialIn K (.str "int" t74) "__get__" = some none)
    (h77 : PySem.W.plainGet K c32 Str.empty = true)
    (h78 : PySem.W.hasDictIn K c32 = true)
    (h79 : PySem.W.plainOver K c32 = true)
    (h80 : PySem.W.findIn K (.ref c32) "__setattr__" = some (some (.builtin "object.__setattr__")))
    (h81 : PySem.W.makesIn K c32 = true)
    (h82 : PySem.W.keepIn K (.ref c32) = true)
    (h83 : PySem.W.findIn K (.ref c32) "name" = some none)
    (h84 : PySem.W.findIn K (.ref c32) "optional" = some none)
    (h86 : PySem.W.findIn K (.ref c32) "KIND" = some (some (.str "text" t85)))
    (h87 : PySem.W.specialIn K (.str "text" t85) "__get__" = some none)
    (h88 : PySem.W.plainGet K c34 Str.empty = true)
    (h89 : PySem.W.hasDictIn K c34 = true)
    (h90 : PySem.W.plainOver K c34 = true)
    (h91 : PySem.W.findIn K (.ref c34) "__setattr__" = some (some (.builtin "object.__setattr__")))
    (h92 : PySem.W.makesIn K c34 = true)
    (h93 : PySem.W.keepIn K (.ref c34) = true)
    (h94 : PySem.W.findIn K (.ref c34) "name" = some none)
    (h95 : PySem.W.findIn K (.ref c34) "optional" = some none)
    (h97 : PySem.W.findIn K (.ref c34) "KIND" = some (some (.str "ref" t96)))
    (h98 : PySem.W.specialIn K (.str "ref" t96) "__get__" = some none)
    (h99 : PySem.W.findIn K (.ref c34) "target" = some none)
    (h100 : PySem.W.findIn K (.ref c34) "rule" = some none)
    (h116 : K.lookup c18 = some (excClassObj nm101 q102 c18 N103 bs104 bm105 true sn106 sub107 ab108 col109 dd110 m111 m112 m113 m114 m115 "ValueError.__new__"))
    (h117 : PySem.HandSPX.refsVE bm105 = true)
    (h118 : PySem.W.findIn K (.ref c18) "__setattr__" = some (some (.builtin "object.__setattr__")))
    (h119 : PySem.W.subIn K (.ref c18) (.type "BaseException") = some true)
    (h120 : PySem.W.typeIn K (.ref c18) = some (.type "type"))
    (h121 : PySem.W.keepIn K (.ref c18) = true)
    (h123 : PySem.W.findIn K (.ref c18) "__init__" = some (some (.ref f122)))
    (h124 : PySem.W.typeIn K (.ref f122) = some (.type "function"))
    (h135 : K.lookup f122 = some ⟨oc125, od130, .func (PySem.W.ksFn "__init__" "InvalidName.__init__" (defArgs s_InvalidName___init__) (defBody s_InvalidName___init__) (defScope s_InvalidName___init__) .none kV126 dc127 pm128 an131 (.ref ca134) ct129 cc133), sl132⟩)
    (h136 : PySem.W.codeIn K (.ref ca134) "InvalidName.__init__" = true)
    (h142 : K.lookup ca134 = some ⟨ol137, od139, .fields va138, sl140⟩)
    (h143 : va138[2]? = some (.str "/claim/cut.py" tf141))
    (h147 : K.lookup cc133 = some ⟨ol144, od145, .cell (some (.ref c18)), sl146⟩)
    (h148 : PySem.W.isClsIn K c18 = true)
    (h149 : PySem.W.keepIn K (.ref f122) = true)
    (h150 : PySem.W.ks_superIn K c18 c18 "__init__" = some (some (.builtin "ValueError.__init__")))
    (h151 : PySem.W.mroIn K c18 (.ref c18) = some true)
    (h152 : PySem.W.subIn K (.ref c18) (.type "ValueError") = some true)
    (h153 : PySem.W.findIn K (.ref c18) "name" = some none)
    (h154 : PySem.W.hasDictIn K c18 = true)
    (h170 : K.lookup c20 = some (excClassObj nm155 q156 c20 N157 bs158 bm159 true sn160 sub161 ab162 col163 dd164 m165 m166 m167 m168 m169 "ValueError.__new__"))
    (h171 : PySem.HandSPX.refsVE bm159 = true)
    (h172 : PySem.W.findIn K (.ref c20) "__setattr__" = some (some (.builtin "object.__setattr__")))
    (h173 : PySem.W.subIn K (.ref c20) (.type "BaseException") = some true)
    (h174 : PySem.W.typeIn K (.ref c20) = some (.type "type"))
    (h175 : PySem.W.keepIn K (.ref c20) = true)
    (h177 : PySem.W.findIn K (.ref c20) "__init__" = some (some (.ref f176)))
    (h178 : PySem.W.typeIn K (.ref f176) = some (.type "function"))
    (h189 : K.lookup f176 = some ⟨oc179, od184, .func (PySem.W.ksFn "__init__" "InvalidColumn.__init__" (defArgs s_InvalidColumn___init__) (defBody s_InvalidColumn___init__) (defScope s_InvalidColumn___init__) .none kV180 dc181 pm182 an185 (.ref ca188) ct183 cc187), sl186⟩)
    (h190 : PySem.W.codeIn K (.ref ca188) "InvalidColumn.__init__" = true)
    (h196 : K.lookup ca188 = some ⟨ol191, od193, .fields va192, sl194⟩)
    (h197 : va192[2]? = some (.str "/claim/cut.py" tf195))
    (h201 : K.lookup cc187 = some ⟨ol198, od199, .cell (some (.ref c20)), sl200⟩)
    (h202 : PySem.W.isClsIn K c20 = true)
    (h203 : PySem.W.keepIn K (.ref f176) = true)
    (h204 : PySem.W.ks_superIn K c20 c20 "__init__" = some (some (.builtin "ValueError.__init__")))
    (h205 : PySem.W.mroIn K c20 (.ref c20) = some true)
    (h206 : PySem.W.subIn K (.ref c20) (.type "ValueError") = some true)
    (h207 : PySem.W.findIn K (.ref c20) "name" = some none)
    (h208 : PySem.W.hasDictIn K c20 = true)
    (h224 : K.lookup c22 = some (excClassObj nm209 q210 c22 N211 bs212 bm213 true sn214 sub215 ab216 col217 dd218 m219 m220 m221 m222 m223 "ValueError.__new__"))
    (h225 : PySem.HandSPX.refsVE bm213 = true)
    (h226 : PySem.W.findIn K (.ref c22) "__setattr__" = some (some (.builtin "object.__setattr__")))
    (h227 : PySem.W.subIn K (.ref c22) (.type "BaseException") = some true)
    (h228 : PySem.W.typeIn K (.ref c22) = some (.type "type"))
    (h229 : PySem.W.keepIn K (.ref c22) = true)
    (h231 : PySem.W.findIn K (.ref c22) "__init__" = some (some (.ref f230)))
    (h232 : PySem.W.typeIn K (.ref f230) = some (.type "function"))
    (h243 : K.lookup f230 = some ⟨oc233, od238, .func (PySem.W.ksFn "__init__" "InvalidGroup.__init__" (defArgs s_InvalidGroup___init__) (defBody s_InvalidGroup___init__) (defScope s_InvalidGroup___init__) .none kV234 dc235 pm236 an239 (.ref ca242) ct237 cc241), sl240⟩)
    (h244 : PySem.W.codeIn K (.ref ca242) "InvalidGroup.__init__" = true)
    (h250 : K.lookup ca242 = some ⟨ol245, od247, .fields va246, sl248⟩)
    (h251 : va246[2]? = some (.str "/claim/cut.py" tf249))
    (h255 : K.lookup cc241 = some ⟨ol252, od253, .cell (some (.ref c22)), sl254⟩)
    (h256 : PySem.W.isClsIn K c22 = true)
    (h257 : PySem.W.keepIn K (.ref f230) = true)
    (h258 : PySem.W.ks_superIn K c22 c22 "__init__" = some (some (.builtin "ValueError.__init__")))
    (h259 : PySem.W.mroIn K c22 (.ref c22) = some true)
    (h260 : PySem.W.subIn K (.ref c22) (.type "ValueError") = some true)
    (h261 : PySem.W.findIn K (.ref c22) "index" = some none)
    (h262 : PySem.W.hasDictIn K c22 = true)
    (h278 : K.lookup c24 = some (excClassObj nm263 q264 c24 N265 bs266 bm267 true sn268 sub269 ab270 col271 dd272 m273 m274 m275 m276 m277 "ValueError.__new__"))
    (h279 : PySem.HandSPX.refsVE bm267 = true)
    (h280 : PySem.W.findIn K (.ref c24) "__setattr__" = some (some (.builtin "object.__setattr__")))
    (h281 : PySem.W.subIn K (.ref c24) (.type "BaseException") = some true)
    (h282 : PySem.W.typeIn K (.ref c24) = some (.type "type"))
    (h283 : PySem.W.keepIn K (.ref c24) = true)
    (h285 : PySem.W.findIn K (.ref c24) "__init__" = some (some (.ref f284)))
    (h286 : PySem.W.typeIn K (.ref f284) = some (.type "function"))
    (h297 : K.lookup f284 = some ⟨oc287, od292, .func (PySem.W.ksFn "__init__" "UnknownTable.__init__" (defArgs s_UnknownTable___init__) (defBody s_UnknownTable___init__) (defScope s_UnknownTable___init__) .none kV288 dc289 pm290 an293 (.ref ca296) ct291 cc295), sl294⟩)
    (h298 : PySem.W.codeIn K (.ref ca296) "UnknownTable.__init__" = true)
    (h304 : K.lookup ca296 = some ⟨ol299, od301, .fields va300, sl302⟩)
    (h305 : va300[2]? = some (.str "/claim/cut.py" tf303))
    (h309 : K.lookup cc295 = some ⟨ol306, od307, .cell (some (.ref c24)), sl308⟩)
    (h310 : PySem.W.isClsIn K c24 = true)
    (h311 : PySem.W.keepIn K (.ref f284) = true)
    (h312 : PySem.W.ks_superIn K c24 c24 "__init__" = some (some (.builtin "ValueError.__init__")))
    (h313 : PySem.W.mroIn K c24 (.ref c24) = some true)
    (h314 : PySem.W.subIn K (.ref c24) (.type "ValueError") = some true)
    (h315 : PySem.W.findIn K (.ref c24) "name" = some none)
    (h316 : PySem.W.hasDictIn K c24 = true)
    (h332 : K.lookup c26 = some (excClassObj nm317 q318 c26 N319 bs320 bm321 true sn322 sub323 ab324 col325 dd326 m327 m328 m329 m330 m331 "ValueError.__new__"))
    (h333 : PySem.HandSPX.refsVE bm321 = true)
    (h334 : PySem.W.findIn K (.ref c26) "__setattr__" = some (some (.builtin "object.__setattr__")))
    (h335 : PySem.W.subIn K (.ref c26) (.type "BaseException") = some true)
    (h336 : PySem.W.typeIn K (.ref c26) = some (.type "type"))
    (h337 : PySem.W.keepIn K (.ref c26) = true)
    (h339 : PySem.W.findIn K (.ref c26) "__init__" = some (some (.ref f338)))
    (h340 : PySem.W.typeIn K (.ref f338) = some (.type "function"))
    (h351 : K.lookup f338 = some ⟨oc341, od346, .func (PySem.W.ksFn "__init__" "InvalidText.__init__" (defArgs s_InvalidText___init__) (defBody s_InvalidText___init__) (defScope s_InvalidText___init__) .none kV342 dc343 pm344 an347 (.ref ca350) ct345 cc349), sl348⟩)
    (h352 : PySem.W.codeIn K (.ref ca350) "InvalidText.__init__" = true)
    (h358 : K.lookup ca350 = some ⟨ol353, od355, .fields va354, sl356⟩)
    (h359 : va354[2]? = some (.str "/claim/cut.py" tf357))
    (h363 : K.lookup cc349 = some ⟨ol360, od361, .cell (some (.ref c26)), sl362⟩)
    (h364 : PySem.W.isClsIn K c26 = true)
    (h365 : PySem.W.keepIn K (.ref f338) = true)
    (h366 : PySem.W.ks_superIn K c26 c26 "__init__" = some (some (.builtin "ValueError.__init__")))
    (h367 : PySem.W.mroIn K c26 (.ref c26) = some true)
    (h368 : PySem.W.subIn K (.ref c26) (.type "ValueError") = some true)
    (h369 : PySem.W.findIn K (.ref c26) "line" = some none)
    (h370 : PySem.W.hasDictIn K c26 = true)
    (h371 : PySem.W.subIn K (.ref c16) (.type "BaseException") = some true)
    (h372 : PySem.W.hasDictIn K c16 = true)
    (h373 : PySem.W.typeIn K (.ref c16) = some (.type "type"))
    (h374 : PySem.W.subIn K (.ref c18) (.ref c20) = some false)
    (h375 : PySem.W.subIn K (.ref c18) (.ref c18) = some true)
    (h376 : PySem.W.subIn K (.ref c20) (.ref c20) = some true)
    (h377 : PySem.W.subIn K (.ref c20) (.ref c18) = some false)
    (h378 : PySem.W.subIn K (.ref c26) (.ref c26) = some true)
    (h379 : PySem.W.specialIn K (.builtin "object.__class__") "__get__" = some (some (.builtin "getset_descriptor.__get__")))
    (h380 : PySem.W.takesIn K (.builtin "object.__class__") = some true)
    (h381 : PySem.W.findIn K (.ref c26) "__getattribute__" = some (some (.builtin "BaseException.__getattribute__")))
    (h382 : PySem.W.findIn K (.ref c26) "__getattr__" = some none)
    (h383 : PySem.W.findIn K (.ref c26) "__class__" = some (some (.builtin "object.__class__")))
    (h384 : PySem.W.mroIn K c26 (.type "object") = some true)
    (h385 : PySem.W.findIn K (.ref c22) "__getattribute__" = some (some (.builtin "BaseException.__getattribute__")))
    (h386 : PySem.W.findIn K (.ref c22) "__getattr__" = some none)
    (h387 : PySem.W.findIn K (.ref c22) "__class__" = some (some (.builtin "object.__class__")))
    (h388 : PySem.W.mroIn K c22 (.type "object") = some true)
    (h389 : PySem.W.findIn K (.ref c18) "__getattribute__" = some (some (.builtin "BaseException.__getattribute__")))
    (h390 : PySem.W.findIn K (.ref c18) "__getattr__" = some none)
    (h391 : PySem.W.findIn K (.ref c18) "__class__" = some (some (.builtin "object.__class__")))
    (h392 : PySem.W.mroIn K c18 (.type "object") = some true)
    (h393 : PySem.W.findIn K (.ref c20) "__getattribute__" = some (some (.builtin "BaseException.__getattribute__")))
    (h394 : PySem.W.findIn K (.ref c20) "__getattr__" = some none)
    (h395 : PySem.W.findIn K (.ref c20) "__class__" = some (some (.builtin "object.__class__")))
    (h396 : PySem.W.mroIn K c20 (.type "object") = some true)
    (h397 : PySem.W.findIn K (.ref c24) "__getattribute__" = some (some (.builtin "BaseException.__getattribute__")))
    (h398 : PySem.W.findIn K (.ref c24) "__getattr__" = some none)
    (h399 : PySem.W.findIn K (.ref c24) "__class__" = some (some (.builtin "object.__class__")))
    (h400 : PySem.W.mroIn K c24 (.type "object") = some true)
    (h401 : rdB K [c26, c22, c18, c20, c24] c16 = true)
    (h403 : PySem.W.nsIn K mainGlobals "is_name" = some (some (.ref f402)))
    (h413 : K.lookup f402 = some ⟨oc404, od410, .func (PySem.W.fnOf "is_name" "is_name" (defArgs s_is_name) (defBody s_is_name) (defScope s_is_name) .none kV405 dc406 pm407 an411 cd408 ct409), sl412⟩)
    (h414 : PySem.W.codeIn K cd408 "is_name" = true)
    (h415 : PySem.W.keepIn K (.ref f402) = true)
    (h418 : PySem.W.findIn K (.ref c30) "__init__" = some (some (.ref f416)))
    (h419 : PySem.W.findIn K (.ref c32) "__init__" = some (some (.ref f416)))
    (h429 : K.lookup f416 = some ⟨oc420, od426, .func (PySem.W.fnOf "__init__" "Column.__init__" (defArgs s_Column___init__) (defBody s_Column___init__) (defScope s_Column___init__) .none (.ref D417) dc422 pm423 an427 cd424 ct425), sl428⟩)
    (h430 : PySem.W.codeIn K cd424 "Column.__init__" = true)
    (h431 : PySem.W.keepIn K (.ref f416) = true)
    (h432 : PySem.W.nsIn K D417 "optional" = some (some (.bool false)))
    (h433 : PySem.W.isFn K (.ref f416) = true)
    (h435 : PySem.W.findIn K (.ref c34) "__init__" = some (some (.ref f434)))
    (h436 : PySem.W.isFn K (.ref f434) = true)
    (h447 : K.lookup f434 = some ⟨oc437, od442, .func (PySem.W.ksFn "__init__" "RefColumn.__init__" (defArgs s_RefColumn___init__) (defBody s_RefColumn___init__) (defScope s_RefColumn___init__) .none kV438 dc439 pm440 an443 (.ref ca446) ct441 cc445), sl444⟩)
    (h448 : PySem.W.codeIn K (.ref ca446) "RefColumn.__init__" = true)
    (h454 : K.lookup ca446 = some ⟨ol449, od451, .fields va450, sl452⟩)
    (h455 : va450[2]? = some (.str "/claim/cut.py" tf453))
    (h459 : K.lookup cc445 = some ⟨ol456, od457, .cell (some (.ref c34)), sl458⟩)
    (h460 : PySem.W.isClsIn K c34 = true)
    (h461 : PySem.W.keepIn K (.ref f434) = true)
    (h462 : PySem.W.ks_superIn K c34 c34 "__init__" = some (some (.ref f416)))
    (h463 : PySem.W.typeIn K (.ref f416) = some (.type "function"))
    (h464 : PySem.W.fnIn K f416 = true)
    (h465 : PySem.W.mroIn K c34 (.ref c34) = some true)
    (h467 : PySem.W.findIn K (.ref c30) "words" = some (some (.ref f466)))
    (h468 : PySem.W.findIn K (.ref c32) "words" = some (some (.ref f466)))
    (h478 : K.lookup f466 = some ⟨oc469, od475, .func (PySem.W.fnOf "words" "Column.words" (defArgs s_Column_words) (defBody s_Column_words) (defScope s_Column_words) .none kV470 dc471 pm472 an476 cd473 ct474), sl477⟩)
    (h479 : PySem.W.codeIn K cd473 "Column.words" = true)
    (h480 : PySem.W.keepIn K (.ref f466) = true)
    (h481 : PySem.W.isFn K (.ref f466) = true)
    (h483 : PySem.W.findIn K (.ref c34) "words" = some (some (.ref f482)))
    (h484 : PySem.W.isFn K (.ref f482) = true)
    (h495 : K.lookup f482 = some ⟨oc485, od490, .func (PySem.W.ksFn "words" "RefColumn.words" (defArgs s_RefColumn_words) (defBody s_RefColumn_words) (defScope s_RefColumn_words) .none kV486 dc487 pm488 an491 (.ref ca494) ct489 cc493), sl492⟩)
    (h496 : PySem.W.codeIn K (.ref ca494) "RefColumn.words" = true)
    (h502 : K.lookup ca494 = some ⟨ol497, od499, .fields va498, sl500⟩)
    (h503 : va498[2]? = some (.str "/claim/cut.py" tf501))
    (h507 : K.lookup cc493 = some ⟨ol504, od505, .cell (some (.ref c34)), sl506⟩)
    (h508 : PySem.W.isClsIn K c34 = true)
    (h509 : PySem.W.keepIn K (.ref f482) = true)
    (h510 : PySem.W.ks_superIn K c34 c34 "words" = some (some (.ref f466)))
    (h511 : PySem.W.typeIn K (.ref f466) = some (.type "function"))
    (h512 : PySem.W.fnIn K f466 = true)
    (h513 : PySem.W.mroIn K c34 (.ref c34) = some true)
    (h516 : PySem.W.findIn K (.ref c30) "text" = some (some (.ref p514)))
    (h517 : PySem.W.findIn K (.ref c32) "text" = some (some (.ref p514)))
    (h518 : PySem.W.findIn K (.ref c34) "text" = some (some (.ref p514)))
    (h519 : PySem.W.specialIn K (.ref p514) "__get__" = some (some (.builtin "property.__get__")))
    (h520 : PySem.W.takesIn K (.ref p514) = some true)
    (h522 : PySem.W.recIn K p514 "property" = some (.ref g515 :: rs521))
    (h532 : K.lookup g515 = some ⟨oc523, od529, .func (PySem.W.fnOf "text" "Column.text" (defArgs s_Column_text) (defBody s_Column_text) (defScope s_Column_text) .none kV524 dc525 pm526 an530 cd527 ct528), sl531⟩)
    (h533 : PySem.W.codeIn K cd527 "Column.text" = true)
    (h534 : PySem.W.keepIn K (.ref g515) = true)
    (h536 : PySem.W.nsIn K mainGlobals "parsed_column" = some (some (.ref f535)))
    (h546 : K.lookup f535 = some ⟨oc537, od543, .func (PySem.W.fnOf "parsed_column" "parsed_column" (defArgs s_parsed_column) (defBody s_parsed_column) (defScope s_parsed_column) .none kV538 dc539 pm540 an544 cd541 ct542), sl545⟩)
    (h547 : PySem.W.codeIn K cd541 "parsed_column" = true)
    (h548 : PySem.W.keepIn K (.ref f535) = true)
    (h551 : PySem.W.findCls K (.ref c28) (.type "type") "parse" = some (.get (.builtin "staticmethod.__get__") (.ref p549) .none (.ref c28)))
    (h553 : PySem.W.recIn K p549 "staticmethod" = some (.ref g550 :: rs552))
    (h554 : PySem.W.readsIn K c28 (.type "type") = true)
    (h555 : PySem.W.specialIn K (.ref c28) "__getattribute__" = some (some (.builtin "type.__getattribute__")))
    (h565 : K.lookup g550 = some ⟨oc556, od562, .func (PySem.W.fnOf "parse" "Column.parse" (defArgs s_Column_parse) (defBody s_Column_parse) (defScope s_Column_parse) .none kV557 dc558 pm559 an563 cd560 ct561), sl564⟩)
    (h566 : PySem.W.codeIn K cd560 "Column.parse" = true)
    (h567 : PySem.W.keepIn K (.ref g550) = true)
    (h570 : PySem.W.findIn K (.ref c30) "kind" = some (some (.ref p568)))
    (h571 : PySem.W.findIn K (.ref c32) "kind" = some (some (.ref p568)))
    (h572 : PySem.W.findIn K (.ref c34) "kind" = some (some (.ref p568)))
    (h573 : PySem.W.specialIn K (.ref p568) "__get__" = some (some (.builtin "property.__get__")))
    (h574 : PySem.W.takesIn K (.ref p568) = some true)
    (h576 : PySem.W.recIn K p568 "property" = some (.ref g569 :: rs575))
    (h586 : K.lookup g569 = some ⟨oc577, od583, .func (PySem.W.fnOf "kind" "Column.kind" (defArgs s_Column_kind) (defBody s_Column_kind) (defScope s_Column_kind) .none kV578 dc579 pm580 an584 cd581 ct582), sl585⟩)
    (h587 : PySem.W.codeIn K cd581 "Column.kind" = true)
    (h588 : PySem.W.keepIn K (.ref g569) = true)
    (h590 : PySem.W.nsIn K mainGlobals "is_group" = some (some (.ref f589)))
    (h600 : K.lookup f589 = some ⟨oc591, od597, .func (PySem.W.fnOf "is_group" "is_group" (defArgs s_is_group) (defBody s_is_group) (defScope s_is_group) .none kV592 dc593 pm594 an598 cd595 ct596), sl599⟩)
    (h601 : PySem.W.codeIn K cd595 "is_group" = true)
    (h602 : PySem.W.keepIn K (.ref f589) = true)
    (h603 : PySem.W.plainGet K c36 Str.empty = true)
    (h604 : PySem.W.hasDictIn K c36 = true)
    (h605 : PySem.W.plainOver K c36 = true)
    (h606 : PySem.W.findIn K (.ref c36) "__setattr__" = some (some (.builtin "object.__setattr__")))
    (h607 : PySem.W.makesIn K c36 = true)
    (h608 : PySem.W.keepIn K (.ref c36) = true)
    (h609 : PySem.W.findIn K (.ref c36) "name" = some none)
    (h610 : PySem.W.findIn K (.ref c36) "by_name" = some none)
    (h611 : PySem.W.findIn K (.ref c36) "own_groups" = some none)
    (h612 : PySem.W.plainGet K c38 Str.empty = true)
    (h613 : PySem.W.hasDictIn K c38 = true)
    (h614 : PySem.W.plainOver K c38 = true)
    (h615 : PySem.W.findIn K (.ref c38) "__setattr__" = some (some (.builtin "object.__setattr__")))
    (h616 : PySem.W.makesIn K c38 = true)
    (h617 : PySem.W.keepIn K (.ref c38) = true)
    (h618 : PySem.W.findIn K (.ref c38) "by_name" = some none)
    (h620 : PySem.W.findIn K (.ref c36) "__init__" = some (some (.ref f619)))
    (h621 : PySem.W.isFn K (.ref f619) = true)
    (h631 : K.lookup f619 = some ⟨oc622, od628, .func (PySem.W.fnOf "__init__" "Table.__init__" (defArgs s_Table___init__) (defBody s_Table___init__) (defScope s_Table___init__) .none kV623 dc624 pm625 an629 cd626 ct627), sl630⟩)
    (h632 : PySem.W.codeIn K cd626 "Table.__init__" = true)
    (h633 : PySem.W.keepIn K (.ref f619) = true)
    (h636 : PySem.W.findIn K (.ref c36) "columns" = some (some (.ref p634)))
    (h637 : PySem.W.specialIn K (.ref p634) "__get__" = some (some (.builtin "property.__get__")))
    (h638 : PySem.W.takesIn K (.ref p634) = some true)
    (h640 : PySem.W.recIn K p634 "property" = some (.ref g635 :: rs639))
    (h650 : K.lookup g635 = some ⟨oc641, od647, .func (PySem.W.fnOf "columns" "Table.columns" (defArgs s_Table_columns) (defBody s_Table_columns) (defScope s_Table_columns) .none kV642 dc643 pm644 an648 cd645 ct646), sl649⟩)
    (h651 : PySem.W.codeIn K cd645 "Table.columns" = true)
    (h652 : PySem.W.keepIn K (.ref g635) = true)
    (h654 : PySem.W.findIn K (.ref c36) "lines" = some (some (.ref f653)))
    (h655 : PySem.W.isFn K (.ref f653) = true)
    (h665 : K.lookup f653 = some ⟨oc656, od662, .func (PySem.W.fnOf "lines" "Table.lines" (defArgs s_Table_lines) (defBody s_Table_lines) (defScope s_Table_lines) .none kV657 dc658 pm659 an663 cd660 ct661), sl664⟩)
    (h666 : PySem.W.codeIn K cd660 "Table.lines" = true)
    (h667 : PySem.W.keepIn K (.ref f653) = true)
    (h669 : PySem.W.findIn K (.ref c38) "__init__" = some (some (.ref f668)))
    (h670 : PySem.W.isFn K (.ref f668) = true)
    (h680 : K.lookup f668 = some ⟨oc671, od677, .func (PySem.W.fnOf "__init__" "Schema.__init__" (defArgs s_Schema___init__) (defBody s_Schema___init__) (defScope s_Schema___init__) .none kV672 dc673 pm674 an678 cd675 ct676), sl679⟩)
    (h681 : PySem.W.codeIn K cd675 "Schema.__init__" = true)
    (h682 : PySem.W.keepIn K (.ref f668) = true)
    (h685 : PySem.W.findIn K (.ref c38) "tables" = some (some (.ref p683)))
    (h686 : PySem.W.specialIn K (.ref p683) "__get__" = some (some (.builtin "property.__get__")))
    (h687 : PySem.W.takesIn K (.ref p683) = some true)
    (h689 : PySem.W.recIn K p683 "property" = some (.ref g684 :: rs688))
    (h699 : K.lookup g684 = some ⟨oc690, od696, .func (PySem.W.fnOf "tables" "Schema.tables" (defArgs s_Schema_tables) (defBody s_Schema_tables) (defScope s_Schema_tables) .none kV691 dc692 pm693 an697 cd694 ct695), sl698⟩)
    (h700 : PySem.W.codeIn K cd694 "Schema.tables" = true)
    (h701 : PySem.W.keepIn K (.ref g684) = true)
    (h704 : PySem.W.findIn K (.ref c38) "text" = some (some (.ref p702)))
    (h705 : PySem.W.specialIn K (.ref p702) "__get__" = some (some (.builtin "property.__get__")))
    (h706 : PySem.W.takesIn K (.ref p702) = some true)
    (h708 : PySem.W.recIn K p702 "property" = some (.ref g703 :: rs707))
    (h718 : K.lookup g703 = some ⟨oc709, od715, .func (PySem.W.fnOf "text" "Schema.text" (defArgs s_Schema_text) (defBody s_Schema_text) (defScope s_Schema_text) .none kV710 dc711 pm712 an716 cd713 ct714), sl717⟩)
    (h719 : PySem.W.codeIn K cd713 "Schema.text" = true)
    (h720 : PySem.W.keepIn K (.ref g703) = true)
    (h722 : PySem.W.nsIn K mainGlobals "took_column" = some (some (.ref f721)))
    (h732 : K.lookup f721 = some ⟨oc723, od729, .func (PySem.W.fnOf "took_column" "took_column" (defArgs s_took_column) (defBody s_took_column) (defScope s_took_column) .none kV724 dc725 pm726 an730 cd727 ct728), sl731⟩)
    (h733 : PySem.W.codeIn K cd727 "took_column" = true)
    (h734 : PySem.W.keepIn K (.ref f721) = true)
    (h736 : PySem.W.nsIn K mainGlobals "took_line" = some (some (.ref f735)))
    (h746 : K.lookup f735 = some ⟨oc737, od743, .func (PySem.W.fnOf "took_line" "took_line" (defArgs s_took_line) (defBody s_took_line) (defScope s_took_line) .none kV738 dc739 pm740 an744 cd741 ct742), sl745⟩)
    (h747 : PySem.W.codeIn K cd741 "took_line" = true)
    (h748 : PySem.W.keepIn K (.ref f735) = true)
    (h751 : PySem.W.findCls K (.ref c38) (.type "type") "parse" = some (.get (.builtin "staticmethod.__get__") (.ref p749) .none (.ref c38)))
    (h753 : PySem.W.recIn K p749 "staticmethod" = some (.ref g750 :: rs752))
    (h754 : PySem.W.readsIn K c38 (.type "type") = true)
    (h755 : PySem.W.specialIn K (.ref c38) "__getattribute__" = some (some (.builtin "type.__getattribute__")))
    (h765 : K.lookup g750 = some ⟨oc756, od762, .func (PySem.W.fnOf "parse" "Schema.parse" (defArgs s_Schema_parse) (defBody s_Schema_parse) (defScope s_Schema_parse) .none kV757 dc758 pm759 an763 cd760 ct761), sl764⟩)
    (h766 : PySem.W.codeIn K cd760 "Schema.parse" = true)
    (h767 : PySem.W.keepIn K (.ref g750) = true)
    (h769 : PySem.W.nsIn K mainGlobals "_law_begun" = some (some (.ref f768)))
    (h779 : K.lookup f768 = some ⟨oc770, od776, .func (PySem.W.fnOf "_law_begun" "_law_begun" (defArgs s__law_begun) (defBody s__law_begun) (defScope s__law_begun) .none kV771 dc772 pm773 an777 cd774 ct775), sl778⟩)
    (h780 : PySem.W.codeIn K cd774 "_law_begun" = true)
    (h781 : PySem.W.keepIn K (.ref f768) = true)
    (h783 : PySem.W.nsIn K mainGlobals "_law_draw" = some (some (.ref f782)))
    (h793 : K.lookup f782 = some ⟨oc784, od790, .func (PySem.W.fnOf "_law_draw" "_law_draw" (defArgs s__law_draw) (defBody s__law_draw) (defScope s__law_draw) .none kV785 dc786 pm787 an791 cd788 ct789), sl792⟩)
    (h794 : PySem.W.codeIn K cd788 "_law_draw" = true)
    (h795 : PySem.W.keepIn K (.ref f782) = true)
    (h797 : PySem.W.nsIn K mainGlobals "_law_pick" = some (some (.ref f796)))
    (h807 : K.lookup f796 = some ⟨oc798, od804, .func (PySem.W.fnOf "_law_pick" "_law_pick" (defArgs s__law_pick) (defBody s__law_pick) (defScope s__law_pick) .none kV799 dc800 pm801 an805 cd802 ct803), sl806⟩)
    (h808 : PySem.W.codeIn K cd802 "_law_pick" = true)
    (h809 : PySem.W.keepIn K (.ref f796) = true)
    (h811 : PySem.W.nsIn K mainGlobals "_law_mixed" = some (some (.ref f810)))
    (h821 : K.lookup f810 = some ⟨oc812, od818, .func (PySem.W.fnOf "_law_mixed" "_law_mixed" (defArgs s__law_mixed) (defBody s__law_mixed) (defScope s__law_mixed) .none kV813 dc814 pm815 an819 cd816 ct817), sl820⟩)
    (h822 : PySem.W.codeIn K cd816 "_law_mixed" = true)
    (h823 : PySem.W.keepIn K (.ref f810) = true)
    (h825 : PySem.W.nsIn K mainGlobals "_law_names" = some (some (.ref f824)))
    (h835 : K.lookup f824 = some ⟨oc826, od832, .func (PySem.W.fnOf "_law_names" "_law_names" (defArgs s__law_names) (defBody s__law_names) (defScope s__law_names) .none kV827 dc828 pm829 an833 cd830 ct831), sl834⟩)
    (h836 : PySem.W.codeIn K cd830 "_law_names" = true)
    (h837 : PySem.W.keepIn K (.ref f824) = true)
    (h839 : PySem.W.nsIn K mainGlobals "_law_column" = some (some (.ref f838)))
    (h849 : K.lookup f838 = some ⟨oc840, od846, .func (PySem.W.fnOf "_law_column" "_law_column" (defArgs s__law_column) (defBody s__law_column) (defScope s__law_column) .none kV841 dc842 pm843 an847 cd844 ct845), sl848⟩)
    (h850 : PySem.W.codeIn K cd844 "_law_column" = true)
    (h851 : PySem.W.keepIn K (.ref f838) = true)
    (h853 : PySem.W.nsIn K mainGlobals "_law_groups" = some (some (.ref f852)))
    (h863 : K.lookup f852 = some ⟨oc854, od860, .func (PySem.W.fnOf "_law_groups" "_law_groups" (defArgs s__law_groups) (defBody s__law_groups) (defScope s__law_groups) .none kV855 dc856 pm857 an861 cd858 ct859), sl862⟩)
    (h864 : PySem.W.codeIn K cd858 "_law_groups" = true)
    (h865 : PySem.W.keepIn K (.ref f852) = true)
    (h867 : PySem.W.nsIn K mainGlobals "_law_spec" = some (some (.ref f866)))
    (h877 : K.lookup f866 = some ⟨oc868, od874, .func (PySem.W.fnOf "_law_spec" "_law_spec" (defArgs s__law_spec) (defBody s__law_spec) (defScope s__law_spec) .none kV869 dc870 pm871 an875 cd872 ct873), sl876⟩)
    (h878 : PySem.W.codeIn K cd872 "_law_spec" = true)
    (h879 : PySem.W.keepIn K (.ref f866) = true)
    (h881 : PySem.W.nsIn K mainGlobals "_law_column_text" = some (some (.ref f880)))
    (h891 : K.lookup f880 = some ⟨oc882, od888, .func (PySem.W.fnOf "_law_column_text" "_law_column_text" (defArgs s__law_column_text) (defBody s__law_column_text) (defScope s__law_column_text) .none kV883 dc884 pm885 an889 cd886 ct887), sl890⟩)
    (h892 : PySem.W.codeIn K cd886 "_law_column_text" = true)
    (h893 : PySem.W.keepIn K (.ref f880) = true)
    (h895 : PySem.W.nsIn K mainGlobals "_law_schema_text" = some (some (.ref f894)))
    (h905 : K.lookup f894 = some ⟨oc896, od902, .func (PySem.W.fnOf "_law_schema_text" "_law_schema_text" (defArgs s__law_schema_text) (defBody s__law_schema_text) (defScope s__law_schema_text) .none kV897 dc898 pm899 an903 cd900 ct901), sl904⟩)
    (h906 : PySem.W.codeIn K cd900 "_law_schema_text" = true)
    (h907 : PySem.W.keepIn K (.ref f894) = true)
    (h909 : PySem.W.nsIn K mainGlobals "_law_is_name" = some (some (.ref f908)))
    (h919 : K.lookup f908 = some ⟨oc910, od916, .func (PySem.W.fnOf "_law_is_name" "_law_is_name" (defArgs s__law_is_name) (defBody s__law_is_name) (defScope s__law_is_name) .none kV911 dc912 pm913 an917 cd914 ct915), sl918⟩)
    (h920 : PySem.W.codeIn K cd914 "_law_is_name" = true)
    (h921 : PySem.W.keepIn K (.ref f908) = true)
    (h923 : PySem.W.nsIn K mainGlobals "_law_column_of" = some (some (.ref f922)))
    (h933 : K.lookup f922 = some ⟨oc924, od930, .func (PySem.W.fnOf "_law_column_of" "_law_column_of" (defArgs s__law_column_of) (defBody s__law_column_of) (defScope s__law_column_of) .none kV925 dc926 pm927 an931 cd928 ct929), sl932⟩)
    (h934 : PySem.W.codeIn K cd928 "_law_column_of" = true)
    (h935 : PySem.W.keepIn K (.ref f922) = true)
    (h937 : PySem.W.nsIn K mainGlobals "_law_parts" = some (some (.ref f936)))
    (h947 : K.lookup f936 = some ⟨oc938, od944, .func (PySem.W.fnOf "_law_parts" "_law_parts" (defArgs s__law_parts) (defBody s__law_parts) (defScope s__law_parts) .none kV939 dc940 pm941 an945 cd942 ct943), sl946⟩)
    (h948 : PySem.W.codeIn K cd942 "_law_parts" = true)
    (h949 : PySem.W.keepIn K (.ref f936) = true)
    (h951 : PySem.W.nsIn K mainGlobals "_law_table_wrong" = some (some (.ref f950)))
    (h961 : K.lookup f950 = some ⟨oc952, od958, .func (PySem.W.fnOf "_law_table_wrong" "_law_table_wrong" (defArgs s__law_table_wrong) (defBody s__law_table_wrong) (defScope s__law_table_wrong) .none kV953 dc954 pm955 an959 cd956 ct957), sl960⟩)
    (h962 : PySem.W.codeIn K cd956 "_law_table_wrong" = true)
    (h963 : PySem.W.keepIn K (.ref f950) = true)
    (h965 : PySem.W.nsIn K mainGlobals "_law_due" = some (some (.ref f964)))
    (h975 : K.lookup f964 = some ⟨oc966, od972, .func (PySem.W.fnOf "_law_due" "_law_due" (defArgs s__law_due) (defBody s__law_due) (defScope s__law_due) .none kV967 dc968 pm969 an973 cd970 ct971), sl974⟩)
    (h976 : PySem.W.codeIn K cd970 "_law_due" = true)
    (h977 : PySem.W.keepIn K (.ref f964) = true)
    (h979 : PySem.W.nsIn K mainGlobals "_law_too_large" = some (some (.ref f978)))
    (h989 : K.lookup f978 = some ⟨oc980, od986, .func (PySem.W.fnOf "_law_too_large" "_law_too_large" (defArgs s__law_too_large) (defBody s__law_too_large) (defScope s__law_too_large) .none kV981 dc982 pm983 an987 cd984 ct985), sl988⟩)
    (h990 : PySem.W.codeIn K cd984 "_law_too_large" = true)
    (h991 : PySem.W.keepIn K (.ref f978) = true)
    (h993 : PySem.W.nsIn K mainGlobals "_law_spoilt" = some (some (.ref f992)))
    (h1003 : K.lookup f992 = some ⟨oc994, od1000, .func (PySem.W.fnOf "_law_spoilt" "_law_spoilt" (defArgs s__law_spoilt) (defBody s__law_spoilt) (defScope s__law_spoilt) .none kV995 dc996 pm997 an1001 cd998 ct999), sl1002⟩)
    (h1004 : PySem.W.codeIn K cd998 "_law_spoilt" = true)
    (h1005 : PySem.W.keepIn K (.ref f992) = true)
    (h1007 : PySem.W.nsIn K mainGlobals "_law_read" = some (some (.ref f1006)))
    (h1017 : K.lookup f1006 = some ⟨oc1008, od1014, .func (PySem.W.fnOf "_law_read" "_law_read" (defArgs s__law_read) (defBody s__law_read) (defScope s__law_read) .none kV1009 dc1010 pm1011 an1015 cd1012 ct1013), sl1016⟩)
    (h1018 : PySem.W.codeIn K cd1012 "_law_read" = true)
    (h1019 : PySem.W.keepIn K (.ref f1006) = true)
    (h1021 : PySem.W.nsIn K mainGlobals "law" = some (some (.ref f1020)))
    (h1031 : K.lookup f1020 = some ⟨oc1022, od1028, .func (PySem.W.fnOf "law" "law" (defArgs s_law) (defBody s_law) (defScope s_law) .none kV1023 dc1024 pm1025 an1029 cd1026 ct1027), sl1030⟩)
    (h1032 : PySem.W.codeIn K cd1026 "law" = true)
    (h1033 : PySem.W.keepIn K (.ref f1020) = true) :
    ∃ fd : FuncData, (∀ (s : Shared) (v : Value), BindsTo s fd ⟨[v], []⟩ [("_law_script", v)]) ∧ ∀ base : Heap, K.In base → base.Ns mainGlobals mg → FnOk P wo K mg base (L2.CX P wo) 12 fa fd ["_law_script"] (spLaw K) := by
  have e := hfa.symm.trans (PySem.W.mg_of X G h1021)
  cases e
  refine ⟨(PySem.W.fnOf "law" "law" (defArgs s_law) (defBody s_law) (defScope s_law) .none kV1023 dc1024 pm1025 an1029 cd1026 ct1027), fun s v => .of_eq rfl, fun base _ _ => ?_⟩
  have hany := h1
  let A : Ad := ⟨c16, c18, c20, c22, c24, c26, c28, c30, c32, c34, c36, c38, a46, a57⟩
  have T : Txt K mg A := ⟨PySem.W.mg_none_of X G h2, PySem.W.mg_none_of X G h3, PySem.W.mg_none_of X G h4, PySem.W.mg_none_of X G h5, PySem.W.mg_none_of X G h6, PySem.W.mg_none_of X G h7, PySem.W.mg_none_of X G h8, PySem.W.mg_none_of X G h9, PySem.W.mg_none_of X G h10, PySem.W.mg_none_of X G h11, PySem.W.mg_none_of X G h12, PySem.W.mg_none_of X G h13, PySem.W.mg_none_of X G h14, PySem.W.mg_none_of X G h15, ⟨_, PySem.W.mg_of X G h17, rfl⟩, ⟨_, PySem.W.mg_of X G h19, rfl⟩, ⟨_, PySem.W.mg_of X G h21, rfl⟩, ⟨_, PySem.W.mg_of X G h23, rfl⟩, ⟨_, PySem.W.mg_of X G h25, rfl⟩, ⟨_, PySem.W.mg_of X G h27, rfl⟩, ⟨_, PySem.W.mg_of X G h29, rfl⟩, ⟨_, PySem.W.mg_of X G h31, rfl⟩, ⟨_, PySem.W.mg_of X G h33, rfl⟩, ⟨_, PySem.W.mg_of X G h35, rfl⟩, ⟨_, PySem.W.mg_of X G h37, rfl⟩, ⟨_, PySem.W.mg_of X G h39, rfl⟩, ⟨_, PySem.W.mg_of X G h41, ⟨_, rfl⟩⟩, ⟨_, PySem.W.mg_of X G h43, ⟨_, rfl⟩⟩, ⟨_, PySem.W.mg_of X G h47, rfl⟩, (fun H => Or.inr ⟨_, _, _, h56, rfl, rfl, by rw [sizeLine_eq]; show 5 ≤ 16777216; decide, .cons ⟨_, rfl⟩ (.cons ⟨_, rfl⟩ (.cons ⟨_, rfl⟩ (.cons ⟨_, rfl⟩ (.cons ⟨_, rfl⟩ (.nil)))))⟩), ⟨_, PySem.W.mg_of X G h58, rfl⟩, (fun H => Or.inr ⟨_, _, _, h65, rfl, rfl, by rw [sizeLine_eq]; show 3 ≤ 16777216; decide, .cons ⟨_, rfl⟩ (.cons ⟨_, rfl⟩ (.cons ⟨_, rfl⟩ (.nil)))⟩), ⟨_, PySem.W.mg_of X G h45, ⟨_, rfl⟩⟩⟩
  have U : SupTop P mg := ⟨T.nb_super, htop⟩
  have CF : ColF K A := ⟨(fun k => match k with | .int => ⟨h66, h67, h68, h69⟩ | .text => ⟨h77, h78, h79, h80⟩ | .ref => ⟨h88, h89, h90, h91⟩), (fun k => match k with | .int => h72 | .text => h83 | .ref => h94), (fun k => match k with | .int => h73 | .text => h84 | .ref => h95), h99, h100, (fun k => match k with | .int => ⟨_, h75, ⟨_, rfl⟩, h76, by decide +kernel⟩ | .text => ⟨_, h86, ⟨_, rfl⟩, h87, by decide +kernel⟩ | .ref => ⟨_, h97, ⟨_, rfl⟩, h98, by decide +kernel⟩)⟩
  have O_InvalidName : OexC K c18 := ⟨⟨_, _, _, _, _, _, _, _, _, _, _, _, _, _, _, h116, h117⟩, h118, h119, h120, h121⟩
  have S_InvalidName___init__ : FunS P K "__init__" "InvalidName.__init__" s_InvalidName___init__ f122 cc133 c18 ca134 _ := ⟨⟨_, _, _, _, _, _, _, _, _, rfl, h135⟩, h136, ⟨_, _, _, _, _, _, h142, h143, hfile⟩, ⟨_, _, _, h147⟩, Option.isSome_iff_exists.mp h148, h149⟩
  have M_InvalidName : SupE K c18 c18 := ⟨O_InvalidName, hany, h150, h151, h152⟩
  have E_InvalidName := @ok_exc1 P wo K mg base _ _ "name" _ _ _ _ _ _ _ _ _ _ _ _ _ _ _ _ _ S_InvalidName___init__ U M_InvalidName h153 ⟨rfl, rfl, rfl, by decide +kernel, rfl, by decide +kernel, by decide +kernel, by decide +kernel⟩ rfl rfl ⟨_, rfl, rfl, rfl⟩ rfl (fun _ => ⟨_, rfl⟩)
  have X_InvalidName : Exc1 P wo K mg base "InvalidName" c18 "name" := ⟨O_InvalidName, PySem.W.mg_of X G h19, f122, h123, h124, (cal0 E_InvalidName (bindsup2 fun _ _ => rfl) rfl).imp fun _ _ _ _ _ h => h⟩
  have O_InvalidColumn : OexC K c20 := ⟨⟨_, _, _, _, _, _, _, _, _, _, _, _, _, _, _, h170, h171⟩, h172, h173, h174, h175⟩
  have S_InvalidColumn___init__ : FunS P K "__init__" "InvalidColumn.__init__" s_InvalidColumn___init__ f176 cc187 c20 ca188 _ := ⟨⟨_, _, _, _, _, _, _, _, _, rfl, h189⟩, h190, ⟨_, _, _, _, _, _, h196, h197, hfile⟩, ⟨_, _, _, h201⟩, Option.isSome_iff_exists.mp h202, h203⟩
  have M_InvalidColumn : SupE K c20 c20 := ⟨O_InvalidColumn, hany, h204, h205, h206⟩
  have E_InvalidColumn := @ok_exc1 P wo K mg base _ _ "name" _ _ _ _ _ _ _ _ _ _ _ _ _ _ _ _ _ S_InvalidColumn___init__ U M_InvalidColumn h207 ⟨rfl, rfl, rfl, by decide +kernel, rfl, by decide +kernel, by decide +kernel, by decide +kernel⟩ rfl rfl ⟨_, rfl, rfl, rfl⟩ rfl (fun _ => ⟨_, rfl⟩)
  have X_InvalidColumn : Exc1 P wo K mg base "InvalidColumn" c20 "name" := ⟨O_InvalidColumn, PySem.W.mg_of X G h21, f176, h177, h178, (cal0 E_InvalidColumn (bindsup2 fun _ _ => rfl) rfl).imp fun _ _ _ _ _ h => h⟩
  have O_InvalidGroup : OexC K c22 := ⟨⟨_, _, _, _, _, _, _, _, _, _, _, _, _, _, _, h224, h225⟩, h226, h227, h228, h229⟩
  have S_InvalidGroup___init__ : FunS P K "__init__" "InvalidGroup.__init__" s_InvalidGroup___init__ f230 cc241 c22 ca242 _ := ⟨⟨_, _, _, _, _, _, _, _, _, rfl, h243⟩, h244, ⟨_, _, _, _, _, _, h250, h251, hfile⟩, ⟨_, _, _, h255⟩, Option.isSome_iff_exists.mp h256, h257⟩
  have M_InvalidGroup : SupE K c22 c22 := ⟨O_InvalidGroup, hany, h258, h259, h260⟩
  have E_InvalidGroup := @ok_exc1 P wo K mg base _ _ "index" _ _ _ _ _ _ _ _ _ _ _ _ _ _ _ _ _ S_InvalidGroup___init__ U M_InvalidGroup h261 ⟨rfl, rfl, rfl, by decide +kernel, rfl, by decide +kernel, by decide +kernel, by decide +kernel⟩ rfl rfl ⟨_, rfl, rfl, rfl⟩ rfl (fun _ => ⟨_, rfl⟩)
  have X_InvalidGroup : Exc1 P wo K mg base "InvalidGroup" c22 "index" := ⟨O_InvalidGroup, PySem.W.mg_of X G h23, f230, h231, h232, (cal0 E_InvalidGroup (bindsup2 fun _ _ => rfl) rfl).imp fun _ _ _ _ _ h => h⟩
  have O_UnknownTable : OexC K c24 := ⟨⟨_, _, _, _, _, _, _, _, _, _, _, _, _, _, _, h278, h279⟩, h280, h281, h282, h283⟩
  have S_UnknownTable___init__ : FunS P K "__init__" "UnknownTable.__init__" s_UnknownTable___init__ f284 cc295 c24 ca296 _ := ⟨⟨_, _, _, _, _, _, _, _, _, rfl, h297⟩, h298, ⟨_, _, _, _, _, _, h304, h305, hfile⟩, ⟨_, _, _, h309⟩, Option.isSome_iff_exists.mp h310, h311⟩
  have M_UnknownTable : SupE K c24 c24 := ⟨O_UnknownTable, hany, h312, h313, h314⟩
  have E_UnknownTable := @ok_exc1 P wo K mg base _ _ "name" _ _ _ _ _ _ _ _ _ _ _ _ _ _ _ _ _ S_UnknownTable___init__ U M_UnknownTable h315 ⟨rfl, rfl, rfl, by decide +kernel, rfl, by decide +kernel, by decide +kernel, by decide +kernel⟩ rfl rfl ⟨_, rfl, rfl, rfl⟩ rfl (fun _ => ⟨_, rfl⟩)
  have X_UnknownTable : Exc1 P wo K mg base "UnknownTable" c24 "name" := ⟨O_UnknownTable, PySem.W.mg_of X G h25, f284, h285, h286, (cal0 E_UnknownTable (bindsup2 fun _ _ => rfl) rfl).imp fun _ _ _ _ _ h => h⟩
  have O_InvalidText : OexC K c26 := ⟨⟨_, _, _, _, _, _, _, _, _, _, _, _, _, _, _, h332, h333⟩, h334, h335, h336, h337⟩
  have S_InvalidText___init__ : FunS P K "__init__" "InvalidText.__init__" s_InvalidText___init__ f338 cc349 c26 ca350 _ := ⟨⟨_, _, _, _, _, _, _, _, _, rfl, h351⟩, h352, ⟨_, _, _, _, _, _, h358, h359, hfile⟩, ⟨_, _, _, h363⟩, Option.isSome_iff_exists.mp h364, h365⟩
  have M_InvalidText : SupE K c26 c26 := ⟨O_InvalidText, hany, h366, h367, h368⟩
  have E_InvalidText := @ok_exc1 P wo K mg base _ _ "line" _ _ _ _ _ _ _ _ _ _ _ _ _ _ _ _ _ S_InvalidText___init__ U M_InvalidText h369 ⟨rfl, rfl, rfl, by decide +kernel, rfl, by decide +kernel, by decide +kernel, by decide +kernel⟩ rfl rfl ⟨_, rfl, rfl, rfl⟩ rfl (fun _ => ⟨_, rfl⟩)
  have X_InvalidText : Exc1 P wo K mg base "InvalidText" c26 "line" := ⟨O_InvalidText, PySem.W.mg_of X G h27, f338, h339, h340, (cal0 E_InvalidText (bindsup2 fun _ _ => rfl) rfl).imp fun _ _ _ _ _ h => h⟩
  have EF : ExF K A := ⟨exm2 (PySem.W.exm_ref h173 h208 h174 h374) (PySem.W.exm_ref h119 h154 h120 h375), exm2 (PySem.W.exm_ref h173 h208 h174 h376) (PySem.W.exm_ref h119 h154 h120 h377)⟩
  have ET : ExT K A := ⟨PySem.W.exm_ref h335 h370 h336 h378⟩
  have RF : RdF K A := rdF_of (A := A) h401 (five5 (⟨h381, h382, h335, h370, h383, h379, h380, h384⟩) (⟨h385, h386, h227, h262, h387, h379, h380, h388⟩) (⟨h389, h390, h119, h154, h391, h379, h380, h392⟩) (⟨h393, h394, h173, h208, h395, h379, h380, h396⟩) (⟨h397, h398, h281, h316, h399, h379, h380, h400⟩)) (five5 (⟨h381, h382, h335, h370⟩) (⟨h385, h386, h227, h262⟩) (⟨h389, h390, h119, h154⟩) (⟨h393, h394, h173, h208⟩) (⟨h397, h398, h281, h316⟩))
  have KI : KiF K := ⟨kit_ty (by decide +kernel), kit_ty (by decide +kernel)⟩
  have NF : NsF K := ⟨kit_ty (by decide +kernel), kit_ty (by decide +kernel), kit_ty (by decide +kernel), kit_ty (by decide +kernel), kit_ty (by decide +kernel), kit_ty (by decide +kernel)⟩
  have F_is_name := fun_mk (st := s_is_name) h413 h414 h415
  have O_is_name := ok_is_name (P := P) (wo := wo) (base := base) F_is_name T
  have Gn : GFn P wo K mg base _ "is_name" _ _ _ := ⟨f402, PySem.W.mg_of X G h403, h415, cal0 O_is_name (F_is_name.binds (ps := ["value"]) fun _ _ _ _ _ _ us hl => match us, hl with | [_], _ => rfl) rfl⟩
  have F_ci : FunD K "__init__" "Column.__init__" (defArgs s_Column___init__) (defBody s_Column___init__) (defScope s_Column___init__) [] [("optional", .bl false)] f416 _ := ⟨⟨_, _, _, _, _, _, _, _, _, _, rfl, h429, h430, .inl ⟨rfl, rfl⟩, .inr ⟨_, rfl, fun q hq => by rw [List.mem_singleton] at hq; subst hq; exact ⟨_, h432, rfl⟩⟩⟩, h431⟩
  have O_ci := ok_col_init (P := P) (wo := wo) (base := base) F_ci T Gn X_InvalidName
  obtain ⟨mv, hb⟩ := F_ci.kbinds0 (ps := ["self", "name", "optional"]) 2 ["optional"] [] (fun us _ ws => us ++ ws) (by simp) (by simp) (fun r _ rz => r.append rz) (fun _ _ _ _ _ _ us mv ws l1 l2 l3 => match us, ws, mv, l1, l2, l3 with | [_, _], [_], [], _, _, _ => rfl)
  have C_init : Cal P wo K mg base 3 f416 2 ["optional"] (fun vs zs => spColInit K A (vs ++ zs)) := calK O_ci hb
  have S_RefColumn___init__ : FunS P K "__init__" "RefColumn.__init__" s_RefColumn___init__ f434 cc445 c34 ca446 _ := ⟨⟨_, _, _, _, _, _, _, _, _, rfl, h447⟩, h448, ⟨_, _, _, _, _, _, h454, h455, hfile⟩, ⟨_, _, _, h459⟩, Option.isSome_iff_exists.mp h460, h461⟩
  have O_ri := ok_ref_init S_RefColumn___init__ U T CF Gn X_InvalidName X_InvalidColumn (⟨hany, h462, h463, h464, h465, by decide +kernel⟩ : SupM K c34 c34 "__init__" f416) C_init
  have C_ri : Cal P wo K mg base 4 f434 3 ["optional", "rule"] (fun vs zs => spRefInit K A (vs ++ zs)) := calK O_ri ⟨fun s us ws X l1 l2 => BindsTo.of_looks fun M => PySem.W.Looks.of_pure (match us, ws, l1, l2 with | [_, _, _], [_, _], _, _ => rfl), fun r rz => r.append rz⟩
  have MR : GMk P wo K mg base 4 "RefColumn" A.RefColumn 2 ["optional", "rule"] (fun vs zs => spRefInit K A (vs ++ zs)) := ⟨PySem.W.mg_of X G h35, f434, ⟨h92, h435, h436, h93⟩, C_ri⟩
  have MI : GMk P wo K mg base 4 "IntColumn" A.IntColumn 1 ["optional"] (fun vs zs => spColInit K A (vs ++ zs)) := ⟨PySem.W.mg_of X G h31, f416, ⟨h70, h418, h433, h71⟩, C_init.mono (by decide)⟩
  have MT : GMk P wo K mg base 4 "TextColumn" A.TextColumn 1 ["optional"] (fun vs zs => spColInit K A (vs ++ zs)) := ⟨PySem.W.mg_of X G h33, f416, ⟨h81, h419, h433, h82⟩, C_init.mono (by decide)⟩
  have F_w := fun_mk (st := s_Column_words) h478 h479 h480
  have O_w := ok_words0 (P := P) (wo := wo) (base := base) F_w T CF
  have C_words : Cal P wo K mg base 1 f466 1 [] (fun vs _ => spWords0 A vs) := cal0 O_w (F_w.binds (ps := ["self"]) fun _ _ _ _ _ _ us hl => match us, hl with | [_], _ => rfl) rfl
  have S_RefColumn_words : FunS P K "words" "RefColumn.words" s_RefColumn_words f482 cc493 c34 ca494 _ := ⟨⟨_, _, _, _, _, _, _, _, _, rfl, h495⟩, h496, ⟨_, _, _, _, _, _, h502, h503, hfile⟩, ⟨_, _, _, h507⟩, Option.isSome_iff_exists.mp h508, h509⟩
  have O_rw := ok_ref_words S_RefColumn_words U T CF (⟨hany, h510, h511, h512, h513, by decide +kernel⟩ : SupM K c34 c34 "words" f466) C_words
  have C_rw := cal0 O_rw (bindsup1 fun _ => rfl) rfl
  have MW : ∀ k, GMt P wo K mg base 2 (kcls A k) "words" 0 [] (fun vs _ H Q E => ∃ G R x c, vs = [.ref x] ∧ Wd G R H ∧ ColAt A G x c ∧ c.k = k ∧ ∀ p H', G p = none → Wd (upd G p (.lst (c.words.map V.str))) R H' → Q (.ref p) H') := fun k => by
    cases k with
    | ref => exact ⟨CF.cls .ref, f482, ⟨h483, h484, h509⟩, C_rw⟩
    | int => exact ⟨CF.cls .int, f466, ⟨h467, h481, h480⟩, (C_words.mono (by decide)).imp fun _ _ _ _ _ h => by
        obtain ⟨G, R, x, c, e, w, hc, ck, q⟩ := h
        exact ⟨G, R, x, c, e, w, hc, by rw [words_not (by rw [ck]; exact fun z => nomatch z)] at q; exact q⟩⟩
    | text => exact ⟨CF.cls .text, f466, ⟨h468, h481, h480⟩, (C_words.mono (by decide)).imp fun _ _ _ _ _ h => by
        obtain ⟨G, R, x, c, e, w, hc, ck, q⟩ := h
        exact ⟨G, R, x, c, e, w, hc, by rw [words_not (by rw [ck]; exact fun z => nomatch z)] at q; exact q⟩⟩
  have F_t := fun_mk (st := s_Column_text) h532 h533 h534
  have O_t := ok_text F_t T MW
  have GT : ∀ k, GPr P wo K mg base 3 (kcls A k) "text" (fun vs _ => spText A vs) := fun k => ⟨CF.cls k, p514, g515, ⟨(match k with | .int => h516 | .text => h517 | .ref => h518), h519, h520, ⟨_, h522⟩⟩, cal0 O_t (F_t.binds (ps := ["self"]) fun _ _ _ _ _ _ us hl => match us, hl with | [_], _ => rfl) rfl⟩
  have F_parsed_column := fun_mk (st := s_parsed_column) h546 h547 h548
  have O_parsed_column := ok_parsed F_parsed_column T CF EF MR MI MT
  have Gpc : GFn P wo K mg base _ "parsed_column" _ _ _ := ⟨f535, PySem.W.mg_of X G h536, h548, cal0 O_parsed_column (F_parsed_column.binds (ps := ["words"]) fun _ _ _ _ _ _ us hl => match us, hl with | [_], _ => rfl) rfl⟩
  have F_p := fun_mk (st := s_Column_parse) h565 h566 h567
  have O_p := ok_parse F_p T CF Gpc GT X_InvalidText
  have Gpar : GSt P wo K mg base 7 "Column" "parse" 1 [] (fun vs _ => spParse K A vs) := ⟨c28, _, p549, g550, PySem.W.mg_of X G h29, ⟨h554, h555⟩, ⟨h551, ⟨_, h553⟩, h567⟩, cal0 O_p (F_p.binds (ps := ["text"]) fun _ _ _ _ _ _ us hl => match us, hl with | [_], _ => rfl) rfl⟩
  have F_kind := fun_mk (st := s_Column_kind) h586 h587 h588
  have O_kind := ok_kind (P := P) (wo := wo) (base := base) (mg := mg) F_kind CF
  have GK : ∀ k, GPr P wo K mg base 1 (kcls A k) "kind" (fun vs _ => spKind A vs) := fun k => ⟨CF.cls k, p568, g569, ⟨(match k with | .int => h570 | .text => h571 | .ref => h572), h573, h574, ⟨_, h576⟩⟩, cal0 O_kind (F_kind.binds (ps := ["self"]) fun _ _ _ _ _ _ us hl => match us, hl with | [_], _ => rfl) rfl⟩
  have F_is_group := fun_mk (st := s_is_group) h600 h601 h602
  have O_is_group := ok_is_group F_is_group T CF GK
  have Gig : GFn P wo K mg base _ "is_group" _ _ _ := ⟨f589, PySem.W.mg_of X G h590, h602, cal0 O_is_group (F_is_group.binds (ps := ["by_name", "value"]) fun _ _ _ _ _ _ us hl => match us, hl with | [_, _], _ => rfl) rfl⟩
  have TF : TabF K A := ⟨⟨h603, h604, h605, h606⟩, h609, h610, h611, ⟨h612, h613, h614, h615⟩, h618⟩
  have V_Table := mk_tabV (P := P) (wo := wo) (base := base) h631 h632 T CF TF Gn Gig X_InvalidName X_InvalidColumn X_InvalidGroup
  have MTb : GMkV P wo K mg base 4 "Table" A.Table 1 ["unique"] (spTabV K A) := ⟨PySem.W.mg_of X G h37, f619, ⟨h607, h620, h621, h608⟩, V_Table⟩
  have F_cols := fun_mk (st := s_Table_columns) h650 h651 h652
  have O_cols := ok_cols (P := P) (wo := wo) (base := base) F_cols T TF
  have GC : GPr P wo K mg base 1 A.Table "columns" (fun vs _ => spCols K A vs) := ⟨TF.cT, p634, g635, ⟨h636, h637, h638, ⟨_, h640⟩⟩, cal0 O_cols (F_cols.binds (ps := ["self"]) fun _ _ _ _ _ _ us hl => match us, hl with | [_], _ => rfl) rfl⟩
  have F_li := fun_mk (st := s_Table_lines) h665 h666 h667
  have O_li := ok_lines F_li T TF GT GC
  have ML : GMt P wo K mg base 5 A.Table "lines" 0 [] (fun vs _ => spLines K A vs) := ⟨TF.cT, f653, ⟨h654, h655, h667⟩, cal0 O_li (F_li.binds (ps := ["self"]) fun _ _ _ _ _ _ us hl => match us, hl with | [_], _ => rfl) rfl⟩
  have V_Schema := mk_schV (P := P) (wo := wo) (base := base) h680 h681 T CF TF GK GC X_InvalidName X_UnknownTable
  have MSc : GMkV P wo K mg base 3 "Schema" A.Schema 0 [] (spSchV K A) := ⟨PySem.W.mg_of X G h39, f668, ⟨h616, h669, h670, h617⟩, V_Schema⟩
  have F_tabs := fun_mk (st := s_Schema_tables) h699 h700 h701
  have O_tabs := ok_tables (P := P) (wo := wo) (base := base) F_tabs T TF
  have GS : GPr P wo K mg base 1 A.Schema "tables" (fun vs _ => spTables K A vs) := ⟨TF.cS, p683, g684, ⟨h685, h686, h687, ⟨_, h689⟩⟩, cal0 O_tabs (F_tabs.binds (ps := ["self"]) fun _ _ _ _ _ _ us hl => match us, hl with | [_], _ => rfl) rfl⟩
  have F_stx := fun_mk (st := s_Schema_text) h718 h719 h720
  have O_stx := ok_stext F_stx T TF GS ML
  have GTs : GPr P wo K mg base 6 A.Schema "text" (fun vs _ => spSText K A vs) := ⟨TF.cS, p702, g703, ⟨h704, h705, h706, ⟨_, h708⟩⟩, cal0 O_stx (F_stx.binds (ps := ["self"]) fun _ _ _ _ _ _ us hl => match us, hl with | [_], _ => rfl) rfl⟩
  have F_took_column := fun_mk (st := s_took_column) h732 h733 h734
  have O_took_column := ok_took_col F_took_column T ET Gpar
  have Gtc : GFn P wo K mg base _ "took_column" _ _ _ := ⟨f721, PySem.W.mg_of X G h722, h734, cal0 O_took_column (F_took_column.binds (ps := ["columns", "line"]) fun _ _ _ _ _ _ us hl => match us, hl with | [_, _], _ => rfl) rfl⟩
  have F_took_line := fun_mk (st := s_took_line) h746 h747 h748
  have O_took_line := ok_took_line F_took_line T Gn Gtc
  have Gtl : GFn P wo K mg base _ "took_line" _ _ _ := ⟨f735, PySem.W.mg_of X G h736, h748, cal0 O_took_line (F_took_line.binds (ps := ["parts", "line"]) fun _ _ _ _ _ _ us hl => match us, hl with | [_, _], _ => rfl) rfl⟩
  have F_sp := fun_mk (st := s_Schema_parse) h765 h766 h767
  have O_sp := ok_schparse F_sp T X_InvalidText Gtl MTb MSc
  have Gspa : GSt P wo K mg base 10 "Schema" "parse" 1 [] (fun vs _ => spSchParse K A vs) := ⟨c38, _, p749, g750, PySem.W.mg_of X G h39, ⟨h754, h755⟩, ⟨h751, ⟨_, h753⟩, h767⟩, cal0 O_sp (F_sp.binds (ps := ["text"]) fun _ _ _ _ _ _ us hl => match us, hl with | [_], _ => rfl) rfl⟩
  have F__law_begun := fun_mk (st := s__law_begun) h779 h780 h781
  have O__law_begun := ok_begun (P := P) (wo := wo) (base := base) F__law_begun T
  have Gb : GFn P wo K mg base _ "_law_begun" _ _ _ := ⟨f768, PySem.W.mg_of X G h769, h781, cal0 O__law_begun (F__law_begun.binds (ps := ["_law_script"]) fun _ _ _ _ _ _ us hl => match us, hl with | [_], _ => rfl) rfl⟩
  have F__law_draw := fun_mk (st := s__law_draw) h793 h794 h795
  have O__law_draw := ok_draw (P := P) (wo := wo) (base := base) F__law_draw T
  have Gd : GFn P wo K mg base _ "_law_draw" _ _ _ := ⟨f782, PySem.W.mg_of X G h783, h795, cal0 O__law_draw (F__law_draw.binds (ps := ["_law_state", "_law_bound"]) fun _ _ _ _ _ _ us hl => match us, hl with | [_, _], _ => rfl) rfl⟩
  have F__law_pick := fun_mk (st := s__law_pick) h807 h808 h809
  have O__law_pick := ok_pick F__law_pick T Gd
  have Gp : GFn P wo K mg base _ "_law_pick" _ _ _ := ⟨f796, PySem.W.mg_of X G h797, h809, cal0 O__law_pick (F__law_pick.binds (ps := ["_law_state", "_law_some"]) fun _ _ _ _ _ _ us hl => match us, hl with | [_, _], _ => rfl) rfl⟩
  have F__law_mixed := fun_mk (st := s__law_mixed) h821 h822 h823
  have O__law_mixed := ok_mixed F__law_mixed T Gd
  have Gm : GFn P wo K mg base _ "_law_mixed" _ _ _ := ⟨f810, PySem.W.mg_of X G h811, h823, cal0 O__law_mixed (F__law_mixed.binds (ps := ["_law_state", "_law_some"]) fun _ _ _ _ _ _ us hl => match us, hl with | [_, _], _ => rfl) rfl⟩
  have F__law_names := fun_mk (st := s__law_names) h835 h836 h837
  have O__law_names := ok_names F__law_names T Gd Gp
  have Gns : GFn P wo K mg base _ "_law_names" _ _ _ := ⟨f824, PySem.W.mg_of X G h825, h837, cal0 O__law_names (F__law_names.binds (ps := ["_law_state", "_law_count"]) fun _ _ _ _ _ _ us hl => match us, hl with | [_, _], _ => rfl) rfl⟩
  have F__law_column := fun_mk (st := s__law_column) h849 h850 h851
  have O__law_column := ok_column F__law_column T Gd Gp
  have Glc : GFn P wo K mg base _ "_law_column" _ _ _ := ⟨f838, PySem.W.mg_of X G h839, h851, cal0 O__law_column (F__law_column.binds (ps := ["_law_state", "_law_tables", "_law_name"]) fun _ _ _ _ _ _ us hl => match us, hl with | [_, _, _], _ => rfl) rfl⟩
  have F__law_groups := fun_mk (st := s__law_groups) h863 h864 h865
  have O__law_groups := ok_lgroups F__law_groups T Gd Gm
  have Glg : GFn P wo K mg base _ "_law_groups" _ _ _ := ⟨f852, PySem.W.mg_of X G h853, h865, cal0 O__law_groups (F__law_groups.binds (ps := ["_law_state", "_law_columns"]) fun _ _ _ _ _ _ us hl => match us, hl with | [_, _], _ => rfl) rfl⟩
  have F__law_spec := fun_mk (st := s__law_spec) h877 h878 h879
  have O__law_spec := ok_lspec F__law_spec T Gd Gns Glc Glg
  have Gls : GFn P wo K mg base _ "_law_spec" _ _ _ := ⟨f866, PySem.W.mg_of X G h867, h879, cal0 O__law_spec (F__law_spec.binds (ps := ["_law_state", "_law_most"]) fun _ _ _ _ _ _ us hl => match us, hl with | [_, _], _ => rfl) rfl⟩
  have F__law_column_text := fun_mk (st := s__law_column_text) h891 h892 h893
  have O__law_column_text := ok_column_text (P := P) (wo := wo) (base := base) F__law_column_text T
  have Glct : GFn P wo K mg base _ "_law_column_text" _ _ _ := ⟨f880, PySem.W.mg_of X G h881, h893, cal0 O__law_column_text (F__law_column_text.binds (ps := ["_law_column_here"]) fun _ _ _ _ _ _ us hl => match us, hl with | [_], _ => rfl) rfl⟩
  have F__law_schema_text := fun_mk (st := s__law_schema_text) h905 h906 h907
  have O__law_schema_text := ok_lscht F__law_schema_text T Glct
  have Glst : GFn P wo K mg base _ "_law_schema_text" _ _ _ := ⟨f894, PySem.W.mg_of X G h895, h907, cal0 O__law_schema_text (F__law_schema_text.binds (ps := ["_law_spec_here"]) fun _ _ _ _ _ _ us hl => match us, hl with | [_], _ => rfl) rfl⟩
  have F__law_is_name := fun_mk (st := s__law_is_name) h919 h920 h921
  have O__law_is_name := ok_lname (P := P) (wo := wo) (base := base) F__law_is_name T
  have Gln : GFn P wo K mg base _ "_law_is_name" _ _ _ := ⟨f908, PySem.W.mg_of X G h909, h921, cal0 O__law_is_name (F__law_is_name.binds (ps := ["_law_word"]) fun _ _ _ _ _ _ us hl => match us, hl with | [_], _ => rfl) rfl⟩
  have F__law_column_of := fun_mk (st := s__law_column_of) h933 h934 h935
  have O__law_column_of := ok_column_of F__law_column_of T Gln
  have Glco : GFn P wo K mg base _ "_law_column_of" _ _ _ := ⟨f922, PySem.W.mg_of X G h923, h935, cal0 O__law_column_of (F__law_column_of.binds (ps := ["_law_words"]) fun _ _ _ _ _ _ us hl => match us, hl with | [_], _ => rfl) rfl⟩
  have F__law_parts := fun_mk (st := s__law_parts) h947 h948 h949
  have O__law_parts := ok_lparts F__law_parts T Gln Glco
  have Glp : GFn P wo K mg base _ "_law_parts" _ _ _ := ⟨f936, PySem.W.mg_of X G h937, h949, cal0 O__law_parts (F__law_parts.binds (ps := ["_law_text"]) fun _ _ _ _ _ _ us hl => match us, hl with | [_], _ => rfl) rfl⟩
  have F__law_table_wrong := fun_mk (st := s__law_table_wrong) h961 h962 h963
  have O__law_table_wrong := ok_ltw (P := P) (wo := wo) (base := base) F__law_table_wrong T
  have Gltw : GFn P wo K mg base _ "_law_table_wrong" _ _ _ := ⟨f950, PySem.W.mg_of X G h951, h963, cal0 O__law_table_wrong (F__law_table_wrong.binds (ps := ["_law_columns", "_law_groups_here"]) fun _ _ _ _ _ _ us hl => match us, hl with | [_, _], _ => rfl) rfl⟩
  have F__law_due := fun_mk (st := s__law_due) h975 h976 h977
  have O__law_due := ok_ldue F__law_due T KI Glp Gltw
  have Gldu : GFn P wo K mg base _ "_law_due" _ _ _ := ⟨f964, PySem.W.mg_of X G h965, h977, cal0 O__law_due (F__law_due.binds (ps := ["_law_text"]) fun _ _ _ _ _ _ us hl => match us, hl with | [_], _ => rfl) rfl⟩
  have F__law_too_large := fun_mk (st := s__law_too_large) h989 h990 h991
  have O__law_too_large := ok_tool (P := P) (wo := wo) (base := base) F__law_too_large T
  have Gltla : GFn P wo K mg base _ "_law_too_large" _ _ _ := ⟨f978, PySem.W.mg_of X G h979, h991, cal0 O__law_too_large (F__law_too_large.binds (ps := ["_law_text"]) fun _ _ _ _ _ _ us hl => match us, hl with | [_], _ => rfl) rfl⟩
  have F__law_spoilt := fun_mk (st := s__law_spoilt) h1003 h1004 h1005
  have O__law_spoilt := ok_spoil F__law_spoilt T Gd Gp
  have Gsp : GFn P wo K mg base _ "_law_spoilt" _ _ _ := ⟨f992, PySem.W.mg_of X G h993, h1005, cal0 O__law_spoilt (F__law_spoilt.binds (ps := ["_law_state", "_law_text"]) fun _ _ _ _ _ _ us hl => match us, hl with | [_, _], _ => rfl) rfl⟩
  have F__law_read := fun_mk (st := s__law_read) h1017 h1018 h1019
  have O__law_read := ok_lread F__law_read T RF Gspa GTs
  have Glr : GFn P wo K mg base _ "_law_read" _ _ _ := ⟨f1006, PySem.W.mg_of X G h1007, h1019, cal0 O__law_read (F__law_read.binds (ps := ["_law_value"]) fun _ _ _ _ _ _ us hl => match us, hl with | [_], _ => rfl) rfl⟩
  have F_law := fun_mk (st := s_law) h1031 h1032 h1033
  exact ok_law F_law T NF Gb Gd Gp Gls Glst Gsp Gltla Gldu Glr

theorem walk {l : PySem.W.OpenLaw} {q : Program} {loose : List Str} {XP : (Str → Option Value) → Heap → Prop} {YP : World → Heap → Prop} {d : DefRec} {K : Params → PySem.W.Frag} (hn : l.most = some 63) (hdf : d.params.defaults = [])
    (hY : ∀ (w : World) (h : Heap), YP w h → (K w.params).In h)
    (F : ∀ (w : World) (mg : Str → Option Value) (fa : Addr) (h : Heap), (K w.params).In h → h.Ns mainGlobals mg → mg d.name = some (.ref fa) →
      ∃ fd : FuncData, (∀ (s : Shared) (u : Value), BindsTo s fd ⟨[u], []⟩ [("_law_script", u)]) ∧ ∀ base : Heap, (K w.params).In base → base.Ns mainGlobals mg → FnOk l.prog w (K w.params) mg base (L2.CX l.prog w) 12 fa fd ["_law_script"] (spLaw (K w.params))) :
    PySem.W.WalkO q loose XP YP l.row.toRowW d [] (fun f vs => PySem.call f vs) :=
  L2.walk_of (n := 63) (k := 12) (x := "_law_script") (CX := fun w => L2.CX l.prog w) (sp := fun w => spLaw (K w.params)) hn (by rw [sizeLine_eq]; decide) hdf ⟨rfl, by decide, by decide⟩ hY F (fun _ _ a ns hl _ hS => ⟨a, ns, rfl, hS, fun _ => rfl⟩) fun _ _ _ _ _ ⟨_, _, _, _, _, _, _, _, _, _, _, _, z⟩ => z
end Sv

open PySem PySem.W PyProof.Rows in
set_option maxRecDepth 100000 in
set_option maxHeartbeats 0 in
theorem PySem.Challenge.cw_savewise_k06_schema_texts_spoilt_holds : PySem.Challenge.rw_savewise_k06_schema_texts_spoilt.Holds := by
  w_on; o_law; k_head; (case hw => w_witness2)
  k_fill
  refine Sv.walk (l := PySem.Challenge.rw_savewise_k06_schema_texts_spoilt) rfl rfl (fun w h Y => PySem.W.kIn_of Y) ?F
  case F =>
    intro w mg fa h KX G hmg
    refine' Sv.all_mk KX G hmg (by decide +kernel) (by decide +kernel) ?h1 ?h2 ?h3 ?h4 ?h5 ?h6 ?h7 ?h8 ?h9 ?h10 ?h11 ?h12 ?h13 ?h14 ?h15 ?h17 ?h19 ?h21 ?h23 ?h25 ?h27 ?h29 ?h31 ?h33 ?h35 ?h37 ?h39 ?h41 ?h43 ?h45 ?h47 ?h56 ?h58 ?h65 ?h66 ?h67 ?h68 ?h69 ?h70 ?h71 ?h72 ?h73 ?h75 ?h76 ?h77 ?h78 ?h79 ?h80 ?h81 ?h82 ?h83 ?h84 ?h86 ?h87 ?h88 ?h89 ?h90 ?h91 ?h92 ?h93 ?h94 ?h95 ?h97 ?h98 ?h99 ?h100 ?h116 ?h117 ?h118 ?h119 ?h120 ?h121 ?h123 ?h124 ?h135 ?h136 ?h142 ?h143 ?h147 ?h148 ?h149 ?h150 ?h151 ?h152 ?h153 ?h154 ?h170 ?h171 ?h172 ?h173 ?h174 ?h175 ?h177 ?h178 ?h189 ?h190 ?h196 ?h197 ?h201 ?h202 ?h203 ?h204 ?h205 ?h206 ?h207 ?h208 ?h224 ?h225 ?h226 ?h227 ?h228 ?h229 ?h231 ?h232 ?h243 ?h244 ?h250 ?h251 ?h255 ?h256 ?h257 ?h258 ?h259 ?h260 ?h261 ?h262 ?h278 ?h279 ?h280 ?h281 ?h282 ?h283 ?h285 ?h286 ?h297 ?h298 ?h304 ?h305 ?h309 ?h310 ?h311 ?h312 ?h313 ?h314 ?h315 ?h316 ?h332 ?h333 ?h334 ?h335 ?h336 ?h337 ?h339 ?h340 ?h351 ?h352 ?h358 ?h359 ?h363 ?h364 ?h365 ?h366 ?h367 ?h368 ?h369 ?h370 ?h371 ?h372 ?h373 ?h374 ?h375 ?h376 ?h377 ?h378 ?h379 ?h380 ?h381 ?h382 ?h383 ?h384 ?h385 ?h386 ?h387 ?h388 ?h389 ?h390 ?h391 ?h392 ?h393 ?h394 ?h395 ?h396 ?h397 ?h398 ?h399 ?h400 ?h401 ?h403 ?h413 ?h414 ?h415 ?h418 ?h419 ?h429 ?h430 ?h431 ?h432 ?h433 ?h435 ?h436 ?h447 ?h448 ?h454 ?h455 ?h459 ?h460 ?h461 ?h462 ?h463 ?h464 ?h465 ?h467 ?h468 ?h478 ?h479 ?h480 ?h481 ?h483 ?h484 ?h495 ?h496 ?h502 ?h503 ?h507 ?h508 ?h509 ?h510 ?h511 ?h512 ?h513 ?h516 ?h517 ?h518 ?h519 ?h520 ?h522 ?h532 ?h533 ?h534 ?h536 ?h546 ?h547 ?h548 ?h551 ?h553 ?h554 ?h555 ?h565 ?h566 ?h567 ?h570 ?h571 ?h572 ?h573 ?h574 ?h576 ?h586 ?h587 ?h588 ?h590 ?h600 ?h601 ?h602 ?h603 ?h604 ?h605 ?h606 ?h607 ?h608 ?h609 ?h610 ?h611 ?h612 ?h613 ?h614 ?h615 ?h616 ?h617 ?h618 ?h620 ?h621 ?h631 ?h632 ?h633 ?h636 ?h637 ?h638 ?h640 ?h650 ?h651 ?h652 ?h654 ?h655 ?h665 ?h666 ?h667 ?h669 ?h670 ?h680 ?h681 ?h682 ?h685 ?h686 ?h687 ?h689 ?h699 ?h700 ?h701 ?h704 ?h705 ?h706 ?h708 ?h718 ?h719 ?h720 ?h722 ?h732 ?h733 ?h734 ?h736 ?h746 ?h747 ?h748 ?h751 ?h753 ?h754 ?h755 ?h765 ?h766 ?h767 ?h769 ?h779 ?h780 ?h781 ?h783 ?h793 ?h794 ?h795 ?h797 ?h807 ?h808 ?h809 ?h811 ?h821 ?h822 ?h823 ?h825 ?h835 ?h836 ?h837 ?h839 ?h849 ?h850 ?h851 ?h853 ?h863 ?h864 ?h865 ?h867 ?h877 ?h878 ?h879 ?h881 ?h891 ?h892 ?h893 ?h895 ?h905 ?h906 ?h907 ?h909 ?h919 ?h920 ?h921 ?h923 ?h933 ?h934 ?h935 ?h937 ?h947 ?h948 ?h949 ?h951 ?h961 ?h962 ?h963 ?h965 ?h975 ?h976 ?h977 ?h979 ?h989 ?h990 ?h991 ?h993 ?h1003 ?h1004 ?h1005 ?h1007 ?h1017 ?h1018 ?h1019 ?h1021 ?h1031 ?h1032 ?h1033
    (case h1 => k_is)
    (case h2 => k_is)
    (case h3 => k_is)
    (case h4 => k_is)
    (case h5 => k_is)
    (case h6 => k_is)
    (case h7 => k_is)
    (case h8 => k_is)
    (case h9 => k_is)
    (case h10 => k_is)
    (case h11 => k_is)
    (case h12 => k_is)
    (case h13 => k_is)
    (case h14 => k_is)
    (case h15 => k_is)
    (case h17 => k_is)
    (case h19 => k_is)
    (case h21 => k_is)
    (case h23 => k_is)
    (case h25 => k_is)
    (case h27 => k_is)
    (case h29 => k_is)
    (case h31 => k_is)
    (case h33 => k_is)
    (case h35 => k_is)
    (case h37 => k_is)
    (case h39 => k_is)
    (case h41 => k_is)
    (case h43 => k_is)
    (case h45 => k_is)
    (case h47 => k_is)
    (case h56 => k_is)
    (case h58 => k_is)
    (case h65 => k_is)
    (case h66 => k_is)
    (case h67 => k_is)
    (case h68 => k_is)
    (case h69 => k_is)
    (case h70 => k_is)
    (case h71 => k_is)
    (case h72 => k_is)
    (case h73 => k_is)
    (case h75 => k_is)
    (case h76 => k_is)
    (case h77 => k_is)
    (case h78 => k_is)
    (case h79 => k_is)
    (case h80 => k_is)
    (case h81 => k_is)
    (case h82 => k_is)
    (case h83 => k_is)
    (case h84 => k_is)
    (case h86 => k_is)
    (case h87 => k_is)
    (case h88 => k_is)
    (case h89 => k_is)
    (case h90 => k_is)
    (case h91 => k_is)
    (case h92 => k_is)
    (case h93 => k_is)
    (case h94 => k_is)
    (case h95 => k_is)
    (case h97 => k_is)
    (case h98 => k_is)
    (case h99 => k_is)
    (case h100 => k_is)
    (case h116 => k_is)
    (case h117 => decide +kernel)
    (case h118 => k_is)
    (case h119 => k_is)
    (case h120 => k_is)
    (case h121 => k_is)
    (case h123 => k_is)
    (case h124 => k_is)
    (case h135 => k_is)
    (case h136 => k_is)
    (case h142 => k_is)
    (case h143 => rfl)
    (case h147 => k_is)
    (case h148 => k_is)
    (case h149 => k_is)
    (case h150 => ks_is)
    (case h151 => k_is)
    (case h152 => k_is)
    (case h153 => k_is)
    (case h154 => k_is)
    (case h170 => k_is)
    (case h171 => decide +kernel)
    (case h172 => k_is)
    (case h173 => k_is)
    (case h174 => k_is)
    (case h175 => k_is)
    (case h177 => k_is)
    (case h178 => k_is)
    (case h189 => k_is)
    (case h190 => k_is)
    (case h196 => k_is)
    (case h197 => rfl)
    (case h201 => k_is)
    (case h202 => k_is)
    (case h203 => k_is)
    (case h204 => ks_is)
    (case h205 => k_is)
    (case h206 => k_is)
    (case h207 => k_is)
    (case h208 => k_is)
    (case h224 => k_is)
    (case h225 => decide +kernel)
    (case h226 => k_is)
    (case h227 => k_is)
    (case h228 => k_is)
    (case h229 => k_is)
    (case h231 => k_is)
    (case h232 => k_is)
    (case h243 => k_is)
    (case h244 => k_is)
    (case h250 => k_is)
    (case h251 => rfl)
    (case h255 => k_is)
    (case h256 => k_is)
    (case h257 => k_is)
    (case h258 => ks_is)
    (case h259 => k_is)
    (case h260 => k_is)
    (case h261 => k_is)
    (case h262 => k_is)
    (case h278 => k_is)
    (case h279 => decide +kernel)
    (case h280 => k_is)
    (case h281 => k_is)
    (case h282 => k_is)
    (case h283 => k_is)
    (case h285 => k_is)
    (case h286 => k_is)
    (case h297 => k_is)
    (case h298 => k_is)
    (case h304 => k_is)
    (case h305 => rfl)
    (case h309 => k_is)
    (case h310 => k_is)
    (case h311 => k_is)
    (case h312 => ks_is)
    (case h313 => k_is)
    (case h314 => k_is)
    (case h315 => k_is)
    (case h316 => k_is)
    (case h332 => k_is)
    (case h333 => decide +kernel)
    (case h334 => k_is)
    (case h335 => k_is)
    (case h336 => k_is)
    (case h337 => k_is)
    (case h339 => k_is)
    (case h340 => k_is)
    (case h351 => k_is)
    (case h352 => k_is)
    (case h358 => k_is)
    (case h359 => rfl)
    (case h363 => k_is)
    (case h364 => k_is)
    (case h365 => k_is)
    (case h366 => ks_is)
    (case h367 => k_is)
    (case h368 => k_is)
    (case h369 => k_is)
    (case h370 => k_is)
    (case h371 => k_is)
    (case h372 => k_is)
    (case h373 => k_is)
    (case h374 => k_is)
    (case h375 => k_is)
    (case h376 => k_is)
    (case h377 => k_is)
    (case h378 => k_is)
    (case h379 => k_is)
    (case h380 => k_is)
    (case h381 => k_is)
    (case h382 => k_is)
    (case h383 => k_is)
    (case h384 => k_is)
    (case h385 => k_is)
    (case h386 => k_is)
    (case h387 => k_is)
    (case h388 => k_is)
    (case h389 => k_is)
    (case h390 => k_is)
    (case h391 => k_is)
    (case h392 => k_is)
    (case h393 => k_is)
    (case h394 => k_is)
    (case h395 => k_is)
    (case h396 => k_is)
    (case h397 => k_is)
    (case h398 => k_is)
    (case h399 => k_is)
    (case h400 => k_is)
    (case h401 => kernel_rfl)
    (case h403 => k_is)
    (case h413 => k_is)
    (case h414 => k_is)
    (case h415 => k_is)
    (case h418 => k_is)
    (case h419 => k_is)
    (case h429 => k_is)
    (case h430 => k_is)
    (case h431 => k_is)
    (case h432 => k_is)
    (case h433 => k_is)
    (case h435 => k_is)
    (case h436 => k_is)
    (case h447 => k_is)
    (case h448 => k_is)
    (case h454 => k_is)
    (case h455 => rfl)
    (case h459 => k_is)
    (case h460 => k_is)
    (case h461 => k_is)
    (case h462 => ks_is)
    (case h463 => k_is)
    (case h464 => k_is)
    (case h465 => k_is)
    (case h467 => k_is)
    (case h468 => k_is)
    (case h478 => k_is)
    (case h479 => k_is)
    (case h480 => k_is)
    (case h481 => k_is)
    (case h483 => k_is)
    (case h484 => k_is)
    (case h495 => k_is)
    (case h496 => k_is)
    (case h502 => k_is)
    (case h503 => rfl)
    (case h507 => k_is)
    (case h508 => k_is)
    (case h509 => k_is)
    (case h510 => ks_is)
    (case h511 => k_is)
    (case h512 => k_is)
    (case h513 => k_is)
    (case h516 => k_is)
    (case h517 => k_is)
    (case h518 => k_is)
    (case h519 => k_is)
    (case h520 => k_is)
    (case h522 => k_is)
    (case h532 => k_is)
    (case h533 => k_is)
    (case h534 => k_is)
    (case h536 => k_is)
    (case h546 => k_is)
    (case h547 => k_is)
    (case h548 => k_is)
    (case h551 => k_is)
    (case h553 => k_is)
    (case h554 => k_is)
    (case h555 => k_is)
    (case h565 => k_is)
    (case h566 => k_is)
    (case h567 => k_is)
    (case h570 => k_is)
    (case h571 => k_is)
    (case h572 => k_is)
    (case h573 => k_is)
    (case h574 => k_is)
    (case h576 => k_is)
    (case h586 => k_is)
    (case h587 => k_is)
    (case h588 => k_is)
    (case h590 => k_is)
    (case h600 => k_is)
    (case h601 => k_is)
    (case h602 => k_is)
    (case h603 => k_is)
    (case h604 => k_is)
    (case h605 => k_is)
    (case h606 => k_is)
    (case h607 => k_is)
    (case h608 => k_is)
    (case h609 => k_is)
    (case h610 => k_is)
    (case h611 => k_is)
    (case h612 => k_is)
    (case h613 => k_is)
    (case h614 => k_is)
    (case h615 => k_is)
    (case h616 => k_is)
    (case h617 => k_is)
    (case h618 => k_is)
    (case h620 => k_is)
    (case h621 => k_is)
    (case h631 => k_is)
    (case h632 => k_is)
    (case h633 => k_is)
    (case h636 => k_is)
    (case h637 => k_is)
    (case h638 => k_is)
    (case h640 => k_is)
    (case h650 => k_is)
    (case h651 => k_is)
    (case h652 => k_is)
    (case h654 => k_is)
    (case h655 => k_is)
    (case h665 => k_is)
    (case h666 => k_is)
    (case h667 => k_is)
    (case h669 => k_is)
    (case h670 => k_is)
    (case h680 => k_is)
    (case h681 => k_is)
    (case h682 => k_is)
    (case h685 => k_is)
    (case h686 => k_is)
    (case h687 => k_is)
    (case h689 => k_is)
    (case h699 => k_is)
    (case h700 => k_is)
    (case h701 => k_is)
    (case h704 => k_is)
    (case h705 => k_is)
    (case h706 => k_is)
    (case h708 => k_is)
    (case h718 => k_is)
    (case h719 => k_is)
    (case h720 => k_is)
    (case h722 => k_is)
    (case h732 => k_is)
    (case h733 => k_is)
    (case h734 => k_is)
    (case h736 => k_is)
    (case h746 => k_is)
    (case h747 => k_is)
    (case h748 => k_is)
    (case h751 => k_is)
    (case h753 => k_is)
    (case h754 => k_is)
    (case h755 => k_is)
    (case h765 => k_is)
    (case h766 => k_is)
    (case h767 => k_is)
    (case h769 => k_is)
    (case h779 => k_is)
    (case h780 => k_is)
    (case h781 => k_is)
    (case h783 => k_is)
    (case h793 => k_is)
    (case h794 => k_is)
    (case h795 => k_is)
    (case h797 => k_is)
    (case h807 => k_is)
    (case h808 => k_is)
    (case h809 => k_is)
    (case h811 => k_is)
    (case h821 => k_is)
    (case h822 => k_is)
    (case h823 => k_is)
    (case h825 => k_is)
    (case h835 => k_is)
    (case h836 => k_is)
    (case h837 => k_is)
    (case h839 => k_is)
    (case h849 => k_is)
    (case h850 => k_is)
    (case h851 => k_is)
    (case h853 => k_is)
    (case h863 => k_is)
    (case h864 => k_is)
    (case h865 => k_is)
    (case h867 => k_is)
    (case h877 => k_is)
    (case h878 => k_is)
    (case h879 => k_is)
    (case h881 => k_is)
    (case h891 => k_is)
    (case h892 => k_is)
    (case h893 => k_is)
    (case h895 => k_is)
    (case h905 => k_is)
    (case h906 => k_is)
    (case h907 => k_is)
    (case h909 => k_is)
    (case h919 => k_is)
    (case h920 => k_is)
    (case h921 => k_is)
    (case h923 => k_is)
    (case h933 => k_is)
    (case h934 => k_is)
    (case h935 => k_is)
    (case h937 => k_is)
    (case h947 => k_is)
    (case h948 => k_is)
    (case h949 => k_is)
    (case h951 => k_is)
    (case h961 => k_is)
    (case h962 => k_is)
    (case h963 => k_is)
    (case h965 => k_is)
    (case h975 => k_is)
    (case h976 => k_is)
    (case h977 => k_is)
    (case h979 => k_is)
    (case h989 => k_is)
    (case h990 => k_is)
    (case h991 => k_is)
    (case h993 => k_is)
    (case h1003 => k_is)
    (case h1004 => k_is)
    (case h1005 => k_is)
    (case h1007 => k_is)
    (case h1017 => k_is)
    (case h1018 => k_is)
    (case h1019 => k_is)
    (case h1021 => k_is)
    (case h1031 => k_is)
    (case h1032 => k_is)
    (case h1033 => k_is)
