import PyProof.Rows.All
import Wide.All
import OpenK.AllK
import Wide.FinOn
import KE.KExcSuper
import HandS.ForMost
import HandS.Exc
import HandS.ExcOwn
import HandS.ExcInit
import HandS.WordsExc
import HandS.ClsMeth
import HandS.Defaults
import HandS.Property
import HandS.MakeKwOnly
import HandS.TryOnly
import HandS.TryMany
import HandS.ExcIs
import HandS.IsInst
import HandS.Flow
import HandS.Style
import HandS.Steps
import HandS.StrMore
import HandS.TupAny
import HandS.Evl
import KE.KUnpackStar
import KE.KTryMore
import HandS.Star
import HandS.ExcField
import HandS.Ends
import KE.KDictList
import HandS.Iter
import HandS.Dict
import HandS.More
import HandS.Strs
import HandS.ExcValue
import HandS.FStr
import HandS.Comp
import KE.GoesRaise
import HandS.Lambda
import HandS.EndTab
import KE.KNest
import PySem.Challenge.RW_savewise_k01_columns_accept_values
import KE.RegKSuper
set_option Elab.async false
set_option linter.all false
set_option maxRecDepth 100000
set_option maxHeartbeats 4000000
/-! SwSup: defs with super() (a closure over the class), by wpAt; super().m(..); the __init__ of an own exception that says super().__init__(text). -/
namespace Sw
open PySem PySem.Spec PyProof.Rows L2

structure SScope (N P : List Str) (sc : Scope) : Prop where
  kind : sc.kind = .function
  co : sc.isCoroutine = false
  gen : sc.isGenerator = false
  nd : N.Nodup
  pre : N.take P.length = P
  par : ∀ x ∈ P, sc.names.lookup x = some .local
  nocell : ∀ y ∈ sc.names, y.2 ≠ .cell
  free : ∀ y ∈ sc.names, y.2 = .free → y.1 = "__class__"

def cxS (CX : CXT) (P : Program) (w : World) (K : PySem.W.Frag) (mg : Str → Option Value) (base : Heap) (N : List Str) (qual : Str) (scope : Scope) (f : Addr) (cd : Value) (cc : Addr) (A : Around) (outer : List Env) (s : Shared) (H : Hp) (E : XK) : Cx where
  prog := P
  w := w
  K := K
  mg := mg
  base := base
  A := A.deeper (PySem.W.ksEnv qual scope s.heap.objs.size f cd cc)
  N := N
  s_0 := s
  H_0 := H
  env := PySem.W.ksEnv qual scope s.heap.objs.size f cd cc
  outer := outer
  stack := PySem.W.ksEnv qual scope s.heap.objs.size f cd cc :: outer
  ex := []
  calm := true
  fn := fun _ => false
  pn := []
  xe := fun e s' => wpAny (model P w) (A.deeper (PySem.W.ksEnv qual scope s.heap.objs.size f cd cc)) (leaving (PySem.W.ksEnv qual scope s.heap.objs.size f cd cc) e) (fun _ s'' => CX outer H s E e s'') (fun e' s'' => CX outer H s E e' s'') s'

theorem zip_fst_sub : ∀ (ps : List Str) (us : List Value), ((ps.zip us).map (·.1)).Sublist ps
  | [], _ => by simp
  | _ :: _, [] => by simp
  | p :: ps, u :: us => by
    rw [List.zip_cons_cons, List.map_cons]
    exact (zip_fst_sub ps us).cons_cons p
theorem zip_rev_look : ∀ {ps : List Str} {us : List Value} {i : Nat} {x : Str} {u : Value}, ps.Nodup → ps[i]? = some x → us[i]? = some u → (ps.zip us).reverse.lookup x = some u := by
  intro ps us i x u nd hp hu
  have hmem : (x, u) ∈ (ps.zip us).reverse := by
    rw [List.mem_reverse]
    refine List.mem_iff_getElem?.mpr ⟨i, ?_⟩
    rw [List.getElem?_zip_eq_some]
    exact ⟨hp, hu⟩
  have key : ∀ (l : List (Str × Value)), (l.map (·.1)).Nodup → (x, u) ∈ l → l.lookup x = some u := by
    intro l
    induction l with
    | nil => intro _ h; cases h
    | cons p l ih =>
      intro hn hm
      obtain ⟨y, v⟩ := p
      rw [List.map_cons, List.nodup_cons] at hn
      rcases List.mem_cons.mp hm with e | hm
      · injection e with e1 e2
        subst e1 e2
        simp [List.lookup]
      · have hne : x ≠ y := fun e => hn.1 (by rw [← e]; exact List.mem_map_of_mem (f := (·.1)) hm)
        have hb : (x == y) = false := by simpa using hne
        rw [List.lookup, hb]
        exact ih hn.2 hm
  refine key _ ?_ hmem
  rw [List.map_reverse]
  refine List.pairwise_reverse.mpr (List.Pairwise.imp (fun h => Ne.symm h) ?_)
  exact nd.sublist (zip_fst_sub ps us)

section
variable {CX : CXT} {P : Program} {w : World} {K : PySem.W.Frag} {mg : Str → Option Value} {base : Heap} {N ps : List Str} {qual : Str} {scope : Scope} {f cc D : Addr} {cd : Value} {A : Around} {outer : List Env} {s : Shared} {H : Hp} {E : XK} {us : List Value} {vs : List V}
theorem inv_startS {h₁ : Heap} {tk : Nat} {cl : Value} {cld : Option Addr} {csl : Array (Option Value)} (S : SScope N ps scope) (hd : A.handled = none) (e0 : Env0 P w K mg base A outer s H) (hl : vs.length = ps.length) (r : Vals vs us)
    (hcc : K.lookup cc = some ⟨cl, cld, .cell (some (.ref D)), csl⟩) (hns : h₁.Ns s.heap.objs.size fun y => (ps.zip us).reverse.lookup y) (hk : ∀ b o, s.heap.get? b = some o → h₁.get? b = some o) :
    Inv (cxS CX P w K mg base N qual scope f cd cc A outer s H E) [] (L2.start N vs) H { s with heap := h₁, toks := tk } := by
  have hpl : ps.length ≤ N.length := by have := congrArg List.length S.pre; rw [List.length_take] at this; omega
  have noA : ∀ b : Addr, b ∉ (cxS CX P w K mg base N qual scope f cd cc A outer s H E).ex := fun b z => absurd (show b ∈ ([] : List Addr) from z) (by simp)
  have hbc : base.get? cc = some ⟨cl, cld, .cell (some (.ref D)), csl⟩ := e0.mod.kin _ _ hcc
  have look1 : ∀ {x : Str} {c : Addr}, (cxS CX P w K mg base N qual scope f cd cc A outer s H E).env.cells.lookup x = some c → x = "__class__" ∧ c = cc := fun {x c} h => by
    have h' : List.lookup x [(("__class__" : Str), cc)] = some c := h
    by_cases e : x = "__class__"
    · subst e
      simp [List.lookup] at h'
      exact ⟨rfl, h'.symm⟩
    · have eb : (x == ("__class__" : Str)) = false := by simpa using e
      simp [List.lookup, eb] at h'
  refine ⟨⟨e0.mod, S.kind, rfl, rfl, Nat.le_refl _, fun y z c h1 h2 => (look1 h1).1.trans (look1 h2).1.symm, fun y hy => ?_, fun y c h => (Bool.noConfusion h), fun _ => hd, Around.frames_deeper e0.frames, .inr ⟨rfl, rfl⟩, fun b z => absurd z (noA b), e0.bs, e0.bsz, fun b _ _ => noA b, fun b z => absurd z (noA b), e0.funs, e0.frf⟩,
    rfl, e0.bare, Un.kept hk, ⟨_, hns, fun i y v h1 h2 h3 => ?_⟩, fun y c h => ?_, e0.hok.fresh (Nat.le_refl _), fun y c h => ?_, fun p hp => absurd (show p ∈ ([] : List (Addr × Obj)) from hp) (by simp), e0.hok.kept hk, ?_⟩
  · have hy : scope.names.lookup y = some .cell ∨ scope.names.lookup y = some .free := hy
    rcases hy with hy | hy
    · exact absurd rfl (S.nocell _ (PySem.mem_of_lookup hy))
    · have e := S.free _ (PySem.mem_of_lookup hy) rfl
      have e' : y = "__class__" := e
      exact ⟨cc, by subst e'; show List.lookup _ [_] = _; simp [List.lookup]⟩
  · have hi : i < vs.length := by
      unfold L2.start at h2
      by_cases hi : i < vs.length
      · exact hi
      · rw [List.getElem?_append_right (by simpa using hi)] at h2
        rw [List.getElem?_replicate] at h2
        split at h2 <;> cases h2
    have ha : vs[i]? = some v := by
      unfold L2.start at h2
      rw [List.getElem?_append_left (by simpa using hi), List.getElem?_map] at h2
      cases e : vs[i]? with
      | none => rw [e] at h2; cases h2
      | some a => rw [e] at h2; cases h2; rfl
    obtain ⟨u, hu, rv⟩ := r.get ha
    have hp : ps[i]? = some y := by
      rw [← S.pre, List.getElem?_take_of_lt (by omega)]; exact h1
    have ndP : ps.Nodup := by rw [← S.pre]; exact S.nd.sublist (List.take_sublist _ _)
    exact ⟨u, rv, .inl ⟨S.par y (List.mem_of_getElem? hp), zip_rev_look ndP hp hu⟩⟩
  · obtain ⟨_, rfl⟩ := look1 h
    exact ⟨_, _, hk _ _ (e0.bs _ _ hbc).1, rfl⟩
  · obtain ⟨_, rfl⟩ := look1 h
    exact (e0.bs _ _ hbc).2
  · unfold L2.start
    show _ = N.length
    rw [List.length_append, List.length_map, List.length_replicate]
    omega
end

/-! ### the judgements at the body's own activation -/
structure PSt (X : Cx) (body : List Stmt) (st : Stmt) (t : TS) : Prop where
  run : ∀ (pins : List (Addr × Obj)) (s : Shared) (σ : L2.St) (H : Hp) (D : Ends), Inv X pins σ H s → t D σ H → _root_.PySem.wpAt (model X.prog X.w) X.A (.func body X.env) (exec st X.env) (SP X pins D) X.xe s
structure PSst (X : Cx) (body : List Stmt) (st : List Stmt) (t : TS) : Prop where
  run : ∀ (pins : List (Addr × Obj)) (s : Shared) (σ : L2.St) (H : Hp) (D : Ends), Inv X pins σ H s → t D σ H → _root_.PySem.wpAt (model X.prog X.w) X.A (.func body X.env) (execs st X.env) (SP X pins D) X.xe s
structure PEt (X : Cx) (body : List Stmt) (e : Expr) (t : TE) : Prop where
  run : ∀ (pins : List (Addr × Obj)) (s : Shared) (σ : L2.St) (H : Hp) (Q : VK), Inv X pins σ H s → t σ H Q → _root_.PySem.wpAt (model X.prog X.w) X.A (.func body X.env) (eval e X.env) (EP X pins σ Q) X.xe s
section
variable {X : Cx} {body : List Stmt} {st : Stmt} {rest : List Stmt} {t u : TS} {e : Expr} {te : TE} {pos : Pos}
theorem PSt.of (h : PS X st t) : PSt X body st t := ⟨fun pins s σ H D I hw => wpAt_of_wpAny (h.run pins s σ H D I hw)⟩
theorem PSst.of (h : PSs X rest t) : PSst X body rest t := ⟨fun pins s σ H D I hw => wpAt_of_wpAny (h.run pins s σ H D I hw)⟩
theorem PEt.of (h : PE X e te) : PEt X body e te := ⟨fun pins s σ H Q I hw => wpAt_of_wpAny (h.run pins s σ H Q I hw)⟩
theorem PSst.cons (h1 : PSt X body st t) (h2 : PSst X body rest u) : PSst X body (st :: rest) (tSeq t u) := by
  refine ⟨fun pins s σ H D I h => ?_⟩
  refine ks_wpAt_execs_cons (ks_wpAt_mono (h1.run pins s σ H { D with nx := u D } I h) (fun f s1 q => ?_) fun _ _ z => z)
  cases f with
  | next =>
    obtain ⟨σ', H', I', q⟩ := q
    exact h2.run pins s1 σ' H' D I' q
  | ret v => exact q
  | brk => exact q
  | cont => exact q
theorem PSst.one (h1 : PSt X body st t) : PSst X body [st] t := by
  refine ⟨fun pins s σ H D I h => ?_⟩
  refine ks_wpAt_execs_cons (ks_wpAt_mono (h1.run pins s σ H D I h) (fun f s1 q => ?_) fun _ _ z => z)
  cases f with
  | next => exact wpAt_of_wpAny (wpAny_execs_nil q)
  | ret v => exact q
  | brk => exact q
  | cont => exact q
theorem pst_expr (he : PEt X body e te) (hs : swapsWith e none pos.line X.env = pure false := by rfl) : PSt X body (.Expr e pos) (tDrop te) := by
  refine ⟨fun pins s σ H D I h => ?_⟩
  exact ks_wpAt_Expr_any (ks_wpAt_mono (he.run pins s σ H _ I h) (fun v s1 ⟨x, H1, I1, r1, q1⟩ => ⟨σ, H1, I1, q1⟩) fun _ _ z => z) I.quiet hs
theorem pst_ret (he : PEt X body e te) : PSt X body (.Return (some e) pos) (tRet te) := by
  refine ⟨fun pins s σ H D I h => ?_⟩
  exact ks_wpAt_Return_some (ks_wpAt_mono (he.run pins s σ H _ I h) (fun v s1 ⟨x, H1, I1, r1, q1⟩ => ⟨x, σ, H1, I1, r1, q1⟩) fun _ _ z => z)
end

/-! ### THE RULE for a def with super() -/
section
variable {CX : CXT} {P : Program} {w : World} {K : PySem.W.Frag} {mg : Str → Option Value} {base : Heap} {k : Nat} {f cc D : Addr} {name qual : Str} {params : Arguments} {body : List Stmt} {scope : Scope} {dV kV doc pm cdv ct oc cl : Value} {an od cld : Option Addr}
    {osl csl : Array (Option Value)} {N ps : List Str} {sp : Sp}
theorem fn_sup (lk : K.lookup f = some ⟨oc, od, .func (PySem.W.ksFn name qual params body scope dV kV doc pm an cdv ct cc), osl⟩) (hcd : PySem.W.codeIn K cdv qual = true) (hcc : K.lookup cc = some ⟨cl, cld, .cell (some (.ref D)), csl⟩) (S : SScope N ps scope)
    (len : ∀ vs H Q E, sp vs H Q E → vs.length = ps.length)
    (hbody : ∀ (A : Around) (outer : List Env) (s : Shared) (H : Hp) (vs : List V) (Q : VK) (E : XK), Room k (A.deeper (PySem.W.ksEnv qual scope s.heap.objs.size f cdv cc)) → sp vs H Q E →
      ∃ t, PSst (cxS CX P w K mg base N qual scope f cdv cc A outer s H E) body body t ∧ t { nx := fun _ H' => Q .non H', rt := Q } (L2.start N vs) H) :
    FnOk P w K mg base CX (k + 1) f (PySem.W.ksFn name qual params body scope dV kV doc pm an cdv ct cc) ps sp := by
  refine ⟨len, fun A outer s H args us vs Q E hr e0 hb r hsp => ?_⟩
  have hl := len _ _ _ _ hsp
  have KX : K.In s.heap := e0.mod.kin.keeps fun b o e => (e0.bs b o e).1
  have lim : s.heap.NoLimit := e0.mod.nolimit.keeps fun b o e => (e0.bs b o e).1
  refine ks_codeAny_call_defAt (fd := PySem.W.ksFn name qual params body scope dV kV doc pm an cdv ct cc) (body := body) (binds := ps.zip us) hr.depth (KX _ _ lk) rfl lim (PySem.W.codeRec_of KX hcd) rfl hb S.nocell
    (fun x hx => S.par _ (List.of_mem_zip hx).1) (fun h₁ hns hk => ?_) S.co S.gen S.kind
  obtain ⟨t, ht, hq⟩ := hbody A outer s H vs Q E (hr.deeper _) hsp
  have I : Inv (cxS CX P w K mg base N qual scope f cdv cc A outer s H E) [] (L2.start N vs) H { s with heap := h₁, toks := s.toks + (ps.zip us).length } := inv_startS S hr.hd e0 hl r hcc hns hk
  refine ks_wpAt_mono (ht.run [] _ (L2.start N vs) H _ I hq) (fun fl s' hs => ?_) fun e s' hs => hs
  have fin : ∀ {σ' : L2.St} {H' : Hp} {v : V} {u : Value}, Inv (cxS CX P w K mg base N qual scope f cdv cc A outer s H E) [] σ' H' s' → RelV v u → Q v H' → CE outer P w H s Q u s' :=
    fun {σ' H' v u} J rv q => ⟨v, H', J.os, J.bare, J.base, J.hok, rv, q⟩
  cases fl with
  | ret u =>
    obtain ⟨v, σ', H', J, rv, q⟩ := hs
    exact fin J rv q
  | next =>
    obtain ⟨σ', H', J, q⟩ := hs
    exact fin (v := V.non) (u := Value.none) J rfl q
  | brk =>
    obtain ⟨_, _, _, q⟩ := hs
    exact False.elim q
  | cont =>
    obtain ⟨_, _, _, q⟩ := hs
    exact False.elim q
end
end Sw

set_option Elab.async false
set_option linter.all false
set_option maxRecDepth 100000
set_option maxHeartbeats 4000000
namespace Sw
open PySem PySem.Spec PyProof.Rows L2

/-! ### super() -/
/-- what the written part and the text must say around a super() in the def at f, a method of the class D, called with an instance of C -/
structure SupT (X : Cx) (f cda cc D : Addr) : Prop where
  fu : X.env.func = some f
  co : X.env.code = .ref cda
  fd : ∃ oc od fd osl ar, X.K.lookup f = some ⟨oc, od, .func fd, osl⟩ ∧ (fd.params.posonlyargs ++ fd.params.args).head? = some ar ∧ X.N[0]? = some ar.arg ∧ X.env.scope.names.lookup ar.arg = some .local
  cd : ∃ ccl cdd vs ccs file tf, X.K.lookup cda = some ⟨ccl, cdd, .fields vs, ccs⟩ ∧ vs[2]? = some (.str file tf) ∧ ((X.prog.main.file : Str) == file) = true
  ce : ∃ cl cld csl, X.K.lookup cc = some ⟨cl, cld, .cell (some (.ref D)), csl⟩
  cz : X.env.cells.lookup ("__class__" : Str) = some cc
  dc : ∃ cdD, PySem.W.clsIn X.K D = some cdD
  su : X.mg "super" = none
  ks : X.env.scope.names.lookup ("super" : Str) = some .globalImplicit
  kc : X.env.scope.names.lookup ("__class__" : Str) = some .free
  tp : (X.prog.main.scope.names.lookup ("super" : Str)).isSome = false

section
variable {X : Cx} {pins : List (Addr × Obj)} {σ : L2.St} {H : Hp} {s : Shared} {a C D f cda cc : Addr} {ox : Obj} {odx : Option Obj} {body : List Stmt} {E : Value → Shared → Prop}
theorem super_base {p0 p1 : Pos} {attr : Str} {whole : Sem Value} {Q : Value → Shared → Prop} (T : SupT X f cda cc D) (I : Inv X pins σ H s) (h0 : σ[0]? = some (some (.ref a))) (J : PySem.W.InstAt s.heap a ox C odx)
    (hsub : PySem.W.mroIn X.K C (.ref D) = some true) (hat : (attr == ("__class__" : Str)) = false)
    (h : ∀ s', Inv X ((s.heap.objs.size, PySem.W.ks_superObj D a C) :: pins) σ H s' → (∀ b o, s.heap.get? b = some o → s'.heap.get? b = some o) → Q (.ref s.heap.objs.size) s') :
    _root_.PySem.wpAt (model X.prog X.w) X.A (.func body X.env) (attributeBase (.Call (.Name "super" p0) [] [] p1) attr X.env whole) Q E s := by
  obtain ⟨oc, od, fd, osl, ar, hf, hp, hN0, hka⟩ := T.fd
  obtain ⟨ccl, cdd, vs, ccs, file, tf, hcode, hvs, hfile⟩ := T.cd
  obtain ⟨cl, cld, csl, hcell⟩ := T.ce
  obtain ⟨cdD, hD⟩ := T.dc
  have KX : X.K.In s.heap := I.kIn
  have I0 := I
  obtain ⟨m, hn, hl⟩ := I.loc
  obtain ⟨u, ru, lk⟩ := hl 0 _ _ hN0 h0 (.inl hka)
  obtain rfl : u = Value.ref a := ru
  have hm : m ar.arg = some (.ref a) := by
    rcases lk with ⟨_, e⟩ | ⟨k, _⟩
    · exact e
    · have k' : X.env.scope.names.lookup ar.arg = some .cell ∨ X.env.scope.names.lookup ar.arg = some .free := k
      rw [hka] at k'
      rcases k' with k' | k' <;> cases k'
  obtain ⟨hh, g, d, t, os⟩ := s
  obtain ⟨oD, hD1, hD2⟩ : ∃ oD, hh.get? D = some oD ∧ oD.data = .cls cdD := by
    unfold PySem.W.clsIn at hD
    split at hD
    · rename_i c d cd' sl ho
      cases hD
      exact ⟨_, KX _ _ ho, rfl⟩
    · cases hD
  obtain ⟨mb, hb1, hb2⟩ := I.mod.blt
  refine ks_wpAt_super_base (env := X.env) (cc := cda) T.ks T.kc hat T.fu (KX _ _ hf) rfl hp T.co (KX _ _ hcode) rfl hvs hfile T.tp ?_
  refine PySem.W.ks_loadName_global I.ok.kind T.ks (Calls.loadGlobal_builtin (by rw [I.ok.glob]; exact I.mod.glob.keeps I.bk) T.su (by rw [I.ok.blt]; exact hb1.keeps I.bk) ((hb2 "super" (by decide +kernel)).trans (by first | boot_by_name | rfl | kernel_rfl)) ⟨rfl, ?_⟩)
  refine wpAny_loadName_free I.ok.kind T.kc T.cz ⟨_, KX _ _ hcell, rfl⟩ ?_
  refine wpAny_loadName_local I.ok.kind hka hn hm ?_
  refine ks_wpAny_isType_cls hD1 hD2 ⟨rfl, ?_⟩
  refine ks_wpAny_call_super hD1 hD2 J.at_ J.cls (fun c e => ?_) (PySem.W.looks_mroIn KX hsub) (fun h' e k => ?_)
  · have := J.no
    unfold PySem.W.notCls at this
    rw [e] at this
    exact Bool.noConfusion this
  · exact h _ (ClX.pin_new I0 k (Nat.le_refl _) e (fun v z => nomatch z)) k

/-- the method found above D in the order of C -/
structure SupM (K : PySem.W.Frag) (C D : Addr) (m : Str) (g : Addr) : Prop where
  any : PySem.W.nsIn K PySem.cStatics "thirdparty.any" = some none
  at_ : PySem.W.ks_superIn K C D m = some (some (.ref g))
  ty : PySem.W.typeIn K (.ref g) = some (.type "function")
  fi : PySem.W.fnIn K g = true
  sub : PySem.W.mroIn K C (.ref D) = some true
  nc : (m == ("__class__" : Str)) = false

theorem super_meth {m : Str} {g so : Addr} {pl : Sem Bool} {A : Around} {Q : Value × List Value → Shared → Prop} (M : SupM X.K C D m g) (I : Inv X ((so, PySem.W.ks_superObj D a C) :: pins) σ H s) (J : PySem.W.InstAt s.heap a ox C odx)
    (h : ∀ s', Inv X ((s.heap.objs.size, PySem.W.methodObj (.ref g) (.ref a)) :: pins) σ H s' → Q (.ref s.heap.objs.size, []) s') : wpAny (model X.prog X.w) A (getMethod (.ref so) m pl) Q E s := by
  have KX : X.K.In s.heap := I.kIn
  have hso := ClX.pin_at I
  have hm := M.at_
  have I0 := I
  obtain ⟨hh, gg, d, t, os⟩ := s
  cases hc : PySem.W.clsIn X.K C with
  | none => unfold PySem.W.ks_superIn at hm; rw [hc] at hm; cases hm
  | some cd =>
    unfold PySem.W.ks_superIn at hm
    rw [hc] at hm
    obtain ⟨of, hof, hofc⟩ : ∃ of, hh.get? g = some of ∧ of.cls = .type "function" := by
      have ht' : (X.K.lookup g).map (·.cls) = some (.type "function") := M.ty
      cases z : X.K.lookup g with
      | none => rw [z] at ht'; cases ht'
      | some of => rw [z] at ht'; exact ⟨of, KX _ _ z, Option.some.inj ht'⟩
    refine ks_wpAny_getMethod_super hso (PySem.W.looks_opaque KX M.any) (l₀ := cd.mro) ?_ rfl KX hm hof hofc (PySem.W.ks_ne KX J hc) M.nc ?_
    · exact fun A Q E s k q => wpAny_bind ((PySem.W.looks_clsIn KX hc) A _ E s k (wpAny_pure q))
    · exact h _ (ClX.pin_new (ClX.unpin I0) (fun b o e => Heap.get?_push_of_some _ e) (Nat.le_refl _) (Heap.get?_push_size _ rfl) (fun v z => nomatch z))


end

/-! ### callees by their conventions: n positional values, keywords ks -/
abbrev SpC := List V → List V → Hp → VK → XK → Prop
def Cal (P : Program) (w : World) (K : PySem.W.Frag) (mg : Str → Option Value) (base : Heap) (k : Nat) (f : Addr) (n : Nat) (ks : List Str) (sp : SpC) : Prop :=
  ∀ (A : Around) (outer : List Env) (s : Shared) (H : Hp) (us ws : List Value) (vs zs : List V) (Q : VK) (E : XK), Room k A → Env0 P w K mg base A outer s H → Vals vs us → Vals zs ws → vs.length = n → zs.length = ks.length → sp vs zs H Q E →
    codeAny (model P w) A (.call (.ref f) ⟨us, ks.zip ws⟩) (CR (L2.CX P w) outer P w H s Q E) s
section
variable {P : Program} {w : World} {K : PySem.W.Frag} {mg : Str → Option Value} {base : Heap} {j k : Nat} {f : Addr} {fd : FuncData} {ps ks : List Str} {n : Nat} {sp : Sp} {spc spc' : SpC}
theorem ok_lift {sp : Sp} (F : FnOk P w K mg base CX0 k f fd ps sp) : FnOk P w K mg base (L2.CX P w) k f fd ps sp :=
  ⟨F.len, fun A outer s H args us vs Q E hr e0 hb r h => codeAny_mono (F.run A outer s H args us vs Q E hr e0 hb r h) fun r s' hq => by
    cases r with
    | error e => exact False.elim hq
    | ok fl => cases fl <;> exact hq⟩
theorem calK {g : List Value → List Value → List Value} {gV : List V → List V → List V} (F : FnOk P w K mg base (L2.CX P w) k f fd ps sp) (hb : KBn K fd ps n ks g gV) : Cal P w K mg base k f n ks (fun vs zs => sp (gV vs zs)) :=
  fun A outer s H us ws vs zs Q E hr e0 r rz l1 l2 h =>
    F.run A outer s H ⟨us, ks.zip ws⟩ (g us ws) (gV vs zs) Q E hr e0 (hb.to s us ws (e0.mod.kin.keeps fun b o e => (e0.bs b o e).1) (r.length.symm.trans l1) (rz.length.symm.trans l2)) (hb.rel r rz) h
/-- positional values, the defaults behind them -/
theorem calP {ds : List Value} {dvs : List V} (F : FnOk P w K mg base (L2.CX P w) k f fd ps sp) (hb : Binds K fd ps ds) (hd : Vals dvs ds) (hn : n + ds.length = ps.length) : Cal P w K mg base k f n [] (fun vs _ => sp (vs ++ dvs)) :=
  fun A outer s H us ws vs zs Q E hr e0 r rz l1 l2 h => by
    have e : (⟨us, ([] : List Str).zip ws⟩ : Args) = ⟨us, []⟩ := by rw [List.zip_nil_left]
    rw [e]
    exact F.run A outer s H ⟨us, []⟩ (us ++ ds) (vs ++ dvs) Q E hr e0 (hb s us (e0.mod.kin.keeps fun b o e => (e0.bs b o e).1) (by rw [List.length_append, ← r.length, l1, hn])) (r.append hd) h
theorem cal0 (F : FnOk P w K mg base (L2.CX P w) k f fd ps sp) (hb : Binds K fd ps []) (hn : n = ps.length) : Cal P w K mg base k f n [] (fun vs _ => sp vs) :=
  fun A outer s H us ws vs zs Q E hr e0 r rz l1 l2 h => by
    have e : (⟨us, ([] : List Str).zip ws⟩ : Args) = ⟨us, []⟩ := by rw [List.zip_nil_left]
    rw [e]
    have hl : (us ++ []).length = ps.length := by rw [List.append_nil, ← r.length, l1, hn]
    have hb' := hb s us (e0.mod.kin.keeps fun b o e => (e0.bs b o e).1) hl
    rw [List.append_nil] at hb'
    exact F.run A outer s H ⟨us, []⟩ us vs Q E hr e0 hb' r h
theorem Cal.mono (F : Cal P w K mg base j f n ks spc) (h : j ≤ k) : Cal P w K mg base k f n ks spc := fun A outer s H us ws vs zs Q E hr => F A outer s H us ws vs zs Q E (hr.mono h)
theorem Cal.imp (F : Cal P w K mg base k f n ks spc) (h : ∀ vs zs H Q E, spc' vs zs H Q E → spc vs zs H Q E) : Cal P w K mg base k f n ks spc' := fun A outer s H us ws vs zs Q E hr e0 r rz l1 l2 q => F A outer s H us ws vs zs Q E hr e0 r rz l1 l2 (h _ _ _ _ _ q)
/-- a global def by its name -/
structure GFn (P : Program) (w : World) (K : PySem.W.Frag) (mg : Str → Option Value) (base : Heap) (k : Nat) (x : Str) (n : Nat) (ks : List Str) (sp : SpC) : Prop where
  ex : ∃ f, mg x = some (.ref f) ∧ PySem.W.keepIn K (.ref f) = true ∧ Cal P w K mg base k f n ks sp
/-- a class by its name: C(..) with its __init__ -/
structure GMk (P : Program) (w : World) (K : PySem.W.Frag) (mg : Str → Option Value) (base : Heap) (k : Nat) (x : Str) (C : Addr) (n : Nat) (ks : List Str) (sp : SpC) : Prop where
  at_ : mg x = some (.ref C)
  ex : ∃ f, Mk K C f ∧ Cal P w K mg base k f (n + 1) ks sp
/-- a method of the class at C -/
structure GMt (P : Program) (w : World) (K : PySem.W.Frag) (mg : Str → Option Value) (base : Heap) (k : Nat) (C : Addr) (m : Str) (n : Nat) (ks : List Str) (sp : SpC) : Prop where
  cl : Cls K C
  ex : ∃ f, Meth K C m f ∧ Cal P w K mg base k f (n + 1) ks sp
/-- a property of the class at C -/
structure GPr (P : Program) (w : World) (K : PySem.W.Frag) (mg : Str → Option Value) (base : Heap) (k : Nat) (C : Addr) (m : Str) (sp : SpC) : Prop where
  cl : Cls K C
  ex : ∃ p g, PropOf K C m p g ∧ Cal P w K mg base k g 1 [] sp
end

section
variable {X : Cx} {k n : Nat} {f C : Addr} {ks : List Str} {sp : SpC} {W : WX} {x : Str}
theorem run_cal {pins : List (Addr × Obj)} {σ : L2.St} {H : Hp} {s : Shared} {Q : VK} {us ws : List Value} {vs zs : List V} (F : Cal X.prog X.w X.K X.mg X.base k f n ks sp) (hr : Room k X.A) (tw : Takes X W) (I : Inv X pins σ H s) (r : Vals vs us) (rz : Vals zs ws)
    (l1 : vs.length = n) (l2 : zs.length = ks.length) (h : sp vs zs H Q (WE W σ)) :
    codeAny (model X.prog X.w) X.A (.call (.ref f) ⟨us, ks.zip ws⟩) (fun r s' => match r with | .ok (.ret v) => EP X pins σ Q v s' | .ok _ => False | .error e => X.xe e s') s := by
  refine codeAny_mono (F X.A X.stack s H us ws vs zs Q (WE W σ) hr I.env0 r rz l1 l2 h) fun r s' hq => ?_
  cases r with
  | error e => exact passAt tw σ pins H s e s' I hq
  | ok fl =>
    cases fl with
    | ret u => exact I.after hq
    | next => exact False.elim hq
    | brk => exact False.elim hq
    | cont => exact False.elim hq
end

/-- f(e, .., k = v, ..) -/
def tCalG (n m : Nat) (sp : SpC) (W : WX) (t tk : TA) : TE := fun σ H Q => t σ H fun vs H1 => tk σ H1 fun zs H2 => vs.length = n ∧ zs.length = m ∧ sp vs zs H2 Q (WE W σ)
/-- C(e, .., k = v, ..) -/
def tMkG (C : Addr) (n m : Nat) (sp : SpC) (W : WX) (t tk : TA) : TE := fun σ H Q => t σ H fun vs H1 => tk σ H1 fun zs H2 => vs.length = n ∧ zs.length = m ∧ ∀ x dx, H2 x = none → H2 dx = none → dx ≠ x →
  sp (.ref x :: vs) zs (upd (upd H2 dx (.own x)) x (.ins C dx [])) (fun v H3 => v = .non ∧ Q (.ref x) H3) (WE W σ)
section
variable {X : Cx} {k n : Nat} {f C : Addr} {ks : List Str} {sp : SpC} {W : WX} {x m : Str} {p pos apos : Pos} {e o : Expr} {es : List Expr} {kws : List Keyword} {t tk : TA} {ta : TE}
theorem pe_callG (G : GFn X.prog X.w X.K X.mg X.base k x n ks sp) (hr : Room k X.A) (tw : Takes X W) (ha : PA X (e :: es) t) (hkw : PK X kws tk) (hg : Gl X x := by rfl)
    (hall : (backToKw pos (keywordEach kws X.env)).all (·.1.isSome) = true := by rfl) (hks : (backToKw pos (keywordEach kws X.env)).filterMap (·.1) = ks := by rfl) (hdb : (x == ("__debug__" : Str)) = false := by decide)
    (he : starEach (e :: es) X.env = (false, eval e X.env) :: starEach es X.env := by rfl)
    (hpl : ((backTo pos (starEach (e :: es) X.env)).any (·.1) || (backToKw pos (keywordEach kws X.env)).any (·.1.isNone)) = false := by rfl) :
    PE X (.Call (.Name x p) (e :: es) kws pos) (tCalG n ks.length sp W t tk) := by
  refine ⟨fun pins s σ H Q I h => ?_⟩
  obtain ⟨f, hm, hk, F⟩ := G.ex
  refine wpAny_Call_Name_kw (ld_glob I hg hm ?_ hdb)
  refine PySem.W.callWith_KW (h₀ := X.base) I.ok.mod.kin hk hall (thn (ha.run pos pins s σ H _ I h) fun us s1 ⟨vs, H1, I1, r, q⟩ => ?_) hpl he
  refine thn (hkw.run pos pins s1 σ H1 _ I1 q) fun ws s2 ⟨zs, H2, I2, rz, l1, l2, q2⟩ => ⟨I2.kIn, ?_⟩
  rw [hks]
  exact wpAny_call (run_cal F hr tw I2 r rz l1 l2 q2)
theorem pe_callG0 (G : GFn X.prog X.w X.K X.mg X.base k x n ks sp) (hr : Room k X.A) (tw : Takes X W) (hkw : PK X kws tk) (hg : Gl X x := by rfl)
    (hall : (backToKw pos (keywordEach kws X.env)).all (·.1.isSome) = true := by rfl) (hks : (backToKw pos (keywordEach kws X.env)).filterMap (·.1) = ks := by rfl) (hdb : (x == ("__debug__" : Str)) = false := by decide)
    (hpl : ((backTo pos (starEach [] X.env)).any (·.1) || (backToKw pos (keywordEach kws X.env)).any (·.1.isNone)) = false := by rfl) :
    PE X (.Call (.Name x p) [] kws pos) (tCalG n ks.length sp W tNil tk) := by
  refine ⟨fun pins s σ H Q I h => ?_⟩
  obtain ⟨f, hm, hk, F⟩ := G.ex
  refine wpAny_Call_Name_kw (ld_glob I hg hm ?_ hdb)
  refine PySem.W.callWith_KW0 (h₀ := X.base) I.ok.mod.kin hk hall ?_ hpl
  refine thn (hkw.run pos pins s σ H _ I h) fun ws s2 ⟨zs, H2, I2, rz, l1, l2, q2⟩ => ⟨I2.kIn, ?_⟩
  rw [hks]
  exact wpAny_call (run_cal (us := []) (vs := []) F hr tw I2 .nil rz l1 l2 q2)
theorem run_mk {pins : List (Addr × Obj)} {σ : L2.St} {H : Hp} {s : Shared} {Q : VK} {us ws : List Value} {vs zs : List V} (M : Mk X.K C f) (F : Cal X.prog X.w X.K X.mg X.base k f (n + 1) ks sp) (hr : Room (k + 1) X.A) (tw : Takes X W)
    (I : Inv X pins σ H s) (r : Vals vs us) (rz : Vals zs ws) (l1 : vs.length = n) (l2 : zs.length = ks.length)
    (h : ∀ x dx, H x = none → H dx = none → dx ≠ x → sp (.ref x :: vs) zs (upd (upd H dx (.own x)) x (.ins C dx [])) (fun v H2 => v = .non ∧ Q (.ref x) H2) (WE W σ)) :
    wpAny (model X.prog X.w) X.A (call (.ref C) us (ks.zip ws)) (EP X pins σ Q) X.xe s := by
  have hq := h (s.heap.objs.size + 1) s.heap.objs.size (I.hok.fresh (Nat.le_succ _)) (I.hok.fresh (Nat.le_refl _)) (Nat.ne_of_lt (Nat.lt_succ_self _))
  have I2 := Inv.made (C := C) I
  have r1 : Vals (V.ref (s.heap.objs.size + 1) :: vs) (Value.ref (s.heap.objs.size + 1) :: us) := .cons rfl r
  have n1 : (V.ref (s.heap.objs.size + 1) :: vs).length = n + 1 := by
    rw [List.length_cons, l1]
  refine wpAny_call (make_map (f := f) I.kIn M.makes M.init (beq_iff_eq.mp M.fn) (codeAny_mono (F _ X.stack _ _ (Value.ref (s.heap.objs.size + 1) :: us) ws _ _ _ (WE W σ) (hr.make C us (ks.zip ws))
    (I2.env0.make C us (ks.zip ws)) r1 rz n1 l2 hq) fun r s' hq' => ?_))
  cases r with
  | error e => exact passAt tw σ pins _ _ e s' I2 hq'
  | ok fl =>
    cases fl with
    | ret u =>
      obtain ⟨v, H', I3, rv, ev, q3⟩ := I2.after hq'
      subst ev
      exact ⟨rv, ⟨V.ref (s.heap.objs.size + 1), H', I3, rfl, q3⟩⟩
    | next => exact False.elim hq'
    | brk => exact False.elim hq'
    | cont => exact False.elim hq'
theorem pe_makeG (G : GMk X.prog X.w X.K X.mg X.base k x C n ks sp) (hr : Room (k + 1) X.A) (tw : Takes X W) (ha : PA X (e :: es) t) (hkw : PK X kws tk) (hg : Gl X x := by rfl)
    (hall : (backToKw pos (keywordEach kws X.env)).all (·.1.isSome) = true := by rfl) (hks : (backToKw pos (keywordEach kws X.env)).filterMap (·.1) = ks := by rfl) (hdb : (x == ("__debug__" : Str)) = false := by decide)
    (he : starEach (e :: es) X.env = (false, eval e X.env) :: starEach es X.env := by rfl) (hpl : ((backTo pos (starEach (e :: es) X.env)).any (·.1) || (backToKw pos (keywordEach kws X.env)).any (·.1.isNone)) = false := by rfl) :
    PE X (.Call (.Name x p) (e :: es) kws pos) (tMkG C n ks.length sp W t tk) := by
  refine ⟨fun pins s σ H Q I h => ?_⟩
  obtain ⟨f, M, F⟩ := G.ex
  refine wpAny_Call_Name_kw (ld_glob I hg G.at_ ?_ hdb)
  refine PySem.W.callWith_KW (h₀ := X.base) I.ok.mod.kin M.kp hall (thn (ha.run pos pins s σ H _ I h) fun us s1 ⟨vs, H1, I1, r, q⟩ => ?_) hpl he
  refine thn (hkw.run pos pins s1 σ H1 _ I1 q) fun ws s2 ⟨zs, H2, I2, rz, l1, l2, q2⟩ => ⟨I2.kIn, ?_⟩
  rw [hks]
  exact run_mk M F hr tw I2 r rz l1 l2 q2
theorem pe_makeG0 (G : GMk X.prog X.w X.K X.mg X.base k x C n ks sp) (hr : Room (k + 1) X.A) (tw : Takes X W) (hkw : PK X kws tk) (hg : Gl X x := by rfl)
    (hall : (backToKw pos (keywordEach kws X.env)).all (·.1.isSome) = true := by rfl) (hks : (backToKw pos (keywordEach kws X.env)).filterMap (·.1) = ks := by rfl) (hdb : (x == ("__debug__" : Str)) = false := by decide)
    (hpl : ((backTo pos (starEach [] X.env)).any (·.1) || (backToKw pos (keywordEach kws X.env)).any (·.1.isNone)) = false := by rfl) :
    PE X (.Call (.Name x p) [] kws pos) (tMkG C n ks.length sp W tNil tk) := by
  refine ⟨fun pins s σ H Q I h => ?_⟩
  obtain ⟨f, M, F⟩ := G.ex
  refine wpAny_Call_Name_kw (ld_glob I hg G.at_ ?_ hdb)
  refine PySem.W.callWith_KW0 (h₀ := X.base) I.ok.mod.kin M.kp hall ?_ hpl
  refine thn (hkw.run pos pins s σ H _ I h) fun ws s2 ⟨zs, H2, I2, rz, l1, l2, q2⟩ => ⟨I2.kIn, ?_⟩
  rw [hks]
  exact run_mk (us := []) (vs := []) M F hr tw I2 .nil rz l1 l2 q2
/-- o.m(e, .., k = v, ..), whatever class o is of -/
def tMtG (P : Program) (w : World) (K : PySem.W.Frag) (mg : Str → Option Value) (base : Heap) (k : Nat) (m : Str) (n : Nat) (ks : List Str) (W : WX) (ta : TE) (t tk : TA) : TE := fun σ H Q => ta σ H fun x H1 => ∃ a C dx fs sp, x = .ref a ∧ H1 a = some (.ins C dx fs) ∧ fs.lookup m = none ∧
  GMt P w K mg base k C m n ks sp ∧ t σ H1 fun vs H2 => tk σ H2 fun zs H3 => vs.length = n ∧ zs.length = ks.length ∧ sp (.ref a :: vs) zs H3 Q (WE W σ)
theorem pe_methG {pl : Sem Bool} (he : PE X o ta) (hr : Room k X.A) (tw : Takes X W) (ha : PA X (e :: es) t) (hkw : PK X kws tk)
    (hall : (backToKw pos (keywordEach kws X.env)).all (·.1.isSome) = true := by rfl) (hks : (backToKw pos (keywordEach kws X.env)).filterMap (·.1) = ks := by rfl)
    (hst : starEach (e :: es) X.env = (false, eval e X.env) :: starEach es X.env := by rfl) (hpl : ((backTo pos (starEach (e :: es) X.env)).any (·.1) || (backToKw pos (keywordEach kws X.env)).any (·.1.isNone)) = false := by rfl)
    (ht : eval (.Call (.Attribute o m apos) (e :: es) kws pos) X.env = (do
      let ov ← eval o X.env
      standAt apos.atName
      let (f, first) ← holding [ov] (getMethod ov m pl)
      callWith pos f first (backTo pos (starEach (e :: es) X.env)) (backToKw pos (keywordEach kws X.env))) := by rfl) :
    PE X (.Call (.Attribute o m apos) (e :: es) kws pos) (tMtG X.prog X.w X.K X.mg X.base k m n ks W ta t tk) := by
  refine ⟨fun pins s σ H Q I h => ?_⟩
  refine PySem.W.methodCall_KW (pl := pl) (thn (he.run pins s σ H _ I h) fun u s1 ⟨x, H1, I1, rx, a, C, dx, fs, sp, ex, ea, l, G, q⟩ => ?_) ht
  subst ex
  obtain rfl : u = Value.ref a := rx
  obtain ⟨f, M, F⟩ := G.ex
  refine getmeth_ok I1 ea G.cl M l ?_
  refine PySem.W.callWith_KW (h₀ := X.base) I.ok.mod.kin M.kp hall (thn (ha.run pos pins s1 σ H1 _ I1 q) fun us s2 ⟨vs, H2, I2, r, q⟩ => ?_) hpl hst
  refine thn (hkw.run pos pins s2 σ H2 _ I2 q) fun ws s3 ⟨zs, H3, I3, rz, l1, l2, q3⟩ => ⟨I3.kIn, ?_⟩
  rw [hks]
  exact wpAny_call (run_cal (us := .ref a :: us) (vs := .ref a :: vs) F hr tw I3 (.cons rfl r) rz (by rw [List.length_cons, l1]) l2 q3)
theorem pe_methG0 {pl : Sem Bool} (he : PE X o ta) (hr : Room k X.A) (tw : Takes X W) (hkw : PK X kws tk)
    (hall : (backToKw pos (keywordEach kws X.env)).all (·.1.isSome) = true := by rfl) (hks : (backToKw pos (keywordEach kws X.env)).filterMap (·.1) = ks := by rfl)
    (hpl : ((backTo pos (starEach [] X.env)).any (·.1) || (backToKw pos (keywordEach kws X.env)).any (·.1.isNone)) = false := by rfl)
    (ht : eval (.Call (.Attribute o m apos) [] kws pos) X.env = (do
      let ov ← eval o X.env
      standAt apos.atName
      let (f, first) ← holding [ov] (getMethod ov m pl)
      callWith pos f first (backTo pos (starEach [] X.env)) (backToKw pos (keywordEach kws X.env))) := by rfl) :
    PE X (.Call (.Attribute o m apos) [] kws pos) (tMtG X.prog X.w X.K X.mg X.base k m n ks W ta tNil tk) := by
  refine ⟨fun pins s σ H Q I h => ?_⟩
  refine PySem.W.methodCall_KW (pl := pl) (thn (he.run pins s σ H _ I h) fun u s1 ⟨x, H1, I1, rx, a, C, dx, fs, sp, ex, ea, l, G, q⟩ => ?_) ht
  subst ex
  obtain rfl : u = Value.ref a := rx
  obtain ⟨f, M, F⟩ := G.ex
  refine getmeth_ok I1 ea G.cl M l ?_
  refine PySem.W.callWith_KW0 (h₀ := X.base) I.ok.mod.kin M.kp hall ?_ hpl
  refine thn (hkw.run pos pins s1 σ H1 _ I1 q) fun ws s3 ⟨zs, H3, I3, rz, l1, l2, q3⟩ => ⟨I3.kIn, ?_⟩
  rw [hks]
  exact wpAny_call (run_cal (us := [.ref a]) (vs := [.ref a]) F hr tw I3 (.cons rfl .nil) rz (by rw [← l1]; rfl) l2 q3)
/-- o.f, a property, whatever class o is of -/
def tPrG (P : Program) (w : World) (K : PySem.W.Frag) (mg : Str → Option Value) (base : Heap) (k : Nat) (m : Str) (ta : TE) : TE := fun σ H Q => ta σ H fun x H1 => ∃ a C dx fs sp, x = .ref a ∧ H1 a = some (.ins C dx fs) ∧
  GPr P w K mg base k C m sp ∧ sp [.ref a] [] H1 Q E0
theorem pe_propG (he : PE X o ta) (hr : Room (k + 1) X.A)
    (hab : attributeBase o m X.env (eval o X.env) = eval o X.env := by rfl) : PE X (.Attribute o m pos) (tPrG X.prog X.w X.K X.mg X.base k m ta) := by
  refine ⟨fun pins s σ H Q I h => ?_⟩
  refine attr_of hab (thn (he.run pins s σ H _ I h) fun u s1 ⟨x, H1, I1, rx, a, C, dx, fs, sp, ex, ea, G, q⟩ => ?_)
  subst ex
  obtain rfl : u = Value.ref a := rx
  obtain ⟨p, g, hp, F⟩ := G.ex
  obtain ⟨mA, O, _, _, _, _⟩ := ins_get I1.hok ea
  obtain ⟨od, J, _⟩ := O.look
  obtain ⟨rest, hrec⟩ := hp.rec_
  have I2 := I1.tok (s1.toks + 1)
  have hc : (PySem.W.clsIn X.K C).isSome = true := by
    obtain ⟨cd, hc, _⟩ := PySem.W.any_some G.cl.hd
    rw [hc]
    rfl
  refine PySem.W.get_bind I1.kIn J (PySem.W.plainGet_of (G.cl.get m)).1 (PySem.W.findObj_data hc hp.at_ hp.get hp.tak) (PySem.W.plainGet_of (G.cl.get m)).2 (wpAny_call (PySem.W.prop_get (s := { s1 with toks := s1.toks + 1 }) I1.kIn hrec ?_))
  refine codeAny_mono (F X.A.in1 X.stack { s1 with toks := s1.toks + 1 } H1 [.ref a] [] [.ref a] [] Q E0 hr.in1 I2.env0.in1 (.cons rfl .nil) .nil rfl rfl q) fun r s' hq => ?_
  cases r with
  | error er => exact False.elim (passL (X := X.nox) pins σ H1 { s1 with toks := s1.toks + 1 } er s' (I2.wish _) hq)
  | ok fl =>
    cases fl with
    | ret u =>
      obtain ⟨v, H', I3, rv, q3⟩ := I2.after hq
      show wpAny _ _ (handedOut u) _ _ _
      rw [PySem.W.handedOut_of (handed_of rv)]
      exact wpAny_pure ⟨v, H', I3, rv, q3⟩
    | next => exact False.elim hq
    | brk => exact False.elim hq
    | cont => exact False.elim hq
end
end Sw

set_option Elab.async false
set_option linter.all false
set_option maxRecDepth 100000
set_option maxHeartbeats 4000000
namespace Sw
open PySem PySem.Spec PyProof.Rows L2

theorem run_sup {X : Cx} {pins : List (Addr × Obj)} {σ : L2.St} {H : Hp} {s : Shared} {a : Addr} {k n : Nat} {g q : Addr} {ks : List Str} {sp : SpC} {W : WX} {Q : VK} {us ws : List Value} {vs zs : List V} (F : Cal X.prog X.w X.K X.mg X.base k g (n + 1) ks sp) (hr : Room k X.A) (tw : Takes X W)
    (I : Inv X ((q, PySem.W.methodObj (.ref g) (.ref a)) :: pins) σ H s) (r : Vals vs us) (rz : Vals zs ws) (l1 : vs.length = n) (l2 : zs.length = ks.length) (h : sp (.ref a :: vs) zs H Q (WE W σ)) : wpAny (model X.prog X.w) X.A (call (.ref q) us (ks.zip ws)) (EP X pins σ Q) X.xe s := by
  have hrun := run_cal (us := .ref a :: us) (vs := .ref a :: vs) F hr tw I (.cons rfl r) rz (by rw [List.length_cons, l1]) l2 h
  have z : wpAny (model X.prog X.w) X.A (call (.ref q) us (ks.zip ws)) (EP X ((q, PySem.W.methodObj (.ref g) (.ref a)) :: pins) σ Q) X.xe s :=
    wpAny_call (PySem.W.method_call (ClX.pin_at I) hrun)
  exact thn z fun _ _ y => ClX.unpinE y

/-- a method call on super(), with keywords too -/
theorem wpAt_superCall {M : Model} {A : Around} {c : Code} {env : Env} {o : Expr} {name : Str} {apos pos : Pos} {args : List Expr} {kws : List Keyword} {pl : Sem Bool} {E : Value → Shared → Prop} {s : Shared} {Q : Value → Shared → Prop}
    (h : _root_.PySem.wpAt M A c (attributeBase o name env (eval o env)) (fun ov s₁ => wpAny M A (getMethod ov name pl) (fun fx s₂ => wpAny M A (callWith pos fx.1 fx.2 (backTo pos (starEach args env)) (backToKw pos (keywordEach kws env))) Q E s₂) E s₁) E s)
    (he : eval (.Call (.Attribute o name apos) args kws pos) env = (do
      let ov ← attributeBase o name env (eval o env)
      standAt apos.atName
      let (f, first) ← holding [ov] (getMethod ov name pl)
      callWith pos f first (backTo pos (starEach args env)) (backToKw pos (keywordEach kws env)))) :
    _root_.PySem.wpAt M A c (eval (.Call (.Attribute o name apos) args kws pos) env) Q E s := by
  rw [he]
  refine PySem.wpAt_bind (ks_wpAt_mono h (fun ov s₁ h₁ => wpAt_of_wpAny (wpAny_bind (wpAny_standAt (wpAny_bind (wpAny_holding (wpAny_mono h₁ (fun fx s₂ h₂ => ?_) fun _ _ x => x)))))) fun _ _ x => x)
  exact h₂

/-- super().m(e, .., k = v, ..) in a method of D called with an instance of C: the def found above D -/
def tSup (C : Addr) (n : Nat) (ks : List Str) (sp : SpC) (W : WX) (t tk : TA) : TE := fun σ H Q => ∃ a dx fs, σ[0]? = some (some (.ref a)) ∧ H a = some (.ins C dx fs) ∧
  t σ H fun vs H1 => tk σ H1 fun zs H2 => vs.length = n ∧ zs.length = ks.length ∧ sp (.ref a :: vs) zs H2 Q (WE W σ)
section
variable {X : Cx} {k n : Nat} {f g C D cda cc : Addr} {ks : List Str} {sp : SpC} {W : WX} {m : Str} {p0 p1 pos apos : Pos} {e : Expr} {es : List Expr} {kws : List Keyword} {t tk : TA} {body : List Stmt} {pl : Sem Bool}
theorem pet_sup (T : SupT X f cda cc D) (M : SupM X.K C D m g) (F : Cal X.prog X.w X.K X.mg X.base k g (n + 1) ks sp) (hr : Room k X.A) (tw : Takes X W) (ha : PA X (e :: es) t) (hkw : PK X kws tk)
    (hall : (backToKw pos (keywordEach kws X.env)).all (·.1.isSome) = true := by rfl) (hks : (backToKw pos (keywordEach kws X.env)).filterMap (·.1) = ks := by rfl)
    (hst : starEach (e :: es) X.env = (false, eval e X.env) :: starEach es X.env := by rfl) (hpl : ((backTo pos (starEach (e :: es) X.env)).any (·.1) || (backToKw pos (keywordEach kws X.env)).any (·.1.isNone)) = false := by rfl)
    (ht : eval (.Call (.Attribute (.Call (.Name "super" p0) [] [] p1) m apos) (e :: es) kws pos) X.env = (do
      let ov ← attributeBase (.Call (.Name "super" p0) [] [] p1) m X.env (eval (.Call (.Name "super" p0) [] [] p1) X.env)
      standAt apos.atName
      let (f, first) ← holding [ov] (getMethod ov m pl)
      callWith pos f first (backTo pos (starEach (e :: es) X.env)) (backToKw pos (keywordEach kws X.env))) := by rfl) :
    PEt X body (.Call (.Attribute (.Call (.Name "super" p0) [] [] p1) m apos) (e :: es) kws pos) (tSup C n ks sp W t tk) := by
  refine ⟨fun pins s σ H Q I h => ?_⟩
  obtain ⟨a, dx, fs, h0, ea, q⟩ := h
  obtain ⟨mA, O, _, _, _, _⟩ := ins_get I.hok ea
  obtain ⟨od, J, _⟩ := O.look
  refine wpAt_superCall (pl := pl) (super_base T I h0 J M.sub M.nc fun s1 I1 k1 => ?_) ht
  obtain ⟨mA1, O1, _, _, _, _⟩ := ins_get I1.hok ea
  obtain ⟨od1, J1, _⟩ := O1.look
  refine super_meth M I1 J1 fun s2 I2 => ?_
  have hq := ClX.pin_at I2
  have hb : X.base.get? s1.heap.objs.size = none := ClX.base_none I1 (Nat.le_refl _)
  refine PySem.W.callWith_of hpl (P := PySem.W.MethP X.K s1.heap.objs.size g (.ref a)) (PySem.W.keeps_M M.fi) (PyProof.Rows.evalArgs_kw2 hall (thn (ha.run pos _ s2 σ H _ I2 q) fun us s3 ⟨vs, H1, I3, r, q⟩ => ?_) hst)
  refine thn (hkw.run pos _ s3 σ H1 _ I3 q) fun ws s4 ⟨zs, H2, I4, rz, l1, l2, q4⟩ => ⟨⟨ClX.pin_at I4, I4.kIn⟩, ?_⟩
  rw [hks]
  exact run_sup F hr tw I4 r rz l1 l2 q4
theorem pet_sup0 (T : SupT X f cda cc D) (M : SupM X.K C D m g) (F : Cal X.prog X.w X.K X.mg X.base k g (n + 1) ks sp) (hr : Room k X.A) (tw : Takes X W) (hkw : PK X kws tk)
    (hall : (backToKw pos (keywordEach kws X.env)).all (·.1.isSome) = true := by rfl) (hks : (backToKw pos (keywordEach kws X.env)).filterMap (·.1) = ks := by rfl)
    (hpl : ((backTo pos (starEach [] X.env)).any (·.1) || (backToKw pos (keywordEach kws X.env)).any (·.1.isNone)) = false := by rfl)
    (ht : eval (.Call (.Attribute (.Call (.Name "super" p0) [] [] p1) m apos) [] kws pos) X.env = (do
      let ov ← attributeBase (.Call (.Name "super" p0) [] [] p1) m X.env (eval (.Call (.Name "super" p0) [] [] p1) X.env)
      standAt apos.atName
      let (f, first) ← holding [ov] (getMethod ov m pl)
      callWith pos f first (backTo pos (starEach [] X.env)) (backToKw pos (keywordEach kws X.env))) := by rfl) :
    PEt X body (.Call (.Attribute (.Call (.Name "super" p0) [] [] p1) m apos) [] kws pos) (tSup C n ks sp W tNil tk) := by
  refine ⟨fun pins s σ H Q I h => ?_⟩
  obtain ⟨a, dx, fs, h0, ea, q⟩ := h
  obtain ⟨mA, O, _, _, _, _⟩ := ins_get I.hok ea
  obtain ⟨od, J, _⟩ := O.look
  refine wpAt_superCall (pl := pl) (super_base T I h0 J M.sub M.nc fun s1 I1 k1 => ?_) ht
  obtain ⟨mA1, O1, _, _, _, _⟩ := ins_get I1.hok ea
  obtain ⟨od1, J1, _⟩ := O1.look
  refine super_meth M I1 J1 fun s2 I2 => ?_
  refine PySem.W.callWith_of hpl (P := PySem.W.MethP X.K s1.heap.objs.size g (.ref a)) (PySem.W.keeps_M M.fi) (PyProof.Rows.evalArgs_kw2_nil hall ?_)
  refine thn (hkw.run pos _ s2 σ H _ I2 q) fun ws s4 ⟨zs, H2, I4, rz, l1, l2, q4⟩ => ⟨⟨ClX.pin_at I4, I4.kIn⟩, ?_⟩
  rw [hks]
  exact run_sup (us := []) (vs := []) F hr tw I4 .nil rz l1 l2 q4
end

/-! ### an own exception's __init__: super().__init__(text), then the fields -/
/-- what the written part says of the class C (over ValueError by own classes), above D its __init__ is ValueError's -/
structure SupE (K : PySem.W.Frag) (C D : Addr) : Prop where
  ox : OexC K C
  any : PySem.W.nsIn K PySem.cStatics "thirdparty.any" = some none
  at_ : PySem.W.ks_superIn K C D "__init__" = some (some (.builtin "ValueError.__init__"))
  sub : PySem.W.mroIn K C (.ref D) = some true
  ve : PySem.W.subIn K (.ref C) (.type "ValueError") = some true
/-- super().__init__(e, ..): nothing of it is told -/
def tSupE (C : Addr) (t : TA) : TE := fun σ H Q => ∃ a, σ[0]? = some (some (.ref a)) ∧ H a = some (exo a C none) ∧ t σ H fun vs H1 => vs.length ≤ 1000 ∧ H1 a = some (exo a C none) ∧ Q .non H1
section
variable {X : Cx} {f C D cda cc : Addr} {p0 p1 pos apos : Pos} {e : Expr} {es : List Expr} {t : TA} {body : List Stmt} {pl : Sem Bool}
theorem call_mw {pins : List (Addr × Obj)} {σ : L2.St} {H : Hp} {s : Shared} {a u : Addr} {rest : List Value} {Q : Value → Shared → Prop} {A : Around} {E : Value → Shared → Prop} (T : OexC X.K C) (I : Inv X ((u, PySem.W.kxs_mw "ValueError.__init__" a) :: pins) σ H s) (e : H a = some (exo a C none)) (hl : rest.length ≤ sizeLine)
    (h : ∀ s', Inv X pins σ H s' → Q .none s') : wpAny (model X.prog X.w) A (call (.ref u) rest) Q E s := by
  obtain ⟨nm, q, N, bs, bm, sn, sub, ab, col, dd, k0, k1, k2, k3, k5, hC, hbm⟩ := T.cls
  have hu := ClX.pin_at I
  have KX := I.kIn
  obtain ⟨t1, ho⟩ := exo_at I.hok e
  have I0 := ClX.unpin I
  obtain ⟨hp, g, d, tk, os⟩ := s
  refine wpAny_call (codeAny_of_tree ?_)
  show wpAny _ A.in1 (callAny (.ref u) ⟨rest, []⟩) _ _ _
  simp only [callAny]
  refine wpAny_bind (wpAny_load hu ?_)
  simp only [PySem.W.kxs_mw, show (Value.type "method-wrapper" == Value.type "method" || Value.type "method-wrapper" == Value.type "builtin_function_or_method" || Value.type "method-wrapper" == Value.type "method-wrapper") = true by decide, if_true]
  refine PySem.W.KFB.if_so (by decide) ?_
  refine wpAny_bind (PySem.W.check_bound_init F.excBase_ValueError.toExcCallFacts (KX _ _ hC) ho rfl ?_)
  refine wpAny_bind (wpAny_pure (wpAny_pure ?_))
  refine ⟨PySem.plainId_quiet F.excBase_ValueError.init.plain _, codeAny_builtin F.excBase_ValueError.initEntry ?_⟩
  refine PySem.W.exc_init_tree (cls := .ref C) (t0 := t1) (dv := none) (c2 := .none) (c3 := .none) (b4 := .bool false) ho hl fun h' k hx _ => ?_
  have J := I0.write (t' := tk) (x := a) (e := a) (o := exo a C none) (by rw [e]; exact True.intro) (.inl rfl) k ⟨_, hx⟩ (exo_ok hx)
  have eu : upd H a (exo a C none) = H := by
    funext b
    by_cases hb : b = a
    · rw [hb, upd_same, e]
    · rw [upd_ne hb]
  rw [eu] at J
  exact h _ J
theorem pet_supE (T : SupT X f cda cc D) (M : SupE X.K C D) (ha : PA X (e :: es) t)
    (hst : starEach (e :: es) X.env = (false, eval e X.env) :: starEach es X.env := by rfl) (hpl : (backTo pos (starEach es X.env)).any (·.1) = false := by rfl)
    (ht : eval (.Call (.Attribute (.Call (.Name "super" p0) [] [] p1) "__init__" apos) (e :: es) [] pos) X.env = (do
      let ov ← attributeBase (.Call (.Name "super" p0) [] [] p1) "__init__" X.env (eval (.Call (.Name "super" p0) [] [] p1) X.env)
      standAt apos.atName
      let (f, first) ← holding [ov] (getMethod ov "__init__" pl)
      callWith pos f first (backTo pos (starEach (e :: es) X.env)) (backToKw pos (keywordEach [] X.env))) := by rfl) :
    PEt X body (.Call (.Attribute (.Call (.Name "super" p0) [] [] p1) "__init__" apos) (e :: es) [] pos) (tSupE C t) := by
  refine ⟨fun pins s σ H Q I h => ?_⟩
  obtain ⟨a, h0, ea, q⟩ := h
  have mk : ∀ {s : Shared} {pins : List (Addr × Obj)} {H : Hp}, Inv X pins σ H s → H a = some (exo a C none) → ∃ ox, PySem.W.InstAt s.heap a ox C none := fun I ea => by
    obtain ⟨t1, ho⟩ := exo_at I.hok ea
    exact ⟨_, ho, rfl, rfl, trivial⟩
  obtain ⟨ox, J⟩ := mk I ea
  refine wpAt_superCall (pl := pl) (super_base T I h0 J M.sub (by decide +kernel) fun s1 I1 k1 => ?_) ht
  obtain ⟨ox1, J1⟩ := mk I1 ea
  have KX : X.K.In s1.heap := I1.kIn
  have hso := ClX.pin_at I1
  have hm := M.at_
  have hI : PySem.W.Looks (model X.prog X.w) s1.heap (isInstance (.ref a) (.type "ValueError")) true := J1.type.andThen (PySem.W.looks_subIn KX M.ve)
  obtain ⟨hh, gg, d, tt, os⟩ := s1
  cases hc : PySem.W.clsIn X.K C with
  | none => unfold PySem.W.ks_superIn at hm; rw [hc] at hm; cases hm
  | some cd =>
    unfold PySem.W.ks_superIn at hm
    rw [hc] at hm
    refine PySem.W.kxs_getMethod PySem.W.kxs_ValueError hso (PySem.W.looks_opaque KX M.any) (l₀ := cd.mro) ?_ rfl KX hm hI (PySem.W.ks_ne KX J1 hc) (by decide +kernel) ?_
    · exact fun A Q E s k q => wpAny_bind ((PySem.W.looks_clsIn KX hc) A _ E s k (wpAny_pure q))
    · have I2 : Inv X ((hh.objs.size, PySem.W.kxs_mw "ValueError.__init__" a) :: pins) σ H ⟨hh.push (PySem.W.kxs_mw "ValueError.__init__" a), gg, d, tt + 1, os⟩ :=
        ClX.pin_new (s := ⟨hh, gg, d, tt, os⟩) (t' := tt + 1) (ClX.unpin I1) (fun b o e => Heap.get?_push_of_some _ e) (Nat.le_refl _) (Heap.get?_push_size hh rfl) (fun v z => nomatch z)
      show wpAny _ _ (callWith pos (.ref hh.objs.size) [] (backTo pos (starEach (e :: es) X.env)) []) _ _ _
      rw [hst]
      refine PySem.W.kxs_callWith (i := "ValueError.__init__") (u := hh.objs.size) (x := a) (first := []) (by show (false || (backTo pos (starEach es X.env)).any (·.1)) = false; rw [hpl]; rfl) ?_
      have hrun := thn (ha.run pos _ _ σ H _ I2 q) (Q' := fun us s3 => PySem.W.KxsAt "ValueError.__init__" hh.objs.size a s3.heap ∧ wpAny (model X.prog X.w) X.A (call (.ref hh.objs.size) us) (EP X pins σ Q) X.xe s3) fun us s3 ⟨vs, H1, I3, r, hl, e3, q3⟩ =>
        ⟨ClX.pin_at I3, call_mw M.ox I3 e3 (by rw [← r.length, sizeLine_eq]; omega) fun s4 I4 => ⟨.non, H1, I4, rfl, q3⟩⟩
      rw [hst] at hrun
      exact PySem.Calls.evalArgs_plain hrun
end
end Sw

set_option Elab.async false
set_option linter.all false
set_option maxRecDepth 100000
set_option maxHeartbeats 4000000
namespace Sw
open PySem PySem.Spec PyProof.Rows L2

/-! ### a def with super() as it stands behind the top -/
structure FunS (P : Program) (K : PySem.W.Frag) (x qual : Str) (st : Stmt) (f cc D cda : Addr) (fd : FuncData) : Prop where
  ex : ∃ (oc : Value) (od : Option Addr) (dV kV doc pm : Value) (an : Option Addr) (ct : Value) (osl : Array (Option Value)), fd = PySem.W.ksFn x qual (defArgs st) (defBody st) (defScope st) dV kV doc pm an (.ref cda) ct cc ∧ K.lookup f = some ⟨oc, od, .func fd, osl⟩
  cd : PySem.W.codeIn K (.ref cda) qual = true
  co : ∃ ccl cdd vs ccs file tf, K.lookup cda = some ⟨ccl, cdd, .fields vs, ccs⟩ ∧ vs[2]? = some (.str file tf) ∧ ((P.main.file : Str) == file) = true
  ce : ∃ cl cld csl, K.lookup cc = some ⟨cl, cld, .cell (some (.ref D)), csl⟩
  dc : ∃ cdD, PySem.W.clsIn K D = some cdD
  kp : PySem.W.keepIn K (.ref f) = true
/-- what the text and the top say of super -/
structure SupTop (P : Program) (mg : Str → Option Value) : Prop where
  su : mg "super" = none
  tp : (P.main.scope.names.lookup ("super" : Str)).isSome = false

section
variable {P : Program} {w : World} {K : PySem.W.Frag} {mg : Str → Option Value} {base : Heap}
theorem FunS.ok {x qual : Str} {st : Stmt} {f cc D cda : Addr} {fd : FuncData} {N ps : List Str} {k : Nat} {sp : Sp} (F : FunS P K x qual st f cc D cda fd) (S : SScope N ps (defScope st)) (U : SupTop P mg)
    (ks : (defScope st).names.lookup ("super" : Str) = some .globalImplicit) (kc : (defScope st).names.lookup ("__class__" : Str) = some .free)
    (hp : ∃ ar, ((defArgs st).posonlyargs ++ (defArgs st).args).head? = some ar ∧ N[0]? = some ar.arg ∧ (defScope st).names.lookup ar.arg = some .local)
    (len : ∀ vs H Q E, sp vs H Q E → vs.length = ps.length)
    (hbody : ∀ (A : Around) (outer : List Env) (s : Shared) (H : Hp) (vs : List V) (Q : VK) (E : XK), Room k (A.deeper (PySem.W.ksEnv qual (defScope st) s.heap.objs.size f (.ref cda) cc)) →
      SupT (cxS (L2.CX P w) P w K mg base N qual (defScope st) f (.ref cda) cc A outer s H E) f cda cc D → Takes (cxS (L2.CX P w) P w K mg base N qual (defScope st) f (.ref cda) cc A outer s H E) (fun cls d _ H => E cls d H) → sp vs H Q E →
      ∃ t, PSst (cxS (L2.CX P w) P w K mg base N qual (defScope st) f (.ref cda) cc A outer s H E) (defBody st) (defBody st) t ∧ t { nx := fun _ H' => Q .non H', rt := Q } (L2.start N vs) H) : FnOk P w K mg base (L2.CX P w) (k + 1) f fd ps sp := by
  obtain ⟨oc, od, dV, kV, doc, pm, an, ct, osl, rfl, lk⟩ := F.ex
  obtain ⟨cl, cld, csl, hcc⟩ := F.ce
  obtain ⟨ar, h1, h2, h3⟩ := hp
  exact fn_sup lk F.cd hcc S len fun A outer s H vs Q E hr hsp => hbody A outer s H vs Q E hr
    ⟨rfl, rfl, ⟨oc, od, _, osl, ar, lk, h1, h2, h3⟩, F.co, F.ce, by show List.lookup ("__class__" : Str) [(("__class__" : Str), cc)] = _; simp [List.lookup], F.dc, U.su, ks, kc, U.tp⟩ (takes_of rfl rfl rfl rfl) hsp
/-- a plain def: its takes and its frame's handing on at hand -/
theorem okT {x qual : Str} {st : Stmt} {f : Addr} {fd : FuncData} {N ps : List Str} {k : Nat} {sp : Sp} (F : Fun K x qual st f fd) (S : FnScope N ps (defScope st)) (len : ∀ vs H Q E, sp vs H Q E → vs.length = ps.length)
    (hbody : ∀ (cdv : Value) (A : Around) (outer : List Env) (s : Shared) (H : Hp) (vs : List V) (Q : VK) (E : XK), Room k (A.deeper (envOfC qual (defScope st) s.heap.objs.size f cdv)) →
      Takes (cxOf (L2.CX P w) P w K mg base N qual (defScope st) f cdv A outer s H E) (fun cls d _ H => E cls d H) →
      PassesOwn (model P w) (A.deeper (envOfC qual (defScope st) s.heap.objs.size f cdv)) (envOfC qual (defScope st) s.heap.objs.size f cdv) (cxOf (L2.CX P w) P w K mg base N qual (defScope st) f cdv A outer s H E).xe → sp vs H Q E →
      ∃ t, PSs (cxOf (L2.CX P w) P w K mg base N qual (defScope st) f cdv A outer s H E) (defBody st) t ∧ t { nx := fun _ H' => Q .non H', rt := Q } (L2.start N vs) H) : FnOk P w K mg base (L2.CX P w) (k + 1) f fd ps sp :=
  F.okX S len fun cdv A outer s H vs Q E hr h => hbody cdv A outer s H vs Q E hr (takes_of rfl rfl rfl rfl) (passes_of (X := cxOf (L2.CX P w) P w K mg base N qual (defScope st) f cdv A outer s H E) rfl) h

/-! ### the __init__ of an exception with one field -/
def spExc1 (C : Addr) (fld : Str) : Sp := fun vs H Q _ => ∃ a v, vs = [.ref a, v] ∧ H a = some (exo a C none) ∧ ∀ d, H d = none → d ≠ a → Q .non (upd (upd H d (exd d [(fld, v)])) a (exo a C (some d)))
theorem ok_exc1 {qual msg fld : Str} {st : Stmt} {f cc C cda : Addr} {fd : FuncData} {p0 p1 p2 p3 p4 p5 q1 q2 q3 q4 : Pos} {j : Nat} (F : FunS P K "__init__" qual st f cc C cda fd) (U : SupTop P mg) (M : SupE K C C) (hno : PySem.W.findIn K (.ref C) fld = some none)
    (S : SScope ["self", fld] ["self", fld] (defScope st))
    (ks : (defScope st).names.lookup ("super" : Str) = some .globalImplicit) (kc : (defScope st).names.lookup ("__class__" : Str) = some .free)
    (hp : ∃ ar, ((defArgs st).posonlyargs ++ (defArgs st).args).head? = some ar ∧ (["self", fld] : List Str)[0]? = some ar.arg ∧ (defScope st).names.lookup ar.arg = some .local)
    (hb : defBody st = [.Expr (.Call (.Attribute (.Call (.Name "super" p0) [] [] p1) "__init__" p2) [.Constant (.str msg) j p3] [] p4) p5, .Assign [.Attribute (.Name "self" q1) fld q2] (.Name fld q3) q4])
    (ht : ∀ env : Env, ∃ pl, eval (.Call (.Attribute (.Call (.Name "super" p0) [] [] p1) "__init__" p2) [.Constant (.str msg) j p3] [] p4) env = (do
      let ov ← attributeBase (.Call (.Name "super" p0) [] [] p1) "__init__" env (eval (.Call (.Name "super" p0) [] [] p1) env)
      standAt p2.atName
      let (f, first) ← holding [ov] (getMethod ov "__init__" pl)
      callWith p4 f first (backTo p4 (starEach [.Constant (.str msg) j p3] env)) (backToKw p4 (keywordEach [] env))))
    (hd : (fld == ("__debug__" : Str)) = false := by decide) (hcd : (fld == ("__classdict__" : Str)) = false := by decide) :
    FnOk P w K mg base (L2.CX P w) 1 f fd ["self", fld] (spExc1 C fld) := by
  refine F.ok S U ks kc hp (fun vs H Q E h => ?_) (fun A outer s H vs Q E hr T tk h => ?_)
  · obtain ⟨a, v, rfl, _⟩ := h
    rfl
  · obtain ⟨a, v, rfl, ha, q⟩ := h
    rw [hb]
    obtain ⟨pl, hte⟩ := ht (PySem.W.ksEnv qual (defScope st) s.heap.objs.size f (.ref cda) cc)
    refine ⟨_, PSst.cons (pst_expr (pet_supE (pl := pl) T M (pa_cons pe_str pa_nil) rfl rfl hte) rfl)
      (PSst.of (pss_one (ps_ost (pe_var (i := 0) rfl (.inl (S.par "self" (List.Mem.head _)))) (pe_var (i := 1) rfl (.inl (S.par fld (List.Mem.tail _ (List.Mem.head _)))) hd hcd) rfl))), ?_⟩
    refine ⟨a, rfl, ha, by show 1 ≤ 1000; decide, ha, v, rfl, .ref a, rfl, a, C, rfl, M.ox, hno, .inl ⟨ha, fun dx n ne => q dx n ne⟩⟩
end

/-! ### X(e), to be raised -/
structure Exc1 (P : Program) (w : World) (K : PySem.W.Frag) (mg : Str → Option Value) (base : Heap) (x : Str) (C : Addr) (fld : Str) : Prop where
  ox : OexC K C
  at_ : mg x = some (.ref C)
  ex : ∃ f, PySem.W.findIn K (.ref C) "__init__" = some (some (.ref f)) ∧ PySem.W.typeIn K (.ref f) = some (.type "function") ∧ Cal P w K mg base 1 f 2 [] (fun vs _ => spExc1 C fld vs)
/-- X(e): its class C, its dict new, the field in it -/
def tExc1 (C : Addr) (fld : Str) (ta : TA) : L2.St → Hp → XK → Prop := fun σ H Q => ta σ H fun vs H1 => ∃ v, vs = [v] ∧ ∀ d, H1 d = none → Q (.ref C) (some d) (upd H1 d (.xd [(fld, v)]))
section
variable {X : Cx} {x fld : Str} {C : Addr} {e : Expr} {p pos : Pos} {ta : TA}
theorem pmk_exc1 (T : Exc1 X.prog X.w X.K X.mg X.base x C fld) (hr : Room 2 X.A) (ha : PA X [e] ta) (hg : Gl X x := by rfl)
    (hdb : (x == ("__debug__" : Str)) = false := by decide) (he : starEach (e :: []) X.env = (false, eval e X.env) :: starEach [] X.env := by rfl) (hpl : (backTo pos (starEach [] X.env)).any (·.1) = false := by rfl) :
    PMk X (.Call (.Name x p) [e] [] pos) (tExc1 C fld ta) := by
  intro pins s σ H Q I h
  obtain ⟨nm, q, N, bs, bm, sn, sub, ab, col, dd, k0, k1, k2, k3, k5, hC, hbm⟩ := T.ox.cls
  obtain ⟨fI, iC, tI, F1⟩ := T.ex
  refine wpAny_Call_Name_kw (ld_glob I hg T.at_ ?_ hdb)
  refine PySem.W.callWith_K (h₀ := X.base) I.ok.mod.kin T.ox.kC (thn (ha.run pos pins s σ H _ I h) fun us s1 ⟨vs, H1, I1, r1, v, ev, q1⟩ => ⟨I1.kIn, ?_⟩) he hpl
  subst ev
  show wpAny _ _ (call (.ref C) us) _ _ _
  obtain ⟨hp, g, dr, tk, os⟩ := s1
  have hsz : hp.objs.size ≤ hp.objs.size + 1 := Nat.le_succ _
  have hn : H1 (hp.objs.size + 1) = none := I1.hok.fresh hsz
  have kk : ∀ b o, hp.get? b = some o → ((hp.push (PySem.W.kdv_tup us)).push (PySem.HandSPX.excO C hp.objs.size)).get? b = some o := fun b o e => Heap.get?_push_of_some _ (Heap.get?_push_of_some _ e)
  have hget : ((hp.push (PySem.W.kdv_tup us)).push (PySem.HandSPX.excO C hp.objs.size)).get? (hp.objs.size + 1) = some (PySem.HandSPX.excO C hp.objs.size) := by heap_get
  have I2 : Inv X pins σ (upd H1 (hp.objs.size + 1) (exo (hp.objs.size + 1) C none)) ⟨(hp.push (PySem.W.kdv_tup us)).push (PySem.HandSPX.excO C hp.objs.size), g, dr, tk, os⟩ :=
    I1.laid (t' := tk) (a := hp.objs.size + 1) (o := exo (hp.objs.size + 1) C none) (h' := (hp.push (PySem.W.kdv_tup us)).push (PySem.HandSPX.excO C hp.objs.size)) kk hsz (exo_ok hget)
  have r2 : Vals [V.ref (hp.objs.size + 1), v] (Value.ref (hp.objs.size + 1) :: us) := .cons rfl r1
  have hus : us.length ≤ sizeLine := by
    rw [← Paired.length r1, sizeLine_eq]
    show 1 ≤ 16777216
    decide
  have hq : spExc1 C fld [V.ref (hp.objs.size + 1), v] (upd H1 (hp.objs.size + 1) (exo (hp.objs.size + 1) C none))
      (fun u H2 => u = .non ∧ ∃ (d : Addr) (fs : List (Str × V)), H2 (hp.objs.size + 1) = some (exo (hp.objs.size + 1) C (some d)) ∧ H2 d = some (exd d fs) ∧ H1 d = none ∧ Q (.ref C) (some d) (upd (del H2 (hp.objs.size + 1)) d (.xd fs))) (fun _ _ _ => False) := by
    refine ⟨_, v, rfl, upd_same, fun d hd hne => ⟨rfl, d, _, upd_same, (upd_ne hne).trans upd_same, ?_, ?_⟩⟩
    · rw [upd_ne hne] at hd
      exact hd
    · have hd1 : H1 d = none := by
        rw [upd_ne hne] at hd
        exact hd
      have e : upd (del (upd (upd (upd H1 (hp.objs.size + 1) (exo (hp.objs.size + 1) C none)) d (exd d [(fld, v)])) (hp.objs.size + 1) (exo (hp.objs.size + 1) C (some d))) (hp.objs.size + 1)) d (.xd [(fld, v)]) = upd H1 d (.xd [(fld, v)]) := by
        funext b
        by_cases hb : b = d
        · rw [hb, upd_same, upd_same]
        · rw [upd_ne hb, upd_ne hb]
          by_cases ha : b = hp.objs.size + 1
          · rw [ha, del_same, hn]
          · rw [del_ne ha, upd_ne ha, upd_ne hb, upd_ne ha]
      rw [e]
      exact q1 d hd1
  refine wpAny_call (PySem.HandSPX.call_own F.excBase_ValueError (fun Y => PySem.HandSPX.refsVE_contains Y bm hbm) (I1.kIn _ _ hC) (PySem.W.looks_findIn I1.kIn iC) (fun self => PySem.W.bind_fn I1.kIn self tI) hus
    (codeAny_mono (F1 _ X.stack _ _ (Value.ref (hp.objs.size + 1) :: us) [] _ [] _ (fun _ _ _ => False) ((hr.mono (by decide : 2 ≤ 2)).make C us []) (I2.env0.make C us []) r2 .nil rfl rfl hq) fun r s' hq' => ?_))
  cases r with
  | error er => exact passL (X := X) pins σ _ _ er s' I2 hq'
  | ok fl =>
    cases fl with
    | ret u =>
      obtain ⟨v, H2, os2, bare2, un2, hok2, rv, ev, d, fs, ea, ed, hd1, q2⟩ := hq'
      subst ev
      obtain ⟨h2, g2, d2, t2, os'⟩ := s'
      exact ⟨rv, mk_end (raises_own T.ox.exC T.ox.tyC) I1 hsz kk un2 hok2 os2 bare2 ea ed hd1 q2⟩
    | next => exact False.elim hq'
    | brk => exact False.elim hq'
    | cont => exact False.elim hq'
end
end Sw

set_option Elab.async false
set_option linter.all false
set_option maxRecDepth 100000
set_option maxHeartbeats 4000000
namespace Sw
open PySem PySem.Spec PyProof.Rows L2

/-! ### worlds: what is known of the heap (G), and a resource that changes (R) -/
structure Res where
  L : List Addr
  S : Hp → Prop
  st : ∀ H H', S H → (∀ b ∈ L, H' b = H b) → S H'
  dm : ∀ H, S H → ∀ b ∈ L, H b ≠ none
structure Wd (G : Hp) (R : Res) (H : Hp) : Prop where
  sub : Same G H
  out : ∀ b ∈ R.L, G b = none
  res : R.S H
def R0 : Res := ⟨[], fun _ => True, fun _ _ _ _ => True.intro, fun _ _ b h => by cases h⟩
section
variable {G G' H H' : Hp} {R : Res} {p : Addr} {o o' : HO}
theorem Wd.get (w : Wd G R H) (h : G p = some o) : H p = some o := w.sub _ _ h
theorem Wd.free (w : Wd G R H) (h : H p = none) : G p = none := Same.free w.sub h
theorem Wd.notin (w : Wd G R H) (h : G p = some o) : p ∉ R.L := fun hp => by
  have := w.out p hp
  rw [h] at this
  cases this
theorem Wd.notin' (w : Wd G R H) (h : H p = none) : p ∉ R.L := fun hp => w.res |> fun r => R.dm H r p hp h
theorem Wd.same (w : Wd G R H) (e : Same H H') : Wd G R H' := ⟨Same.trans w.sub e, w.out, R.st _ _ w.res fun b hb => by
  cases q : H b with
  | none => exact absurd q (R.dm H w.res b hb)
  | some u => exact e b u q⟩
theorem Wd.new (w : Wd G R H) (h : H p = none) : Wd (upd G p o) R (upd H p o) := by
  refine ⟨fun b u e => ?_, fun b hb => ?_, R.st _ _ w.res fun b hb => ?_⟩
  · by_cases hb : b = p
    · subst hb; rw [upd_same] at e ⊢; exact e
    · rw [upd_ne hb] at e ⊢; exact w.sub _ _ e
  · rw [upd_ne (fun e => w.notin' h (by rw [← e]; exact hb))]
    exact w.out b hb
  · rw [upd_ne (fun e => w.notin' h (by rw [← e]; exact hb))]
theorem Wd.set (w : Wd G R H) (h : G p = some o) : Wd (upd G p o') R (upd H p o') := by
  refine ⟨fun b u e => ?_, fun b hb => ?_, R.st _ _ w.res fun b hb => ?_⟩
  · by_cases hb : b = p
    · subst hb; rw [upd_same] at e ⊢; exact e
    · rw [upd_ne hb] at e ⊢; exact w.sub _ _ e
  · rw [upd_ne (fun e => w.notin h (by rw [← e]; exact hb))]
    exact w.out b hb
  · rw [upd_ne (fun e => w.notin h (by rw [← e]; exact hb))]
/-- a new object that stands already -/
theorem Wd.add (w : Wd G R H) (e : Same H H') (h : H p = none) (h' : H' p = some o) : Wd (upd G p o) R H' := by
  have w' := w.same e
  refine ⟨fun b u e => ?_, fun b hb => ?_, w'.res⟩
  · by_cases hb : b = p
    · subst hb; rw [upd_same] at e; cases e; exact h'
    · rw [upd_ne hb] at e; exact w'.sub _ _ e
  · rw [upd_ne (fun e => w.notin' h (by rw [← e]; exact hb))]
    exact w.out b hb
theorem Wd.drop (w : Wd G R H) (e : Same G' G) : Wd G' R H := ⟨Same.trans e w.sub, fun b hb => Same.free e (w.out b hb), w.res⟩
theorem Same.newG (h : G p = none) : Same G (upd G p o) := fun b u e => by
  rw [upd_ne (ne_of_none e h)]
  exact e
theorem Wd.r0 (H : Hp) : Wd H R0 H := ⟨Same.refl H, fun b h => absurd h (by simp [R0]), True.intro⟩
theorem upd_old {a b : Addr} (h : G b = some o) (hn : G a = none) : upd G a o' b = some o := by
  rw [upd_ne (ne_of_none h hn)]
  exact h
theorem upd_oth {a b : Addr} (h : G b = some o) (hn : b ≠ a) : upd G a o' b = some o := by
  rw [upd_ne hn]
  exact h
theorem upd_nonne {a b : Addr} (h : upd G a o b = none) : G b = none ∧ b ≠ a := by
  have : b ≠ a := fun e => by
    subst e
    rw [upd_same] at h
    cases h
  rw [upd_ne this] at h
  exact ⟨h, this⟩
end

/-! ### one step of a reading -/
/-- a new object -/
def NewO (o : HO) (H : Hp) (Q : VK) : Prop := ∀ p, H p = none → Q (.ref p) (upd H p o)
section
variable {σ : L2.St} {H : Hp} {Q : VK} {K : PySem.W.Frag} {i : Nat} {v x y : V} {ta tb te tv to ti tk : TE} {t u c : TT} {D : Ends} {s1 s2 : TS} {g : TG} {tr tq : TA} {QA : List V → Hp → Prop} {QT : Bool → Hp → Prop}
theorem g_var (h : σ[i]? = some (some v)) (k : Q v H) : tVar i σ H Q := ⟨v, h, k⟩
theorem g_c (k : Q v H) : tC v σ H Q := k
theorem g_op {r : R2} (k : ta σ H fun x H1 => tb σ H1 fun y H2 => r x y H2 Q) : tOp r ta tb σ H Q := k
theorem g_un {r : V → Hp → VK → Prop} (k : ta σ H fun x H1 => r x H1 Q) : tUn r ta σ H Q := k
theorem g_I0 {f : Int → Int → V} {a b : Int} (k : Q (f a b) H) : rI0 f (.int a) (.int b) H Q := ⟨a, b, rfl, rfl, k⟩
theorem g_I {C : Int → Int → Prop} {f : Int → Int → V} {a b : Int} (hc : C a b) (k : Q (f a b) H) : rI C f (.int a) (.int b) H Q := ⟨a, b, rfl, rfl, hc, k⟩
theorem g_test {q : TE} (k : q σ H fun x H' => ∃ b, x = .bl b ∧ QT b H') : tTest q σ H QT := k
theorem g_B {q : TE} (k : q σ H fun x H' => ∃ b, x = .bl b ∧ QT b H') : tB q σ H QT := k
theorem g_bl {b : Bool} {P : Bool → Prop} (k : P b) : ∃ c, V.bl b = .bl c ∧ P c := ⟨b, rfl, k⟩
theorem g_and (k : t σ H fun b H1 => if b = true then u σ H1 QT else QT false H1) : tAnd t u σ H QT := k
theorem g_or (k : t σ H fun b H1 => if b = true then QT true H1 else u σ H1 QT) : tOr t u σ H QT := k
theorem g_not (k : t σ H fun b H1 => QT (!b) H1) : tNot t σ H QT := k
theorem g_if (k : c σ H fun b H1 => if b = true then ta σ H1 Q else tb σ H1 Q) : tIf c ta tb σ H Q := k
theorem g_nil (k : QA [] H) : tNil σ H QA := k
theorem g_cons (k : ta σ H fun x H1 => tr σ H1 fun xs H2 => QA (x :: xs) H2) : tCons ta tr σ H QA := k
theorem g_tup (k : tr σ H fun xs H1 => xs.length ≤ sizeLine ∧ NewO (.tup xs) H1 Q) : tTup tr σ H Q := k
theorem g_lst (k : tr σ H fun xs H1 => xs.length ≤ sizeLine ∧ NewO (.lst xs) H1 Q) : tLst tr σ H Q := k
theorem g_seq (k : s1 { D with nx := s2 D } σ H) : tSeq s1 s2 D σ H := k
theorem g_next (k : D.nx σ H) : tNext D σ H := k
theorem g_asg (k : te σ H fun x H1 => g x σ H1 D.nx) : tAsg te g D σ H := k
theorem g_name {P : L2.St → Hp → Prop} (k : P (σ.set i (some v)) H) : gName i v σ H P := k
theorem g_sub {ts : TSet} {P : L2.St → Hp → Prop} (k : to σ H fun o H1 => ti σ H1 fun i H2 => ts o i v H2 fun H3 => P σ H3) : gSub to ti ts v σ H P := k
theorem g_drop (k : te σ H fun _ H1 => D.nx σ H1) : tDrop te D σ H := k
theorem g_ret (k : te σ H D.rt) : tRet te D σ H := k
theorem g_retN (k : D.rt .non H) : tRetN D σ H := k
theorem g_ifS (k : c σ H fun b H1 => if b = true then s1 D σ H1 else s2 D σ H1) : tIfS c s1 s2 D σ H := k
theorem g_callB {r : List V → Hp → VK → Prop} (k : tr σ H fun vs H1 => r vs H1 Q) : tCB r tr σ H Q := k
theorem g_calG {n m : Nat} {sp : SpC} {W : WX} (k : tr σ H fun vs H1 => tq σ H1 fun zs H2 => vs.length = n ∧ zs.length = m ∧ sp vs zs H2 Q (WE W σ)) : tCalG n m sp W tr tq σ H Q := k
theorem g_mkG {n m : Nat} {C : Addr} {sp : SpC} {W : WX} (k : tr σ H fun vs H1 => tq σ H1 fun zs H2 => vs.length = n ∧ zs.length = m ∧ ∀ x dx, H2 x = none → H2 dx = none → dx ≠ x → sp (.ref x :: vs) zs (upd (upd H2 dx (.own x)) x (.ins C dx [])) (fun v H3 => v = .non ∧ Q (.ref x) H3) (WE W σ)) : tMkG C n m sp W tr tq σ H Q := k
theorem iteD {P A B : Prop} [Decidable P] (h1 : P → A) (h2 : ¬ P → B) : if decide P = true then A else B := by
  by_cases h : P
  · rw [decide_eq_true h]; exact iteT (h1 h)
  · rw [decide_eq_false h]; exact iteF (h2 h)
theorem iteN {P A B : Prop} [Decidable P] (h1 : ¬ P → A) (h2 : P → B) : if (!decide P) = true then A else B := by
  by_cases h : P
  · rw [decide_eq_true h]; exact iteF (h2 h)
  · rw [decide_eq_false h]; exact iteT (h1 h)
theorem iteB {b : Bool} {A B : Prop} (h1 : b = true → A) (h2 : b = false → B) : if b = true then A else B := by
  cases b
  · exact iteF (h2 rfl)
  · exact iteT (h1 rfl)
theorem iteNT {A B : Prop} (h : B) : if (!true) = true then A else B := iteF h
theorem iteNF {A B : Prop} (h : A) : if (!false) = true then A else B := iteT h
theorem iteBN {b : Bool} {A B : Prop} (h1 : b = false → A) (h2 : b = true → B) : if (!b) = true then A else B := by
  cases b
  · exact iteT (h1 rfl)
  · exact iteF (h2 rfl)
end
end Sw

set_option Elab.async false
set_option linter.all false
set_option maxRecDepth 100000
set_option maxHeartbeats 4000000
namespace Sw
open PySem PySem.Spec PyProof.Rows L2

/-! ### operators whatever the kinds -/
abbrev rAddI : R2 := rI0 fun i j => .int (i + j)
abbrev rAddS : R2 := fun x y H Q => ∃ i j, x = .str i ∧ y = .str j ∧ i.length + j.length ≤ sizeLine ∧ Q (.str (i ++ j)) H
def aAdd (K : PySem.W.Frag) : R2 := fun x y H Q => rAddI x y H Q ∨ (rAddS x y H Q ∨ (rCat x y H Q ∨ rCatA K x y H Q))
def aMul (K : PySem.W.Frag) : R2 := fun x y H Q => rI CMul (fun i j => .int (i * j)) x y H Q ∨ rRep x y H Q
/-- lists of flat values, item by item -/
def eqVs : List V → List V → Bool
  | [], [] => true
  | x :: xs, y :: ys => eqV x y && eqVs xs ys
  | [], _ :: _ => false
  | _ :: _, [] => false
theorem eqVs_len : ∀ {xs ys : List V}, xs.length ≠ ys.length → eqVs xs ys = false
  | [], [], h => absurd rfl h
  | [], _ :: _, _ => rfl
  | _ :: _, [], _ => rfl
  | x :: xs, y :: ys, h => by
    show (eqV x y && eqVs xs ys) = false
    rw [eqVs_len (xs := xs) (ys := ys) fun e => h (by rw [List.length_cons, List.length_cons, e]), Bool.and_false]
theorem eqVs_all : ∀ {xs ys : List V}, xs.length = ys.length → (List.range xs.length).all (fun j => eqV (xs.getD j .non) (ys.getD j .non)) = eqVs xs ys
  | [], [], _ => rfl
  | [], _ :: _, h => by cases h
  | _ :: _, [], h => by cases h
  | x :: xs, y :: ys, h => by
    rw [List.length_cons, List.range_succ_eq_map, List.all_cons, List.all_map]
    show (eqV x y && (List.range xs.length).all (fun j => eqV (xs.getD j .non) (ys.getD j .non))) = (eqV x y && eqVs xs ys)
    rw [eqVs_all (Nat.succ.inj h)]
def rEqF (K : PySem.W.Frag) : R2 := fun x y H Q => ∃ a b xs ys, x = .ref a ∧ y = .ref b ∧ SqL K H a xs ∧ SqL K H b ys ∧ xs.all flatV = true ∧ ys.all flatV = true ∧ Q (.bl (eqVs xs ys)) H
def rNeF (K : PySem.W.Frag) : R2 := fun x y H Q => ∃ a b xs ys, x = .ref a ∧ y = .ref b ∧ SqL K H a xs ∧ SqL K H b ys ∧ xs.all flatV = true ∧ ys.all flatV = true ∧ Q (.bl (!eqVs xs ys)) H
theorem flat_at {xs : List V} {us : List Value} (r : Vals xs us) (hf : xs.all flatV = true) {j : Nat} (h : j < us.toArray.size) : RelV (xs.getD j .non) us.toArray[j] ∧ flatV (xs.getD j .non) = true := by
  have hl := r.length
  have hj : j < us.length := by simpa using h
  have hx : xs[j]? = some xs[j] := List.getElem?_eq_getElem (by omega)
  have e : xs.getD j .non = xs[j] := by
    rw [List.getD_eq_getElem?_getD, hx]
    rfl
  rw [e]
  refine ⟨?_, List.all_eq_true.mp hf _ (List.getElem_mem _)⟩
  have := r.get hx
  obtain ⟨u, hu, ru⟩ := this
  rw [List.getElem?_eq_getElem hj] at hu
  cases hu
  simpa using ru
theorem op_eqF {X : Cx} (hu : X.A.units + 64 < cLine) : OpR X (compareOp .Eq) (rEqF X.K) := by
  intro pins s σ H x y v u Q I rx ry h
  obtain ⟨a, b, xs, ys, rfl, rfl, ha, hb, fa, fb, q⟩ := h
  cases rx
  cases ry
  obtain ⟨i1, r1, p1, z1⟩ := I.list ha
  obtain ⟨i2, r2, p2, z2⟩ := I.list hb
  have l1 := r1.length
  have l2 := r2.length
  by_cases hl : xs.length = ys.length
  · have := SeqAt.RcAt.lists (A := X.A) (e := fun j => eqV (xs.getD j .non) (ys.getD j .non)) p1.isList p2.isList (by simp; omega) (by omega) (fun j h1 h2 => by
      obtain ⟨a1, a2⟩ := flat_at r1 fa h1
      obtain ⟨b1, b2⟩ := flat_at r2 fb h2
      exact eqAt_V a1 b1 a2 b2) X.prog X.w
    refine this _ _ ?_
    rw [show i1.toArray.size = xs.length by simp; omega, eqVs_all hl]
    exact ⟨.bl _, H, I, rfl, q⟩
  · refine SeqAt.RcAt.lists_lengths (A := X.A) p1.isList p2.isList (by simp; omega) (by omega) X.prog X.w _ _ ?_
    rw [eqVs_len hl] at q
    exact ⟨.bl _, H, I, rfl, q⟩
theorem op_neF {X : Cx} (hu : X.A.units + 64 < cLine) : OpR X (compareOp .NotEq) (rNeF X.K) := by
  intro pins s σ H x y v u Q I rx ry h
  obtain ⟨a, b, xs, ys, rfl, rfl, ha, hb, fa, fb, q⟩ := h
  cases rx
  cases ry
  obtain ⟨i1, r1, p1, z1⟩ := I.list ha
  obtain ⟨i2, r2, p2, z2⟩ := I.list hb
  have l1 := r1.length
  have l2 := r2.length
  by_cases hl : xs.length = ys.length
  · have := SeqAt.RcNeAt.lists (A := X.A) (e := fun j => eqV (xs.getD j .non) (ys.getD j .non)) p1.isList p2.isList (by simp; omega) (by omega) (fun j h1 h2 => by
      obtain ⟨a1, a2⟩ := flat_at r1 fa h1
      obtain ⟨b1, b2⟩ := flat_at r2 fb h2
      exact eqAt_V a1 b1 a2 b2) X.prog X.w
    refine this _ _ ?_
    rw [show i1.toArray.size = xs.length by simp; omega, eqVs_all hl]
    exact ⟨.bl _, H, I, rfl, q⟩
  · refine SeqAt.RcNeAt.lists_lengths (A := X.A) p1.isList p2.isList (by simp; omega) (by omega) X.prog X.w _ _ ?_
    rw [eqVs_len hl] at q
    exact ⟨.bl _, H, I, rfl, q⟩
def aEq (K : PySem.W.Frag) : R2 := fun x y H Q => rEq x y H Q ∨ (rEqD K x y H Q ∨ rEqF K x y H Q)
def aNe (K : PySem.W.Frag) : R2 := fun x y H Q => rNe x y H Q ∨ (rNeD K x y H Q ∨ rNeF K x y H Q)
abbrev rInSg : R2 := fun x y H Q => ∃ (c : Nat) (z : Str), x = .str ⟨#[c]⟩ ∧ y = .str z ∧ Q (.bl (decide (c ∈ z.cps.toList))) H
abbrev rNiSg : R2 := fun x y H Q => ∃ (c : Nat) (z : Str), x = .str ⟨#[c]⟩ ∧ y = .str z ∧ Q (.bl (!decide (c ∈ z.cps.toList))) H
def aIn (K : PySem.W.Frag) : R2 := fun x y H Q => rIn K false x y H Q ∨ rInSg x y H Q
def aNi (K : PySem.W.Frag) : R2 := fun x y H Q => rIn K true x y H Q ∨ rNiSg x y H Q
def aSl (K : PySem.W.Frag) : V → Option Int → Option Int → Hp → VK → Prop := fun x lo hi H Q => rSlL K x lo hi H Q ∨ (rSlS x lo hi H Q ∨ rSlT K x lo hi H Q)
def aLen (K : PySem.W.Frag) : List V → Hp → VK → Prop := fun xs H Q => ∃ x n, xs = [x] ∧ LenV K x H n ∧ Q (.int n) H
section
variable {X : Cx}
theorem oa_add : OpR X (binaryOp .Add) (aAdd X.K) := op_add.or (op_add_str.or (op_cat.or op_catA))
theorem oa_mul : OpR X (binaryOp .Mult) (aMul X.K) := op_mul.or op_rep
theorem oa_eq (hu : X.A.units + 64 < cLine) : OpR X (compareOp .Eq) (aEq X.K) := op_eq.or ((op_eqD hu).or (op_eqF hu))
theorem oa_ne (hu : X.A.units + 64 < cLine) : OpR X (compareOp .NotEq) (aNe X.K) := op_ne.or ((op_neD hu).or (op_neF hu))
theorem oa_in : OpR X (compareOp .In) (aIn X.K) := op_in_seq.or op_in_sign
theorem oa_ni : OpR X (compareOp .NotIn) (aNi X.K) := op_notIn_seq.or op_notIn_sign
theorem sa : SlR X (aSl X.K) := sl_list.or (sl_str.or sl_tup)
theorem ca_len : CallR X (.builtin "len") (aLen X.K) := call_len
end

/-! ### their steps, in a world -/
section
variable {G H : Hp} {R : Res} {K : PySem.W.Frag} {Q : VK} {a b l p : Addr} {xs ys zs : List V} {i j : Int} {x y : Str}
theorem g_addI (k : Q (.int (i + j)) H) : aAdd K (.int i) (.int j) H Q := .inl ⟨i, j, rfl, rfl, k⟩
theorem g_addS (hz : x.length + y.length ≤ sizeLine) (k : Q (.str (x ++ y)) H) : aAdd K (.str x) (.str y) H Q := .inr (.inl ⟨x, y, rfl, rfl, hz, k⟩)
theorem g_addL (w : Wd G R H) (h1 : G a = some (.lst xs)) (h2 : G b = some (.lst ys)) (hz : xs.length + ys.length ≤ sizeLine) (k : ∀ p H', G p = none → Wd (upd G p (.lst (xs ++ ys))) R H' → Q (.ref p) H') : aAdd K (.ref a) (.ref b) H Q :=
  .inr (.inr (.inl ⟨a, b, xs, ys, rfl, rfl, w.get h1, w.get h2, hz, fun p hp => k p _ (w.free hp) (w.new hp)⟩))
theorem g_addT (w : Wd G R H) (h1 : SqT K G a xs) (h2 : SqT K G b ys) (n1 : xs ≠ []) (n2 : ys ≠ []) (hz : xs.length + ys.length ≤ sizeLine) (k : ∀ p H', G p = none → Wd (upd G p (.tup (xs ++ ys))) R H' → Q (.ref p) H') : aAdd K (.ref a) (.ref b) H Q :=
  .inr (.inr (.inr ⟨a, b, xs, ys, rfl, rfl, Evl.ex_t w.sub h1, Evl.ex_t w.sub h2, hz, fun e => absurd e n1, fun _ e => absurd e n2, fun _ _ p hp => k p _ (w.free hp) (w.new hp)⟩))
theorem g_mulI (hc : CMul i j) (k : Q (.int (i * j)) H) : aMul K (.int i) (.int j) H Q := .inl ⟨i, j, rfl, rfl, hc, k⟩
theorem g_mulL (w : Wd G R H) (h1 : G a = some (.lst xs)) (h : -(2 ^ 63) ≤ i) (h' : i < 2 ^ 63) (hz : xs.length * i.toNat ≤ sizeLine) (k : ∀ p H', G p = none → Wd (upd G p (.lst (List.replicate i.toNat xs).flatten)) R H' → Q (.ref p) H') : aMul K (.ref a) (.int i) H Q :=
  .inr ⟨a, i, xs, rfl, rfl, w.get h1, h, h', hz, fun p hp => k p _ (w.free hp) (w.new hp)⟩
theorem g_eqS {u v : V} (hs : scal u v = true) (k : Q (.bl (decide (u = v))) H) : aEq K u v H Q := .inl ⟨hs, k⟩
theorem g_neS {u v : V} (hs : scal u v = true) (k : Q (.bl (!decide (u = v))) H) : aNe K u v H Q := .inl ⟨hs, k⟩
theorem g_eqD {u v : V} {d e : PyData} (h1 : Dp K H u d) (h2 : Dp K H v e) (s1 : SeqAt.shaped d = true) (s2 : SeqAt.shaped e = true) (k : Q (.bl (PyData.eqv d e)) H) : aEq K u v H Q := .inr (.inl ⟨d, e, h1, h2, s1, s2, k⟩)
theorem g_neD {u v : V} {d e : PyData} (h1 : Dp K H u d) (h2 : Dp K H v e) (s1 : SeqAt.shaped d = true) (s2 : SeqAt.shaped e = true) (k : Q (.bl (!PyData.eqv d e)) H) : aNe K u v H Q := .inr (.inl ⟨d, e, h1, h2, s1, s2, k⟩)
theorem g_eqF (w : Wd G R H) (h1 : SqL K G a xs) (h2 : SqL K G b ys) (f1 : xs.all flatV = true) (f2 : ys.all flatV = true) (k : Q (.bl (eqVs xs ys)) H) : aEq K (.ref a) (.ref b) H Q := .inr (.inr ⟨a, b, xs, ys, rfl, rfl, Evl.ex_l w.sub h1, Evl.ex_l w.sub h2, f1, f2, k⟩)
theorem g_neF (w : Wd G R H) (h1 : SqL K G a xs) (h2 : SqL K G b ys) (f1 : xs.all flatV = true) (f2 : ys.all flatV = true) (k : Q (.bl (!eqVs xs ys)) H) : aNe K (.ref a) (.ref b) H Q := .inr (.inr ⟨a, b, xs, ys, rfl, rfl, Evl.ex_l w.sub h1, Evl.ex_l w.sub h2, f1, f2, k⟩)
theorem g_inL (w : Wd G R H) {u : V} (h : SqL K G p xs) (hx : flatV u = true) (ha : xs.all flatV = true) (k : Q (.bl (inV u xs)) H) : aIn K u (.ref p) H Q := .inl ⟨p, xs, rfl, .inl (Evl.ex_l w.sub h), hx, ha, k⟩
theorem g_inT (w : Wd G R H) {u : V} (h : SqT K G p xs) (hx : flatV u = true) (ha : xs.all flatV = true) (k : Q (.bl (inV u xs)) H) : aIn K u (.ref p) H Q := .inl ⟨p, xs, rfl, .inr (Evl.ex_t w.sub h), hx, ha, k⟩
theorem g_niL (w : Wd G R H) {u : V} (h : SqL K G p xs) (hx : flatV u = true) (ha : xs.all flatV = true) (k : Q (.bl (!inV u xs)) H) : aNi K u (.ref p) H Q := .inl ⟨p, xs, rfl, .inl (Evl.ex_l w.sub h), hx, ha, k⟩
theorem g_niT (w : Wd G R H) {u : V} (h : SqT K G p xs) (hx : flatV u = true) (ha : xs.all flatV = true) (k : Q (.bl (!inV u xs)) H) : aNi K u (.ref p) H Q := .inl ⟨p, xs, rfl, .inr (Evl.ex_t w.sub h), hx, ha, k⟩
theorem g_inSg {c : Nat} (k : Q (.bl (decide (c ∈ x.cps.toList))) H) : aIn K (.str ⟨#[c]⟩) (.str x) H Q := .inr ⟨c, x, rfl, rfl, k⟩
theorem g_niSg {c : Nat} (k : Q (.bl (!decide (c ∈ x.cps.toList))) H) : aNi K (.str ⟨#[c]⟩) (.str x) H Q := .inr ⟨c, x, rfl, rfl, k⟩
theorem g_ixL (w : Wd G R H) {v : V} (h : SqL K G p xs) (ha : atI xs i = some v) (k : Q v H) : rIx K (.ref p) (.int i) H Q := .inl ⟨p, xs, i, v, rfl, rfl, Evl.ex_l w.sub h, ha, k⟩
theorem g_ixT (w : Wd G R H) {v : V} (h : SqT K G p xs) (ha : atI xs i = some v) (k : Q v H) : rIx K (.ref p) (.int i) H Q := .inr (.inl ⟨p, xs, i, v, rfl, rfl, Evl.ex_t w.sub h, ha, k⟩)
theorem g_ixS {c : Nat} (hz : x.length ≤ sizeLine) (ha : atI x.cps.toList i = some c) (k : Q (.str ⟨#[c]⟩) H) : rIx K (.str x) (.int i) H Q := .inr (.inr ⟨x, i, c, rfl, rfl, hz, ha, k⟩)
theorem g_slL (w : Wd G R H) {lo hi : Option Int} (h : SqL K G a xs) (k : ∀ p H', G p = none → Wd (upd G p (.lst (cutV xs lo hi))) R H' → Q (.ref p) H') : aSl K (.ref a) lo hi H Q :=
  .inl ⟨a, xs, rfl, Evl.ex_l w.sub h, fun p hp => k p _ (w.free hp) (w.new hp)⟩
theorem g_slS {lo hi : Option Int} (hz : x.length ≤ sizeLine) (k : Q (.str (cutS x lo hi)) H) : aSl K (.str x) lo hi H Q := .inr (.inl ⟨x, rfl, hz, k⟩)
theorem g_slT (w : Wd G R H) {lo hi : Option Int} (h : SqT K G a xs) (hn : ¬ (HT.sIx xs.length 0 lo = 0 ∧ HT.sIx xs.length xs.length hi = xs.length)) (k : ∀ p H', G p = none → Wd (upd G p (.tup (cutV xs lo hi))) R H' → Q (.ref p) H') : aSl K (.ref a) lo hi H Q :=
  .inr (.inr ⟨a, xs, rfl, Evl.ex_t w.sub h, hn, fun p hp => k p _ (w.free hp) (w.new hp)⟩)
theorem g_lenS (hz : x.length ≤ sizeLine) (k : Q (.int x.length) H) : aLen K [.str x] H Q := ⟨.str x, _, rfl, ⟨hz, rfl⟩, k⟩
theorem g_lenL (w : Wd G R H) (h : SqL K G p xs) (k : Q (.int xs.length) H) : aLen K [.ref p] H Q := ⟨.ref p, _, rfl, .inl ⟨xs, Evl.ex_l w.sub h, rfl⟩, k⟩
theorem g_lenT (w : Wd G R H) (h : SqT K G p xs) (k : Q (.int xs.length) H) : aLen K [.ref p] H Q := ⟨.ref p, _, rfl, .inr ⟨xs, Evl.ex_t w.sub h, rfl⟩, k⟩
/-- a new object -/
theorem g_new (w : Wd G R H) {o : HO} (k : ∀ p H', G p = none → Wd (upd G p o) R H' → Q (.ref p) H') : NewO o H Q := fun p hp => k p _ (w.free hp) (w.new hp)
theorem g_newL (w : Wd G R H) {o : HO} {n : Nat} (hz : n ≤ sizeLine) (k : ∀ p H', G p = none → Wd (upd G p o) R H' → Q (.ref p) H') : n ≤ sizeLine ∧ NewO o H Q := ⟨hz, fun p hp => k p _ (w.free hp) (w.new hp)⟩
/-- lists changed -/
theorem g_app (w : Wd G R H) {v : V} (h : G l = some (.lst xs)) (hz : xs.length < sizeLine) (k : ∀ H', Wd (upd G l (.lst (xs ++ [v]))) R H' → Q .non H') : rAppend (.ref l) [v] H Q := ⟨l, xs, v, rfl, rfl, w.get h, hz, k _ (w.set h)⟩
theorem g_popAt (w : Wd G R H) {v : V} {k' : Nat} (h : G l = some (.lst xs)) (h1 : -(2 ^ 63) ≤ i) (h2 : i < 2 ^ 63) (h3 : seqIndex? i xs.length = some k') (h4 : xs[k']? = some v) (k : ∀ H', Wd (upd G l (.lst (xs.eraseIdx k'))) R H' → Q v H') : rPopAt (.ref l) [.int i] H Q :=
  ⟨l, xs, i, k', v, rfl, rfl, w.get h, h1, h2, h3, h4, k _ (w.set h)⟩
theorem g_setL (w : Wd G R H) {v : V} {j' : Nat} {P : Hp → Prop} (h : G l = some (.lst xs)) (hi : ixN xs.length i = some j') (k : ∀ H', Wd (upd G l (.lst (xs.set j' v))) R H' → P H') : rSetL (.ref l) (.int i) v H P := ⟨l, xs, i, j', rfl, rfl, w.get h, hi, k _ (w.set h)⟩
theorem g_tyL (w : Wd G R H) {P : Prop} (h : G l = some (.lst xs)) (k : P) : tyV K "list" (.ref l) H ∧ P := ⟨.inl ⟨rfl, _, SqL.of (w.get h)⟩, k⟩
end
/-! ### the rules with the written part named (within a comprehension's block the reading must not speak of the block) -/
section
variable {X : Cx} {a b e o : Expr} {es : List Expr} {rest : List Expr} {ta tb te to : TE} {t tr : TA} {pos apos : Pos} {f : Str} (K : PySem.W.Frag)
theorem ka_add (hK : X.K = K := by rfl) : OpR X (binaryOp .Add) (aAdd K) := by subst hK; exact oa_add
theorem ka_mul (hK : X.K = K := by rfl) : OpR X (binaryOp .Mult) (aMul K) := by subst hK; exact oa_mul
theorem ka_eq (hu : X.A.units + 64 < cLine) (hK : X.K = K := by rfl) : OpR X (compareOp .Eq) (aEq K) := by subst hK; exact oa_eq hu
theorem ka_ne (hu : X.A.units + 64 < cLine) (hK : X.K = K := by rfl) : OpR X (compareOp .NotEq) (aNe K) := by subst hK; exact oa_ne hu
theorem ka_in (hK : X.K = K := by rfl) : OpR X (compareOp .In) (aIn K) := by subst hK; exact oa_in
theorem ka_ni (hK : X.K = K := by rfl) : OpR X (compareOp .NotIn) (aNi K) := by subst hK; exact oa_ni
theorem ka_sl (hK : X.K = K := by rfl) : SlR X (aSl K) := by subst hK; exact sa
theorem ka_len (hK : X.K = K := by rfl) : CallR X (.builtin "len") (aLen K) := by subst hK; exact ca_len
theorem ka_ix (hK : X.K = K := by rfl) : IxR X (rIx K) := by subst hK; exact ix_seq
theorem ka_isi (hK : X.K = K := by rfl) : CallR X (.builtin "isinstance") (rIsi K) := by subst hK; exact call_isi
theorem ka_all (hc : X.calm = true) (hK : X.K = K := by rfl) : CallR X (.builtin "all") (rAll K) := by subst hK; exact cr_all hc
theorem ka_any (hc : X.calm = true) (hK : X.K = K := by rfl) : CallR X (.builtin "any") (rAny K) := by subst hK; exact cr_any hc
def rListOf (K : PySem.W.Frag) : List V → Hp → VK → Prop := fun xs H Q => ∃ p ys, xs = [.ref p] ∧ (SqL K H p ys ∨ SqT K H p ys) ∧ ∀ l, H l = none → Q (.ref l) (upd H l (.lst ys))
theorem ka_list (hK : X.K = K := by rfl) : CallR X (.type "list") (rListOf K) := by subst hK; exact call_list_of
def tTru (K : PySem.W.Frag) (ta : TE) : TT := fun σ H Q => ta σ H fun x H' => ∃ k, TruV K x H' k ∧ Q k H'
theorem kt_truth (ha : PE X a ta) (he : ∀ whole, isTrue a X.env whole = (do let v ← whole; standAt a.pos; holding [v] (truthy v))) (hK : X.K = K := by rfl) : PT X a (tTru K ta) := by subst hK; exact pt_truth ha he
theorem ke_fld (he : PE X e ta) (hb : attributeBase e f X.env (eval e X.env) = eval e X.env) (hK : X.K = K := by rfl) : PE X (.Attribute e f pos) (tFld K ta f) := by subst hK; exact pe_fld he hb
theorem ke_con (he : PE X e ta) (hb : attributeBase e f X.env (eval e X.env) = eval e X.env) (hK : X.K = K := by rfl) : PE X (.Attribute e f pos) (tCon K ta f) := by subst hK; exact pe_con he hb
theorem ke_orT (ha : PE X a ta) (hb : PE X (.BoolOp .Or (b :: rest) pos) tb) (hK : X.K = K := by rfl) : PE X (.BoolOp .Or (a :: b :: rest) pos) (tOrT K ta tb) := by subst hK; exact pe_orT ha hb
theorem ke_andT (ha : PE X a ta) (hb : PE X (.BoolOp .And (b :: rest) pos) tb) (hK : X.K = K := by rfl) : PE X (.BoolOp .And (a :: b :: rest) pos) (tAndT K ta tb) := by subst hK; exact pe_andT ha hb
def rJoin (K : PySem.W.Frag) : V → List V → Hp → VK → Prop := fun x xs H Q => ∃ a p, ∃ ys : List Str, x = .str a ∧ xs = [.ref p] ∧ (SqL K H p (ys.map V.str) ∨ SqT K H p (ys.map V.str)) ∧ (ys.map (·.length)).sum + ys.length * a.length ≤ 16777216 ∧ Q (.str (Txt.join a ys)) H
theorem ke_join (ho : PE X o to) (he : PE X e te) (hs : starEach [e] X.env = [(false, eval e X.env)] := by rfl) (hbase : attributeBase o "join" X.env (eval o X.env) = eval o X.env := by rfl) (hline : (apos.endLine == pos.line) = true := by rfl) (hK : X.K = K := by rfl) :
    PE X (.Call (.Attribute o "join" apos) [e] [] pos) (tM1 (rJoin K) to te) := by subst hK; exact pe_join ho he hs hbase hline
def rSplit : V → List V → Hp → VK → Prop := fun x xs H Q => ∃ a b, x = .str a ∧ xs = [.str b] ∧ (b.length == 0) = false ∧ a.length + 2 ≤ sizeLine ∧ rNewStrs (Txt.split a b) H Q
theorem ke_split (ho : PE X o to) (he : PE X e te) (hs : starEach [e] X.env = [(false, eval e X.env)] := by rfl) (hbase : attributeBase o "split" X.env (eval o X.env) = eval o X.env := by rfl) (hline : (apos.endLine == pos.line) = true := by rfl) :
    PE X (.Call (.Attribute o "split" apos) [e] [] pos) (tM1 rSplit to te) := pe_split ho he hs hbase hline
theorem ki_list {tg l : Expr} {tl : TE} (hl : PE X l tl) (hK : X.K = K := by rfl) : PI X tg l (iList K tl) := by subst hK; exact pi_list hl
theorem ki_tup {tg l : Expr} {tl : TE} (hl : PE X l tl) (hK : X.K = K := by rfl) : PI X tg l (iTup K tl) := by subst hK; exact pi_tup hl
end
section
variable {G H : Hp} {R : Res} {K : PySem.W.Frag} {Q : VK} {σ : L2.St} {t1 t2 : TE} {QT : Bool → Hp → Prop}
theorem g_tru (k : t1 σ H fun x H' => ∃ k, TruV K x H' k ∧ QT k H') : tTru K t1 σ H QT := k
theorem g_listL (w : Wd G R H) {p : Addr} {xs : List V} (h : SqL K G p xs) (k : ∀ l H', G l = none → Wd (upd G l (.lst xs)) R H' → Q (.ref l) H') : rListOf K [.ref p] H Q := ⟨p, xs, rfl, .inl (Evl.ex_l w.sub h), fun l hl => k l _ (w.free hl) (w.new hl)⟩
theorem g_listT (w : Wd G R H) {p : Addr} {xs : List V} (h : SqT K G p xs) (k : ∀ l H', G l = none → Wd (upd G l (.lst xs)) R H' → Q (.ref l) H') : rListOf K [.ref p] H Q := ⟨p, xs, rfl, .inr (Evl.ex_t w.sub h), fun l hl => k l _ (w.free hl) (w.new hl)⟩
theorem g_join (w : Wd G R H) {a : Str} {p : Addr} {ys : List Str} (h : SqL K G p (ys.map V.str)) (hz : (ys.map (·.length)).sum + ys.length * a.length ≤ 16777216) (k : Q (.str (Txt.join a ys)) H) : rJoin K (.str a) [.ref p] H Q := ⟨a, p, ys, rfl, rfl, .inl (Evl.ex_l w.sub h), hz, k⟩
theorem g_split (w : Wd G R H) {a b : Str} (h1 : (b.length == 0) = false) (h2 : a.length + 2 ≤ sizeLine) (k : ∀ p H', G p = none → Wd (upd G p (.lst ((Txt.split a b).map V.str))) R H' → Q (.ref p) H') : rSplit (.str a) [.str b] H Q := ⟨a, b, rfl, rfl, h1, h2, fun p hp => k p _ (w.free hp) (w.new hp)⟩
theorem g_strM {a : Str} {P : Prop} (k : P) : (∃ b, V.str a = .str b) ∧ P := ⟨⟨a, rfl⟩, k⟩
end
theorem pe_globE {X : Cx} {x : Str} {v : V} {pos : Pos} (hg : Gl X x) (h : ∃ u, X.mg x = some u ∧ RelV v u) (hd : (x == ("__debug__" : Str)) = false := by decide) : PE X (.Name x pos) (tC v) := by
  obtain ⟨u, hm, r⟩ := h
  exact pe_glob hg hm r hd
end Sw

set_option Elab.async false
set_option linter.all false
set_option maxRecDepth 100000
set_option maxHeartbeats 4000000
namespace Sw
open PySem PySem.Spec PyProof.Rows L2

/-! ### what is walked: n turns -/
structure Itf (J : It) (n : Nat) (I : Hp → Prop) (Y : Nat → V → Hp → Hp → Prop) : Prop where
  go : ∀ i H, i < n → I H → J.go i H
  stop : ∀ H, I H → J.stop n H
  yld : ∀ i H x H', i < n → I H → J.yld i H x H' → Y i x H H'
theorem itf_list {K : PySem.W.Frag} {a : Addr} {xs : List V} : Itf (Itl K a) xs.length (fun H => SqL K H a xs) (fun i x H H' => H' = H ∧ xs[i]? = some x) where
  go := fun i H hi h => ⟨xs, xs[i], h, List.getElem?_eq_getElem hi⟩
  stop := fun H h => ⟨xs, h, Nat.le_refl _⟩
  yld := fun i H x H' hi h y => ⟨y.1, y.2 xs h⟩
theorem itf_tup {K : PySem.W.Frag} {a : Addr} {xs : List V} : Itf (Itt K a) xs.length (fun H => SqT K H a xs) (fun i x H H' => H' = H ∧ xs[i]? = some x) where
  go := fun i H hi h => ⟨xs, xs[i], h, List.getElem?_eq_getElem hi⟩
  stop := fun H h => ⟨xs, h, Nat.le_refl _⟩
  yld := fun i H x H' hi h y => ⟨y.1, y.2 xs h⟩
theorem itf_range {lo : Int} {n : Nat} : Itf (Itr lo n) n (fun _ => True) (fun i x H H' => H' = H ∧ x = .int (lo + i)) where
  go := fun i H hi h => hi
  stop := fun H h => Nat.le_refl _
  yld := fun i H x H' hi h y => y
theorem itf_str {z : Str} : Itf (Its z) z.cps.size (fun _ => True) (fun i x H H' => H' = H ∧ ∃ c, z.cps[i]? = some c ∧ x = .str ⟨#[c]⟩) where
  go := fun i H hi h => hi
  stop := fun H h => Nat.le_refl _
  yld := fun i H x H' hi h y => y
theorem itf_enum {K : PySem.W.Frag} {a : Addr} {xs : List V} : Itf (Ite K a) xs.length (fun H => SqL K H a xs) (fun i v H H' => ∃ T x, v = .ref T ∧ H T = none ∧ H' = upd H T (.tup [.int (i : Nat), x]) ∧ xs[i]? = some x) where
  go := fun i H hi h => ⟨xs, xs[i], h, List.getElem?_eq_getElem hi⟩
  stop := fun H h => ⟨xs, h, Nat.le_refl _⟩
  yld := fun i H x H' hi h y => by
    obtain ⟨T, u, e1, e2, e3, e4⟩ := y
    exact ⟨T, u, e1, e2, e3, e4 xs h⟩

def ForW (J : It) (g : TG) (tb : TS) (D : Ends) (σ : L2.St) (H1 : Hp) : Prop := ∃ W : Nat → Nat → L2.St → Hp → Prop, (∃ m, W 0 m σ H1) ∧ ∀ i m σ H, W i m σ H →
  (J.stop i H ∧ D.nx σ H) ∨ (J.go i H ∧ ∃ N : L2.St → Hp → Prop, (∀ σ' H', N σ' H' → ∃ m', m' < m ∧ W (i + 1) m' σ' H') ∧ ∀ x H', J.yld i H x H' → g x σ H' fun σ2 H2 => tb { D with nx := N, ct := N, bk := D.nx } σ2 H2)
theorem for_it {J : It} {n : Nat} {I : Hp → Prop} {Y : Nat → V → Hp → Hp → Prop} (F : Itf J n I Y) {g : TG} {tb : TS} {D : Ends} {σ : L2.St} {H : Hp} (Pv : Nat → L2.St → Hp → Prop) (h0 : Pv 0 σ H) (hI : ∀ i σ H, i ≤ n → Pv i σ H → I H)
    (hs : ∀ i x σ H H', i < n → Pv i σ H → Y i x H H' → g x σ H' fun σ2 H2 => tb { D with nx := Pv (i + 1), ct := Pv (i + 1), bk := D.nx } σ2 H2) (hd : ∀ σ H, Pv n σ H → D.nx σ H) : ForW J g tb D σ H := by
  refine ⟨fun i m σ H => m = n - i ∧ i ≤ n ∧ Pv i σ H, ⟨n, by simp, Nat.zero_le _, h0⟩, ?_⟩
  rintro i m σ H ⟨rfl, hi, p⟩
  have q := hI i σ H hi p
  by_cases hlt : i < n
  · refine .inr ⟨F.go i H hlt q, Pv (i + 1), fun σ' H' p' => ⟨n - (i + 1), by omega, rfl, by omega, p'⟩, fun x H' y => hs i x σ H H' hlt p (F.yld i H x H' hlt q y)⟩
  · have e : i = n := by omega
    subst e
    exact .inl ⟨F.stop H q, hd σ H p⟩

def LcW (J : It) (g : TG) (tt : TT) (te : TE) (vs : List Nat) (σ : L2.St) (Q : VK) (H1 : Hp) : Prop := ∀ D, H1 D = none → ∃ W : Nat → Nat → Hp → Prop, (∃ m, W 0 m (upd H1 D (.lst []))) ∧ ∀ i m H, W i m H →
  (J.stop i H ∧ Q (.ref D) H) ∨ (J.go i H ∧ ∃ Nx : Hp → Prop, (∀ H', Nx H' → ∃ m', m' < m ∧ W (i + 1) m' H') ∧ ∀ x H', J.yld i H x H' → g x (wipe σ vs) H' fun σ2 H2 => wipe σ2 vs = wipe σ vs ∧ tt σ2 H2 fun b H3 =>
    if b = true then te σ2 H3 fun y H4 => ∃ acc, H4 D = some (.lst acc) ∧ acc.length < sizeLine ∧ Nx (upd H4 D (.lst (acc ++ [y]))) else Nx H3)
/-- the readings' ends must be let through: Mono of the parts -/
theorem lc_it {J : It} {n : Nat} {I : Hp → Prop} {Y : Nat → V → Hp → Hp → Prop} (F : Itf J n I Y) {G H1 : Hp} {R : Res} {g : TG} {tt : TT} {te : TE} {vs : List Nat} {σ : L2.St} {Q : VK} (w : Wd G R H1) (hI : ∀ H, Same G H → I H) (hz : n ≤ sizeLine)
    (Pv : Nat → Hp → List V → Prop) (h0 : Pv 0 G [])
    (hs : ∀ i x Gi acc D H H', i < n → Same G Gi → Gi D = none → Pv i Gi acc → acc.length ≤ i → Wd (upd Gi D (.lst acc)) R H → Y i x H H' → g x (wipe σ vs) H' fun σ2 H2 => wipe σ2 vs = wipe σ vs ∧ tt σ2 H2 fun b H3 =>
      if b = true then te σ2 H3 fun y H4 => ∃ acc', H4 D = some (.lst acc') ∧ acc'.length < sizeLine ∧ ((fun H5 => ∃ G4 acc4, Same G G4 ∧ G4 D = none ∧ Pv (i + 1) G4 acc4 ∧ acc4.length ≤ i + 1 ∧ Wd (upd G4 D (.lst acc4)) R H5) (upd H4 D (.lst (acc' ++ [y]))))
      else (fun H5 => ∃ G4 acc4, Same G G4 ∧ G4 D = none ∧ Pv (i + 1) G4 acc4 ∧ acc4.length ≤ i + 1 ∧ Wd (upd G4 D (.lst acc4)) R H5) H3)
    (hd : ∀ D Gn acc H, Same G Gn → Gn D = none → Pv n Gn acc → acc.length ≤ n → Wd (upd Gn D (.lst acc)) R H → Q (.ref D) H) : LcW J g tt te vs σ Q H1 := by
  intro D hD
  refine ⟨fun i m H => m = n - i ∧ i ≤ n ∧ ∃ Gi acc, Same G Gi ∧ Gi D = none ∧ Pv i Gi acc ∧ acc.length ≤ i ∧ Wd (upd Gi D (.lst acc)) R H, ⟨n, by simp, Nat.zero_le _, G, [], Same.refl G, w.free hD, h0, Nat.le_refl _, w.new hD⟩, ?_⟩
  rintro i m H ⟨rfl, hi, Gi, acc, e, nD, p, hl, wi⟩
  have sG : Same G H := Same.trans (Same.trans e (Same.newG nD)) wi.sub
  have q := hI H sG
  by_cases hlt : i < n
  · refine .inr ⟨F.go i H hlt q, fun H5 => ∃ G4 acc4, Same G G4 ∧ G4 D = none ∧ Pv (i + 1) G4 acc4 ∧ acc4.length ≤ i + 1 ∧ Wd (upd G4 D (.lst acc4)) R H5, fun H' p' => ⟨n - (i + 1), by omega, rfl, by omega, p'⟩, fun x H' y => ?_⟩
    exact hs i x Gi acc D H H' hlt e nD p hl wi (F.yld i H x H' hlt q y)
  · have ei : i = n := by omega
    subst ei
    exact .inl ⟨F.stop H q, hd D Gi acc H e nD p hl wi⟩
/-- the turn's end: an item kept -/
theorem lc_keep {G G4 H4 : Hp} {R : Res} {D : Addr} {acc : List V} {y : V} {i n : Nat} {Pv : Nat → Hp → List V → Prop} (w : Wd (upd G4 D (.lst acc)) R H4) (e : Same G G4) (nD : G4 D = none) (hl : acc.length ≤ i) (hi : i < n) (hz : n ≤ sizeLine) (p : Pv (i + 1) G4 (acc ++ [y])) :
    ∃ acc', H4 D = some (.lst acc') ∧ acc'.length < sizeLine ∧ ((fun H5 => ∃ G4 acc4, Same G G4 ∧ G4 D = none ∧ Pv (i + 1) G4 acc4 ∧ acc4.length ≤ i + 1 ∧ Wd (upd G4 D (.lst acc4)) R H5) (upd H4 D (.lst (acc' ++ [y])))) := by
  refine ⟨acc, w.get upd_same, by omega, G4, acc ++ [y], e, nD, p, by rw [List.length_append, List.length_singleton]; omega, ?_⟩
  have := w.set (o' := .lst (acc ++ [y])) upd_same
  rw [upd_upd] at this
  exact this
theorem lc_drop {G G4 H3 : Hp} {R : Res} {D : Addr} {acc : List V} {i : Nat} {Pv : Nat → Hp → List V → Prop} (w : Wd (upd G4 D (.lst acc)) R H3) (e : Same G G4) (nD : G4 D = none) (hl : acc.length ≤ i) (p : Pv (i + 1) G4 acc) :
    (fun H5 => ∃ G4 acc4, Same G G4 ∧ G4 D = none ∧ Pv (i + 1) G4 acc4 ∧ acc4.length ≤ i + 1 ∧ Wd (upd G4 D (.lst acc4)) R H5) H3 := ⟨G4, acc, e, nD, p, by omega, w⟩
theorem upd_comm {G : Hp} {p q : Addr} {o u : HO} (h : q ≠ p) : upd (upd G p o) q u = upd (upd G q u) p o := by
  funext b
  by_cases h1 : b = q
  · subst h1; rw [upd_same, upd_ne h, upd_same]
  · rw [upd_ne h1]
    by_cases h2 : b = p
    · subst h2; rw [upd_same, upd_same]
    · rw [upd_ne h2, upd_ne h2, upd_ne h1]

/-! ### steps -/
section
variable {σ : L2.St} {H : Hp} {Q : VK} {K : PySem.W.Frag} {D : Ends} {tl : TE} {ta : TA} {g : TG} {tb : TS} {tt : TT} {te : TE} {vs : List Nat} {z : Str} {a : Addr} {n lo : Int}
theorem g_forL (k : tl σ H fun x H1 => ∃ a, x = .ref a ∧ (∃ xs, SqL K H1 a xs) ∧ ForW (Itl K a) g tb D σ H1) : tFor (iList K tl) g tb D σ H := k
theorem g_forT (k : tl σ H fun x H1 => ∃ a, x = .ref a ∧ (∃ xs, SqT K H1 a xs) ∧ ForW (Itt K a) g tb D σ H1) : tFor (iTup K tl) g tb D σ H := k
theorem g_forR (k : ta σ H fun vs H1 => ∃ j : Int, vs = [.int j] ∧ -(2 ^ 62) ≤ j ∧ j < 2 ^ 62 ∧ ForW (Itr 0 j.toNat) g tb D σ H1) : tFor (iRng1 ta) g tb D σ H := k
theorem g_forR2 (k : ta σ H fun vs H1 => ∃ i j : Int, vs = [.int i, .int j] ∧ (-(2 ^ 62) ≤ i ∧ i < 2 ^ 62 ∧ -(2 ^ 62) ≤ j ∧ j < 2 ^ 62) ∧ ForW (Itr i (j - i).toNat) g tb D σ H1) : tFor (iRng2 ta) g tb D σ H := k
theorem g_forS (k : tl σ H fun v H1 => ∃ x, v = .str x ∧ ForW (Its x) g tb D σ H1) : tFor (iStr tl) g tb D σ H := k
theorem g_forE (k : ta σ H fun vs H1 => ∃ a xs, vs = [.ref a] ∧ SqL K H1 a xs ∧ ForW (Ite K a) g tb D σ H1) : tFor (iEnum K ta) g tb D σ H := k
theorem g_lcL (k : tl σ H fun x H1 => ∃ a, x = .ref a ∧ (∃ xs, SqL K H1 a xs) ∧ LcW (Itl K a) g tt te vs σ Q H1) : tLc (iList K tl) g tt te vs σ H Q := k
theorem g_lcT (k : tl σ H fun x H1 => ∃ a, x = .ref a ∧ (∃ xs, SqT K H1 a xs) ∧ LcW (Itt K a) g tt te vs σ Q H1) : tLc (iTup K tl) g tt te vs σ H Q := k
theorem g_lcR (k : ta σ H fun us H1 => ∃ j : Int, us = [.int j] ∧ -(2 ^ 62) ≤ j ∧ j < 2 ^ 62 ∧ LcW (Itr 0 j.toNat) g tt te vs σ Q H1) : tLc (iRng1 ta) g tt te vs σ H Q := k
theorem g_lcS (k : tl σ H fun v H1 => ∃ x, v = .str x ∧ LcW (Its x) g tt te vs σ Q H1) : tLc (iStr tl) g tt te vs σ H Q := k
theorem g_lcE (k : ta σ H fun us H1 => ∃ a xs, us = [.ref a] ∧ SqL K H1 a xs ∧ LcW (Ite K a) g tt te vs σ Q H1) : tLc (iEnum K ta) g tt te vs σ H Q := k
theorem g_orT {t1 t2 : TE} (k : t1 σ H fun x H1 => ∃ b, TruV K x H1 b ∧ if b = true then Q x H1 else t2 σ H1 Q) : tOrT K t1 t2 σ H Q := k
theorem g_slc {r : V → Option Int → Option Int → Hp → VK → Prop} {t1 : TE} {tlo thi : TO} (k : t1 σ H fun x H1 => tlo σ H1 fun l H2 => thi σ H2 fun u H3 => r x l u H3 Q) : L2.tSl r t1 tlo thi σ H Q := k
theorem g_noPart {P : Option Int → Hp → Prop} (k : P none H) : tNoPart σ H P := k
theorem g_part {t1 : TE} {P : Option Int → Hp → Prop} (k : t1 σ H fun x H1 => ∃ i, x = .int i ∧ P (some i) H1) : tPart t1 σ H P := k
theorem g_bm {T : String} {r : V → List V → Hp → VK → Prop} {t1 : TE} {tr : TA} (k : t1 σ H fun x H1 => tyV K T x H1 ∧ tr σ H1 fun xs H2 => r x xs H2 Q) : tBM K T r t1 tr σ H Q := k
theorem g_par {i j : Nat} {tr : TA} (k : tr σ H fun vs H1 => ∃ v w, vs = [v, w] ∧ D.nx ((σ.set i (some v)).set j (some w)) H1) : tPar i j tr D σ H := k
theorem g_yes {P : Bool → Hp → Prop} (k : P true H) : tYes σ H P := k
theorem g_tupG {m : Nat} {v : V} {t : TGs} {P : L2.St → Hp → Prop} (k : ∃ a xs, v = .ref a ∧ SqT K H a xs ∧ xs.length = m ∧ t xs σ H P) : gTup K m t v σ H P := k
theorem g_gcons {t : TG} {u : TGs} {v : V} {r : List V} {P : L2.St → Hp → Prop} (k : t v σ H fun σ' H' => u r σ' H' P) : gCons t u (v :: r) σ H P := ⟨v, r, rfl, k⟩
theorem g_gnil {P : L2.St → Hp → Prop} (k : P σ H) : gNil [] σ H P := ⟨rfl, k⟩
theorem g_chain {r r' : R2} {t1 t2 t3 : TE} (k : t1 σ H fun x H1 => t2 σ H1 fun y H2 => r x y H2 fun z H3 => ∃ k, z = .bl k ∧ (if k = true then t3 σ H3 fun w' H4 => r' y w' H4 Q else Q (.bl false) H3)) : tChain r r' t1 t2 t3 σ H Q := k
theorem g_truB {b : Bool} {P : Bool → Prop} (k : P b) : ∃ c, TruV K (.bl b) H c ∧ P c := ⟨b, rfl, k⟩
theorem g_truN {P : Bool → Prop} (k : P false) : ∃ c, TruV K .non H c ∧ P c := ⟨false, rfl, k⟩
theorem g_truI {i : Int} {P : Bool → Prop} (k : P (i != 0)) : ∃ c, TruV K (.int i) H c ∧ P c := ⟨_, rfl, k⟩
theorem g_truS {y : Str} {P : Bool → Prop} (hz : y.length ≤ sizeLine) (k : P ((y.length : Int) != 0)) : ∃ c, TruV K (.str y) H c ∧ P c := ⟨_, ⟨hz, rfl⟩, k⟩
theorem g_truL {G : Hp} {R : Res} {xs : List V} {P : Bool → Prop} (w : Wd G R H) (h : SqL K G a xs) (k : P (!xs.isEmpty)) : ∃ c, TruV K (.ref a) H c ∧ P c := ⟨_, .inl ⟨xs, Evl.ex_l w.sub h, rfl⟩, k⟩
theorem g_truT {G : Hp} {R : Res} {xs : List V} {P : Bool → Prop} (w : Wd G R H) (h : SqT K G a xs) (k : P (!xs.isEmpty)) : ∃ c, TruV K (.ref a) H c ∧ P c := ⟨_, .inr (.inl ⟨xs, Evl.ex_t w.sub h, rfl⟩), k⟩
theorem g_isi {x c : V} {t u : Value} {b : Bool} (hc : ClsV c u) (ht : TyX K H x t) (hk : PySem.W.kitOne K t u = some b) (k : Q (.bl b) H) : rIsi K [x, c] H Q := ⟨x, c, t, u, b, rfl, hc, ht, hk, k⟩
theorem g_isN {x : V} (k : Q (.bl (decide (x = .non))) H) : (fun x y H Q => y = V.non ∧ Q (.bl (decide (x = .non))) H : R2) x .non H Q := ⟨rfl, k⟩
theorem g_isnN {x : V} (k : Q (.bl (!decide (x = .non))) H) : (fun x y H Q => y = V.non ∧ Q (.bl (!decide (x = .non))) H : R2) x .non H Q := ⟨rfl, k⟩
theorem g_all {G : Hp} {R : Res} {bs : List Bool} (w : Wd G R H) (h : SqL K G a (bs.map V.bl)) (k : Q (.bl (bs.all id)) H) : rAll K [.ref a] H Q := ⟨a, bs, rfl, Evl.ex_l w.sub h, k⟩
theorem g_m1 {r : V → List V → Hp → VK → Prop} {t1 t2 : TE} (k : t1 σ H fun x H1 => (∃ a, x = .str a) ∧ t2 σ H1 fun y H2 => r x [y] H2 Q) : tM1 r t1 t2 σ H Q := k
theorem g_fld {t1 : TE} {f : Str} (k : t1 σ H fun x H1 => ∃ a C dx fs v, x = .ref a ∧ H1 a = some (.ins C dx fs) ∧ Cls K C ∧ NoAttr K C f ∧ fs.lookup f = some v ∧ Q v H1) : tFld K t1 f σ H Q := k
theorem g_con {t1 : TE} {f : Str} (k : t1 σ H fun x H1 => ∃ a C dx fs v u, x = .ref a ∧ H1 a = some (.ins C dx fs) ∧ Cls K C ∧ Con K C f v u ∧ fs.lookup f = none ∧ Q v H1) : tCon K t1 f σ H Q := k
/-- a list comprehension of values: each item gives one or is left out, no new object is kept -/
def FmStep (f : V → Option V) (x : V) (g : TG) (tt : TT) (te : TE) (vs : List Nat) (σ : L2.St) (G' : Hp) (R : Res) (H : Hp) : Prop :=
  g x (wipe σ vs) H fun σ2 H2 => wipe σ2 vs = wipe σ vs ∧ tt σ2 H2 fun b H3 => if b = true then te σ2 H3 fun y H4 => f x = some y ∧ Wd G' R H4 else f x = none ∧ Wd G' R H3
theorem filterMap_take {f : V → Option V} {xs : List V} {i : Nat} {x : V} (h : xs[i]? = some x) : (xs.take (i + 1)).filterMap f = (xs.take i).filterMap f ++ (match f x with | some y => [y] | none => []) := by
  rw [List.take_succ, h, List.filterMap_append]
  congr 1
  simp only [Option.toList_some, List.filterMap_cons, List.filterMap_nil]
  cases f x <;> rfl
end
/-- readings that pass on what is wanted (all of ours do) -/
def MonG (g : TG) : Prop := ∀ (v : V) (σ : L2.St) (H : Hp) (P P' : L2.St → Hp → Prop), (∀ σ H, P σ H → P' σ H) → g v σ H P → g v σ H P'
def MonT (t : TT) : Prop := ∀ (σ : L2.St) (H : Hp) (P P' : Bool → Hp → Prop), (∀ b H, P b H → P' b H) → t σ H P → t σ H P'
def MonE (t : TE) : Prop := ∀ (σ : L2.St) (H : Hp) (P P' : VK), (∀ v H, P v H → P' v H) → t σ H P → t σ H P'
end Sw

set_option Elab.async false
set_option linter.all false
set_option maxRecDepth 100000
set_option maxHeartbeats 4000000
namespace Sw
open PySem PySem.Spec PyProof.Rows L2

/-! ### a, b, *c = e, e a list -/
section
variable {X : Cx} {pos : Pos}
theorem pgs_star {e : Expr} {es : List Expr} {t : TG} {u : TGs} {p : Pos} (h1 : PG X e t) (h2 : PGs X es u) (hs : (assignEach (.Starred e p :: es) X.env).map (·.2) = assign e X.env :: (assignEach es X.env).map (·.2) := by rfl) : PGs X (.Starred e p :: es) (gCons t u) := by
  refine ⟨fun pins s σ H vs us Q I r h => ?_⟩
  obtain ⟨v, vr, e1, h⟩ := h
  subst e1
  cases r with
  | cons r rr =>
    rw [hs]
    refine assignInOrder_cons (thn (h1.run pins s σ H _ _ _ I r h) fun _ s1 ⟨σ1, H1, I1, q1⟩ => ?_)
    exact h2.run pins s1 σ1 H1 _ _ Q I1 rr q1
/-- the list's items: the first i, a new list of the middle ones, the last ones (n targets) -/
def gStarL (K : PySem.W.Frag) (n i : Nat) (t : TGs) : TG := fun v σ H Q => ∃ a xs, v = .ref a ∧ SqL K H a xs ∧ n ≤ xs.length + 1 ∧ xs.length ≤ 16384 ∧ ∀ p, H p = none → t (xs.take i ++ [.ref p] ++ (xs.drop i).drop (xs.length + 1 - n)) σ (upd H p (.lst ((xs.drop i).take (xs.length + 1 - n)))) Q
theorem vals_take {vs : List V} {us : List Value} (h : Vals vs us) : ∀ n, Vals (vs.take n) (us.take n) := by
  induction h with
  | nil => intro n; simp only [List.take_nil]; exact .nil
  | cons r _ ih =>
    intro n
    cases n with
    | zero => exact .nil
    | succ n => exact .cons r (ih n)
theorem vals_drop {vs : List V} {us : List Value} (h : Vals vs us) : ∀ n, Vals (vs.drop n) (us.drop n) := by
  induction h with
  | nil => intro n; simp only [List.drop_nil]; exact .nil
  | cons r h ih =>
    intro n
    cases n with
    | zero => exact .cons r h
    | succ n => exact ih n
theorem pg_starL {es : List Expr} {k : Nat} {t : TGs} {n i : Nat} (hc : X.calm = true) (h : PGs X es t) (hi : i < n)
    (hn : (assignEach es X.env).length = n := by rfl) (hst : (assignEach es X.env).findIdx? (·.1) = some i := by rfl) : PG X (.Tuple es k pos) (gStarL X.K n i t) := by
  refine ⟨fun pins s σ H v u Q I r hw => ?_⟩
  obtain ⟨a, xs, e1, hq, hl, hm, hw⟩ := hw
  subst e1
  cases r
  obtain ⟨its, rv, pl, hz⟩ := I.list hq
  have hlen : its.length = xs.length := rv.length.symm
  rw [PyProof.Rows.assign_Tuple]
  refine wpAny_bind (wpAny_standAt ?_)
  unfold unpack
  rw [hn, hst]
  have hl0 := pl.isList
  have hlt : a ≠ s.heap.objs.size := by obtain ⟨o, ho, _⟩ := hl0; exact Nat.ne_of_lt (Heap.lt_size ho)
  refine wpAny_bind (wpAny_holding ?_)
  have hsz : its.toArray.size = its.length := by simp
  unfold unpackItems
  refine wpAny_bind ?_
  unfold notIterableAtAll
  refine wpAny_bind (wpAny_specialOf hl0.typeIs PySem.F.slot_list_iter.lookup ?_)
  refine wpAny_pure ?_
  simp only [Bool.false_eq_true, if_false]
  refine wpAny_bind (wpAny_holding (wpAny_pyIter_list hl0 ?_))
  refine wpAny_bind (wpAny_holding (PySem.W.kun_draw hlt i 0 _ _ ⟨_, Heap.get?_push_size _ rfl, rfl, rfl⟩ (hl0.push _) (by rw [hsz]; omega) fun h₁ hit₁ hs₁ => ?_))
  have hl₁ : h₁.IsList a its.toArray := (hl0.push _).extBut hs₁.extBut hlt
  rw [Nat.zero_add] at hit₁
  have hit₁' := hit₁
  obtain ⟨oi, hoi, _⟩ := hit₁'
  have hl₁' := hl₁
  obtain ⟨ol, hol, _⟩ := hl₁'
  rw [List.drop_zero]
  have hfl : (its.toArray.toList.take i).length = i := by rw [List.length_take, Array.length_toList]; omega
  rw [if_neg (show ¬ ((its.toArray.toList.take i).length < i) by rw [hfl]; omega)]
  refine wpAny_bind (wpAny_holding (PySem.W.kun_collect (s := { s with heap := h₁ }) (T := "list_iterator") (.inr (.inr (.inl rfl))) (Walks.list (A := X.A.in1) (I.ok.hd hc) s.heap.objs.size a hlt its.toArray) (fun j u st => st.1.typeIs) (k := i) (by omega) ⟨hit₁, hl₁⟩ (Heap.lt_size hoi) (Heap.lt_size hol) (fun h₂ tk hk => ?_) (by rw [sizeLine_eq, hsz]; omega)))
  have hrl : (its.toArray.toList.drop i).length = its.length - i := by rw [List.length_drop, Array.length_toList, hsz]
  have hmid : (its.toArray.toList.drop i).length - (n - 1 - i) = xs.length + 1 - n := by rw [hrl]; omega
  show wpAny _ _ (if (its.toArray.toList.drop i).length < n - 1 - i then _ else _) _ _ _
  rw [if_neg (by rw [hrl]; omega)]
  show wpAny _ _ (newList ((its.toArray.toList.drop i).take ((its.toArray.toList.drop i).length - (n - 1 - i))) >>= fun d => pure (its.toArray.toList.take i ++ [d] ++ (its.toArray.toList.drop i).drop ((its.toArray.toList.drop i).length - (n - 1 - i)))) _ _ _
  rw [hmid]
  have hto : its.toArray.toList = its := by simp
  rw [hto]
  have I2 : Inv X pins σ H { s with heap := h₂, toks := tk } := I.kept (t' := tk) fun b o e => hk b o (Nat.ne_of_lt (Heap.lt_size e)) (hs₁.extBut b o (Nat.ne_of_lt (Heap.lt_size e)) (Heap.get?_push_of_some _ e))
  have rmid : Vals ((xs.drop i).take (xs.length + 1 - n)) ((its.drop i).take (xs.length + 1 - n)) := vals_take (vals_drop rv i) _
  have zmid : ((its.drop i).take (xs.length + 1 - n)).length ≤ sizeLine := by rw [List.length_take, List.length_drop, sizeLine_eq]; omega
  refine wpAny_bind (wpAny_newList (s := { s with heap := h₂, toks := tk }) (wpAny_pure ?_) zmid)
  have hf : H h₂.objs.size = none := I2.hok.fresh (Nat.le_refl _)
  have I3 : Inv X pins σ (upd H h₂.objs.size (.lst ((xs.drop i).take (xs.length + 1 - n)))) ⟨h₂.push { cls := .type "list", data := .seq ((its.drop i).take (xs.length + 1 - n)).toArray }, s.gens, s.drawn, tk, s.os⟩ :=
    Inv.laid (s := { s with heap := h₂, toks := tk }) (t' := tk) I2 (fun b u e => Heap.get?_push_of_some _ e) (Nat.le_refl _) ⟨by rw [List.length_take, List.length_drop, sizeLine_eq]; omega, _, 0, rmid, Heap.get?_push_size _ rfl⟩
  exact h.run pins _ σ _ _ _ Q I3 (((vals_take rv i).append (show Vals [V.ref h₂.objs.size] [Value.ref h₂.objs.size] from .cons rfl .nil)).append (vals_drop (vals_drop rv i) _)) (hw _ hf)
theorem kg_starL {es : List Expr} {k : Nat} {t : TGs} {n i : Nat} (K : PySem.W.Frag) (hc : X.calm = true) (h : PGs X es t) (hi : i < n) (hK : X.K = K := by rfl)
    (hn : (assignEach es X.env).length = n := by rfl) (hst : (assignEach es X.env).findIdx? (·.1) = some i := by rfl) : PG X (.Tuple es k pos) (gStarL K n i t) := by subst hK; exact pg_starL hc h hi hn hst
end

theorem kg_tup {X : Cx} {pos : Pos} {es : List Expr} {k : Nat} {t : TGs} {n : Nat} (K : PySem.W.Frag) (hc : X.calm = true) (h : PGs X es t) (hK : X.K = K := by rfl)
    (hn : (assignEach es X.env).length = n := by rfl) (hst : (assignEach es X.env).findIdx? (·.1) = none := by rfl) : PG X (.Tuple es k pos) (gTup K n t) := by subst hK; exact pg_tup hc h hn hst

/-! ### except (A, B): -/
theorem flyingZ_keeps {B : Heap} {l : List Env} {e : Addr} {Z : Obj → Prop} {h h' : Heap} (R : HandSPX.FlyingZ B l e Z h) (k : ∀ b o, h.get? b = some o → h'.get? b = some o) : HandSPX.FlyingZ B l e Z h' := by
  obtain ⟨f1, f2, f3, oe, ws, T, oT, ts, he, hc, hd, h1, hn, hne, hT, hdT, h3⟩ := R
  exact ⟨fun b o q => k b o (f1 b o q), f2, f3.of_keeps fun b o q _ => ⟨o, k b o q, rfl⟩, oe, ws, T, oT, ts, k _ _ he, hc, hd, h1, hn, hne, k _ _ hT, hdT, h3⟩
def wTwo (K : PySem.W.Frag) (c1 c2 : Value) (ts : Addr → Value → Option Addr → TS) (Wout : WX) (D : Ends) : WX := fun cls d σ H =>
  ∃ b, PySem.W.exmAny K cls [c1, c2] = some b ∧ (b = true → ∀ a, H a = none → ts a cls d D σ H) ∧ (b = false → Wout cls d σ H)
section
variable {X : Cx} {x y : Str} {c c' : Value} {body suite : List Stmt} {b₀ : Stmt} {np np' tp pos pos' : Pos} {kx : Nat} {tb : WX → TS} {ts : Addr → Value → Option Addr → TS} {Wout : WX}
theorem ps_try_two (hs : X.stack = X.env :: X.outer) (hf : X.env.frame = some X.env.locals) (hc : Names X x c) (hc' : Names X y c') (tk : Takes X Wout)
    (hb : ∀ (W : WX) (pn : List (Addr × Obj)) (xe : Value → Shared → Prop), Takes (X.tr pn xe) W → PassesOwn (model X.prog X.w) X.A X.env xe → PSs (X.tr pn xe) body (tb W))
    (hsu : ∀ (a : Addr) (oe : Obj) (cls : Value) (d : Option Addr) (pn : List (Addr × Obj)), Zc cls d oe → (∃ vs, oe.data = .fields vs) → PSs (X.suite a ((a, oe) :: pn)) (b₀ :: suite) (ts a cls d)) :
    PS X (.Try body [.ExceptHandler (some (.Tuple [.Name x np, .Name y np'] kx tp)) none (b₀ :: suite) pos'] [] [] pos) (fun D σ H => tb (wTwo X.K c c' ts Wout D) D σ H) := by
  refine ⟨fun pins s σ H D I h => ?_⟩
  have ok := I.ok
  have hfr : X.A.frames = some (X.env :: X.outer) := by rw [ok.frames, hs]
  refine wpAny_Try_except ?_
  refine wpAny_mono ((hb (wTwo X.K c c' ts Wout D) (X.pn ++ pins) (fun e s₁ => wpAny (model X.prog X.w) X.A (noteFrame e X.env) (fun _ s₂ => wpAny (model X.prog X.w) X.A (setFlight e none) (fun _ s₃ =>
    wpAny (model X.prog X.w) X.A (handleBy e X.env [.ExceptHandler (some (.Tuple [.Name x np, .Name y np'] kx tp)) none (b₀ :: suite) pos']) (SP X pins D) X.xe s₃) X.xe s₂) X.xe s₁) (fun u s' xx => ?_) PassesOwn.looking).run [] s σ H D (I.toTry _) h) (fun f s1 hsp => ?_) (fun e s1 he => he)
  · obtain ⟨a, B, sI, pins', σ', H', cls, d, rfl, J', nb, up, sky, na, os, ag, b, hb1, hyes, hno⟩ := xx
    have J : Inv X pins σ' H' sI := J'.ofTry ok
    have sky' : Sky B (X.env :: X.outer) a (Zc cls d) X.env.locals s'.heap := by rw [← hs]; exact sky
    show wpAny (model X.prog X.w) X.A (noteFrame (.ref a) X.env) _ _ _
    refine Sky.land Zc.steady hfr hf sky' fun h3 fl3 up3 => ?_
    have J3 : Inv X pins σ' H' { s' with heap := h3 } := J.landed nb fl3.1 (up.trans up3) os ag
    obtain ⟨oe3, vs3, he3, hz3, hd3⟩ := fl3.there
    have notFr : ∀ {h : Heap} {o : Obj} {vs : Array Value}, h.FunFrames B (X.env :: X.outer) → h.get? a = some o → o.data = .fields vs → a ∉ frs (X.env :: X.outer) := fun {h o vs} ff e dd hm => by
      obtain ⟨_, o', e', hnf⟩ := ff.mem hm
      rw [e] at e'; cases e'
      exact hnf _ dd
    have nfr := notFr fl3.2.2.1 he3 hd3
    have nL : a ≠ X.env.locals := fun z => nfr (List.mem_filterMap.mpr ⟨X.env, List.mem_cons_self, by rw [hf, z]⟩)
    have nF : a ∉ X.fs := fun hm => by
      obtain ⟨e, he, q⟩ := List.mem_filterMap.mp hm
      exact nfr (List.mem_filterMap.mpr ⟨e, List.mem_cons_of_mem _ he, q⟩)
    have S3 := J3.suite he3 hd3 na nL nF
    refine wpAny_handleBy_cons (codeAny_handlers_test ?_) (by intro q; cases q)
    have test : ∀ {x : Str} {c : Value} {np : Pos} {Q : Value → Shared → Prop} {E : Value → Shared → Prop}, Names X x c → Q c { s' with heap := h3 } → wpAny (model X.prog X.w) (X.A.mark (some (.ref a))) (eval (.Name x np) X.env) Q E { s' with heap := h3 } := fun {x c np Q E} hc q => by
      obtain ⟨hg, hdbg, hm | ⟨hm, hv, hnn⟩⟩ := hc
      · exact ld_glob (X := X.suite a ((a, oe3) :: (X.pn ++ pins))) S3 hg hm q hdbg
      · exact ld_blt (X := X.suite a ((a, oe3) :: (X.pn ++ pins))) S3 hg hm hv q hnn hdbg
    have e1 : starEach [.Name x np, .Name y np'] X.env = (false, eval (.Name x np) X.env) :: starEach [.Name y np'] X.env := rfl
    have e2 : starEach [.Name y np'] X.env = (false, eval (.Name y np') X.env) :: starEach [] X.env := rfl
    refine wpAny_Tuple_spliced (args_cons (test hc (args_cons (test hc' (args_nil ⟨by rw [sizeLine_eq]; show 2 ≤ 16777216; decide, ?_⟩)) e2)) e1)
    have k3 : ∀ b o, h3.get? b = some o → (h3.push ({ cls := .type "tuple", data := .seq [c, c'].toArray } : Obj)).get? b = some o := fun b o e => Heap.get?_push_of_some _ e
    have hp : (h3.push ({ cls := .type "tuple", data := .seq [c, c'].toArray } : Obj)).get? h3.objs.size = some ({ cls := .type "tuple", data := .seq [c, c'].toArray } : Obj) := Heap.get?_push_size _ rfl
    have fl3' := flyingZ_keeps fl3 k3
    have up3' := up3.trans (Heap.UpToSlots.of_keeps k3)
    have J3' : Inv X pins σ' H' { s' with heap := h3.push ({ cls := .type "tuple", data := .seq [c, c'].toArray } : Obj) } := J.landed nb fl3'.1 (up.trans up3') os ag
    show wpAny _ _ (excMatches (.ref a) (.ref h3.objs.size)) _ _ { s' with heap := h3.push ({ cls := .type "tuple", data := .seq [c, c'].toArray } : Obj) }
    generalize h3.push ({ cls := .type "tuple", data := .seq [c, c'].toArray } : Obj) = h5 at *
    have LT : PySem.W.Looks (model X.prog X.w) h5 (typeOf (.ref a)) cls := fun A Q E s k q => wpAny_typeOf_ref (k _ _ (k3 _ _ he3)) (by rw [hz3.1]; exact q)
    have LM := PySem.W.exm_tup2 (M := model X.prog X.w) (J3'.kIn) LT hp hb1
    refine LM.here ?_
    cases b with
    | true =>
      refine codeAny_handlers_suite ?_
      refine HandSPX.lands_againZ fl3' fun h4 fl4 up4 => ?_
      have J4 : Inv X pins σ' H' { s' with heap := h4 } := J.landed nb fl4.1 ((up.trans up3').trans up4) os ag
      obtain ⟨oe4, vs4, he4, hz4, hd4⟩ := fl4.there
      have S4 := J4.suite he4 hd4 na nL nF
      refine wpAny_mono ((hsu a oe4 cls d (X.pn ++ pins) hz4 ⟨_, hd4⟩).run [] _ _ H' _ S4 (hyes rfl a na)) (fun f s6 hsp => ?_) (fun _ _ z => False.elim z)
      cases f with
      | next =>
        obtain ⟨σ6, H6, S6, q6⟩ := hsp
        exact ⟨_, _, S6.unsuite ok, q6⟩
      | brk =>
        obtain ⟨σ6, H6, S6, q6⟩ := hsp
        exact ⟨_, _, S6.unsuite ok, q6⟩
      | cont =>
        obtain ⟨σ6, H6, S6, q6⟩ := hsp
        exact ⟨_, _, S6.unsuite ok, q6⟩
      | ret u =>
        obtain ⟨v6, σ6, H6, S6, r6, q6⟩ := hsp
        exact ⟨_, _, _, S6.unsuite ok, r6, q6⟩
    | false =>
      show wpAny _ X.A (handleBy (.ref a) X.env []) _ _ _
      refine wpAny_handleBy_nil ?_
      obtain ⟨k1, k2, k4, oe, vs, T, oT, ts', he, hz, hd, h1, hr⟩ := id fl3'
      unfold PySem.passOn
      refine wpAny_bind (wpAny_field he hd h1 ?_)
      rw [if_neg (show ¬ ((Value.ref T == Value.none) = true) from by simp)]
      have fin : wpAny (model X.prog X.w) X.A (setFlight (.ref a) X.env.frame) (fun _ s4 => wpAny (model X.prog X.w) X.A (throw (.ref a) : Sem Flow) (SP X pins D) X.xe s4) X.xe { s' with heap := h5 } := by
        rw [hf]
        refine HandSPX.setFlight_upZ fl3' fun h4 hh4 up4 => wpAny_throw (tk _ _ ?_)
        exact ⟨a, B, sI, pins, σ', H', cls, d, rfl, J, nb, (up.trans up3').trans up4, .inr (.inr (by rw [hs]; exact hh4)), na, os, ag, hno rfl⟩
      first
        | exact wpAny_bind (wpAny_pure (wpAny_bind fin))
        | exact wpAny_bind fin
  · cases f with
    | next =>
      obtain ⟨σ', H', J', q⟩ := hsp
      exact wpAny_execs_nil ⟨σ', H', J'.ofTry ok, q⟩
    | brk =>
      obtain ⟨σ', H', J', q⟩ := hsp
      exact ⟨σ', H', J'.ofTry ok, q⟩
    | cont =>
      obtain ⟨σ', H', J', q⟩ := hsp
      exact ⟨σ', H', J'.ofTry ok, q⟩
    | ret u =>
      obtain ⟨v, σ', H', J', r, q⟩ := hsp
      exact ⟨v, σ', H', J'.ofTry ok, r, q⟩
end

/-! ### C.m(..), m a staticmethod -/
structure CStat (K : PySem.W.Frag) (C : Addr) (mc : Value) (m : Str) (p g : Addr) : Prop where
  at_ : PySem.W.findCls K (.ref C) mc m = some (.get (.builtin "staticmethod.__get__") (.ref p) .none (.ref C))
  rc : ∃ rest, PySem.W.recIn K p "staticmethod" = some (.ref g :: rest)
  fi : PySem.W.keepIn K (.ref g) = true
/-- a static method of the class whose global name is x -/
structure GSt (P : Program) (w : World) (K : PySem.W.Frag) (mg : Str → Option Value) (base : Heap) (k : Nat) (x : Str) (m : Str) (n : Nat) (ks : List Str) (sp : SpC) : Prop where
  ex : ∃ C mc p g, mg x = some (.ref C) ∧ ClX.CRead K C mc ∧ CStat K C mc m p g ∧ Cal P w K mg base k g n ks sp
section
variable {X : Cx} {k n : Nat} {ks : List Str} {sp : SpC} {W : WX} {x m : Str} {np pos apos : Pos} {e : Expr} {es : List Expr} {kws : List Keyword} {t tk : TA} {pl : Sem Bool}
theorem pe_static (G : GSt X.prog X.w X.K X.mg X.base k x m n ks sp) (hr : Room k X.A) (tw : Takes X W) (ha : PA X (e :: es) t) (hkw : PK X kws tk) (hg : Gl X x := by rfl)
    (hall : (backToKw pos (keywordEach kws X.env)).all (·.1.isSome) = true := by rfl) (hks : (backToKw pos (keywordEach kws X.env)).filterMap (·.1) = ks := by rfl) (hdb : (x == ("__debug__" : Str)) = false := by decide)
    (hst : starEach (e :: es) X.env = (false, eval e X.env) :: starEach es X.env := by rfl) (hpl : ((backTo pos (starEach (e :: es) X.env)).any (·.1) || (backToKw pos (keywordEach kws X.env)).any (·.1.isNone)) = false := by rfl)
    (ht : eval (.Call (.Attribute (.Name x np) m apos) (e :: es) kws pos) X.env = (do
      let ov ← eval (.Name x np) X.env
      standAt apos.atName
      let (f, first) ← holding [ov] (getMethod ov m pl)
      callWith pos f first (backTo pos (starEach (e :: es) X.env)) (backToKw pos (keywordEach kws X.env))) := by rfl) :
    PE X (.Call (.Attribute (.Name x np) m apos) (e :: es) kws pos) (tCalG n ks.length sp W t tk) := by
  refine ⟨fun pins s σ H Q I h => ?_⟩
  obtain ⟨C, mc, p, g, hm, r, c, F⟩ := G.ex
  obtain ⟨rest, hp⟩ := c.rc
  refine PySem.W.methodCall_KW (pl := pl) (ld_glob I hg hm ?_ hdb) ht
  refine PySem.W.method_cls I.kIn r.ga (PySem.W.cls_bind I.kIn r.rd c.at_ (wpAny_call (PySem.W.sm_get (s := { s with toks := s.toks + 1 }) I.kIn hp (PySem.W.handed_on (s := { s with toks := s.toks + 1 }) rfl ?_))))
  have I2 := I.tok (s.toks + 1)
  refine PySem.W.callWith_KW (h₀ := X.base) I.ok.mod.kin c.fi hall (thn (ha.run pos pins _ σ H _ I2 h) fun us s2 ⟨vs, H2, I2, r, q⟩ => ?_) hpl hst
  refine thn (hkw.run pos pins s2 σ H2 _ I2 q) fun ws s3 ⟨zs, H3, I3, rz, l1, l2, q3⟩ => ⟨I3.kIn, ?_⟩
  rw [hks]
  exact wpAny_call (run_cal F hr tw I3 r rz l1 l2 q3)
end

/-! ### target = e, e with super() -/
section
variable {X : Cx} {body : List Stmt} {pos : Pos}
theorem pst_asg {tg e : Expr} {te : TE} {g : TG} (he : PEt X body e te) (hg : PG X tg g) (hs : swapsWithSole [tg] e pos.line X.env = pure false := by rfl) (hw : swappedStores [tg] e X.env = pure none := by rfl)
    (h1 : (assignEach [tg] X.env).map (·.2) = [assign tg X.env] := by rfl) : PSt X body (.Assign [tg] e pos) (tAsg te g) := by
  refine ⟨fun pins s σ H D I h => ?_⟩
  rw [exec_Assign_arm]
  refine PySem.wpAt_bind (wpAt_of_wpAny (wpAny_standAt ?_))
  rw [hs]
  refine PySem.wpAt_bind (wpAt_of_wpAny (wpAny_pure ?_))
  rw [if_neg (by decide)]
  refine PySem.wpAt_bind (ks_wpAt_mono (he.run pins s σ H _ I h) (fun v s1 ⟨x, H1, I1, r1, q1⟩ => ?_) fun _ _ x => x)
  rw [hw]
  refine wpAt_of_wpAny (wpAny_bind (wpAny_pure ?_))
  show wpAny _ _ (do assignAll v ((assignEach [tg] X.env).map (·.2)); pure Flow.next) _ _ _
  refine wpAny_bind ?_
  rw [h1]
  exact thn (hg.run pins s1 σ H1 x v _ I1 r1 q1) fun _ s2 q => wpAny_pure q
end

/-! ### o.f = e; steps -/
section
variable {G H : Hp} {R : Res} {K : PySem.W.Frag} {f : Str} {v : V} {a C dx : Addr} {fs : List (Str × V)}
/-- the end of o.f = e -/
theorem g_sf {P : Hp → Prop} (w : Wd G R H) (h : G a = some (.ins C dx fs)) (hc : Cls K C) (hn : NoAttr K C f) (hl : fs.length < 1000) (k : ∀ H', Wd (upd G a (.ins C dx (putF f v fs))) R H' → P H') :
    ∃ a' C' dx' fs', V.ref a = .ref a' ∧ H a' = some (.ins C' dx' fs') ∧ Cls K C' ∧ NoAttr K C' f ∧ fs'.length < 1000 ∧ P (upd H a' (.ins C' dx' (putF f v fs'))) :=
  ⟨a, C, dx, fs, rfl, w.get h, hc, hn, hl, k _ (w.set h)⟩
/-- the end of o.f -/
theorem g_gf {P : V → Prop} (w : Wd G R H) (h : G a = some (.ins C dx fs)) (hc : Cls K C) (hn : NoAttr K C f) (hf : fs.lookup f = some v) (k : P v) :
    ∃ a' C' dx' fs' v', V.ref a = .ref a' ∧ H a' = some (.ins C' dx' fs') ∧ Cls K C' ∧ NoAttr K C' f ∧ fs'.lookup f = some v' ∧ P v' := ⟨a, C, dx, fs, v, rfl, w.get h, hc, hn, hf, k⟩
/-- the end of o.f, a constant of its class -/
theorem g_gc {P : V → Prop} {u : Value} (w : Wd G R H) (h : G a = some (.ins C dx fs)) (hc : Cls K C) (hn : Con K C f v u) (hf : fs.lookup f = none) (k : P v) :
    ∃ a' C' dx' fs' v' u', V.ref a = .ref a' ∧ H a' = some (.ins C' dx' fs') ∧ Cls K C' ∧ Con K C' f v' u' ∧ fs'.lookup f = none ∧ P v' := ⟨a, C, dx, fs, v, u, rfl, w.get h, hc, hn, hf, k⟩
end
def rInt1 : List V → Hp → VK → Prop := fun xs H Q => (∃ i, xs = [.int i] ∧ Q (.int i) H) ∨ ∃ k, xs = [.bl k] ∧ Q (.int (if k = true then 1 else 0)) H
theorem ka_int {X : Cx} : CallR X (.type "int") rInt1 := call_int1
theorem g_intB {H : Hp} {Q : VK} {b : Bool} (k : Q (.int (if b = true then 1 else 0)) H) : rInt1 [.bl b] H Q := .inr ⟨b, rfl, k⟩
theorem g_intI {H : Hp} {Q : VK} {i : Int} (k : Q (.int i) H) : rInt1 [.int i] H Q := .inl ⟨i, rfl, k⟩
theorem putF_nil {f : Str} {v : V} : putF f v [] = [(f, v)] := rfl
section
variable {σ : L2.St} {H : Hp} {Q : VK} {K : PySem.W.Frag} {D : Ends} {G : Hp} {R : Res} {te to : TE} {ta tk : TA} {f m : Str} {a C dx : Addr} {fs : List (Str × V)} {v : V} {W : WX} {n k : Nat} {ks : List Str} {sp : SpC} {P : Program} {wo : World} {mg : Str → Option Value} {base : Heap}
theorem g_meth {t : TA} (k0 : te σ H fun x H1 => ∃ a C dx fs sp, x = .ref a ∧ H1 a = some (.ins C dx fs) ∧ fs.lookup m = none ∧ GMt P wo K mg base k C m n ks sp ∧ t σ H1 fun vs H2 => tk σ H2 fun zs H3 => vs.length = n ∧ zs.length = ks.length ∧ sp (.ref a :: vs) zs H3 Q (WE W σ)) :
    tMtG P wo K mg base k m n ks W te t tk σ H Q := k0
theorem g_prop (k0 : te σ H fun x H1 => ∃ a C dx fs sp, x = .ref a ∧ H1 a = some (.ins C dx fs) ∧ GPr P wo K mg base k C m sp ∧ sp [.ref a] [] H1 Q E0) : tPrG P wo K mg base k m te σ H Q := k0
theorem g_exc1 {C : Addr} {fld : Str} {E : XK} (k0 : ta σ H fun vs H1 => ∃ v, vs = [v] ∧ ∀ d, H1 d = none → E (.ref C) (some d) (upd H1 d (.xd [(fld, v)]))) : tExc1 C fld ta σ H E := k0
theorem g_setF (k0 : te σ H fun y H1 => to σ H1 fun x H2 => ∃ a C dx fs, x = .ref a ∧ H2 a = some (.ins C dx fs) ∧ Cls K C ∧ NoAttr K C f ∧ fs.length < 1000 ∧ D.nx σ (upd H2 a (.ins C dx (putF f y fs)))) : sFld K to te f D σ H := k0
theorem g_andT {t1 t2 : TE} (k0 : t1 σ H fun x H1 => ∃ b, TruV K x H1 b ∧ if b = true then t2 σ H1 Q else Q x H1) : tAndT K t1 t2 σ H Q := k0
theorem g_exI {a : Int} {P : Int → Prop} (k0 : P a) : ∃ i, V.int a = V.int i ∧ P i := ⟨a, rfl, k0⟩
theorem g_dnew (k0 : NewO (.dK []) H Q) : tDNewK σ H Q := k0
theorem g_U {g : Int → V} {i : Int} (k0 : Q (g i) H) : rU g (.int i) H Q := ⟨i, rfl, k0⟩
theorem g_asgF {ts : TS} (k0 : ts D σ H) : ts D σ H := k0
theorem g_star {tr : TA} {QA : List V → Hp → Prop} (k0 : te σ H fun x H1 => ∃ p xs, x = V.ref p ∧ (SqT K H1 p xs ∨ SqL K H1 p xs) ∧ tr σ H1 fun ys H2 => QA (xs ++ ys) H2) : StX.tStar K te tr σ H QA := k0
end
end Sw

set_option Elab.async false
set_option linter.all false
set_option maxRecDepth 100000
set_option maxHeartbeats 4000000
namespace Sw
open PySem PySem.Spec PySem.Calls PyProof.Rows PySem.W
section
variable {prog : Program} {w : World} {A : Around} {E : Value → Shared → Prop} {s : Shared} {K : Frag} {x D : Addr} {ox od : Obj}
theorem sw_classE {Q : Option Value → Shared → Prop} (hga : findIn K (.ref D) "__getattribute__" = some (some (.builtin "BaseException.__getattribute__"))) (hgt : findIn K (.ref D) "__getattr__" = some none) (hsub : subIn K (.ref D) (.type "BaseException") = some true)
    (hdct : hasDictIn K D = true) (ha : findIn K (.ref D) "__class__" = some (some (.builtin "object.__class__")))
    (hn : specialIn K (.builtin "object.__class__") "__get__" = some (some (.builtin "getset_descriptor.__get__"))) (htk : takesIn K (.builtin "object.__class__") = some true) (hm : mroIn K D (.type "object") = some true)
    (X : K.In s.heap) (I : InstAt s.heap x ox D (some od)) (h : Q (some (.ref D)) { s with toks := s.toks + 1 }) : wpAny (model prog w) A (getAttr? (.ref x) "__class__") Q E s := by
  have hf : findObj K D (some od) "__class__" = some (.bind (.builtin "getset_descriptor.__get__") (.builtin "object.__class__")) := findObj_data (by obtain ⟨cd, hc, _⟩ := any_some hdct; rw [hc]; rfl) ha hn htk
  obtain ⟨hp, g, d, t, os⟩ := s
  have L0 := I.type (M := model prog w)
  have L1 := looks_findIn (M := model prog w) X hga
  have L2 := looks_findIn (M := model prog w) X hgt
  have L3 := looks_find (M := model prog w) X I hf
  have sub : Looks (model prog w) hp (isInstance (.ref x) (.type "BaseException")) true := L0.andThen (looks_subIn X hsub)
  have hx0 : (false && onTheHeap (Value.builtin "BaseException.__getattribute__")) = false := rfl
  have hx2 : (Value.builtin "BaseException.__getattribute__" == Value.builtin "object.__getattribute__") = false := by decide +kernel
  have hx1 : (onTheHeap (Value.ref D) && Value.builtin "BaseException.__getattribute__" == Value.builtin "object.__getattribute__") = false := by rw [hx2]; rfl
  unfold getAttr? getAttrBy? getAttrBy
  refine wpAny_bind (wpAny_mkText (wpAny_bind (wpAny_attempt (wpAny_holding (wpAny_bind (L0.at (wpAny_bind (L1.at ?_))))))))
  show wpAny _ _ (if (onTheHeap (Value.ref D) && Value.builtin "BaseException.__getattribute__" == Value.builtin "object.__getattribute__") = true then _ else _) _ _ _
  rw [hx1, if_neg Bool.false_ne_true]
  unfold getAttrByItsOwn hookBefore
  refine wpAny_bind ?_
  rw [if_pos (show onTheHeap (Value.ref D) = true from rfl)]
  refine L2.at ?_
  refine wpAny_bind (wpAny_attempt (wpAny_holding ?_))
  unfold callGetattribute
  rw [hx0, if_neg Bool.false_ne_true]
  unfold boundAndCalled
  rw [PySem.F.excAttr_ValueError.ga.bind (.ref x)]
  refine wpAny_bind (wpAny_pure ?_)
  show wpAny _ _ (call (.builtin "BaseException.__getattribute__") [.ref x, .str "__class__" t]) _ _ _
  refine wpAny_call (codeAny_call_builtin PySem.F.excAttr_ValueError.ga.plain PySem.F.entry_bexc_ga ?_)
  refine @check_slot (model prog w) _ _ ⟨hp, g, d, t + 1, os⟩ "BaseException.__getattribute__" "BaseException" "__getattribute__" (.ref x) [.str "__class__" t] [] _ (by decide +kernel) (by decide +kernel) sub (PySem.F.args_bexc_ga (.ref x) (.str "__class__" t)) ?_
  unfold Builtin.«object.__getattribute__»
  refine wpAny_bind (wpAny_of_eq (a := ((Value.ref x : Value), [Value.str "__class__" t])) (by first | rfl | (simp only [slotArgs]; rfl)) ?_)
  refine wpAny_bind (wpAny_pure (wpAny_bind (L0.at (wpAny_bind (L3.at ?_)))))
  show wpAny _ _ (holding [Value.builtin "object.__class__"] (call (.builtin "getset_descriptor.__get__") [.builtin "object.__class__", .ref x, .ref D]) >>= ret) _ _ _
  refine wpAny_bind (wpAny_holding (wpAny_call (class_get (s := ⟨hp, g, d, t + 1, os⟩) (ox := ox) (od := some od) X I hm ?_)))
  refine wpAny_pure ?_
  show wpAny _ _ (handedOut (.ref D)) _ _ _
  rw [handedOut_of (v := .ref D) rfl]
  first
    | exact wpAny_pure (wpAny_pure h)
    | exact wpAny_pure h
    | exact wpAny_pure (wpAny_bind (wpAny_pure (wpAny_pure h)))
theorem sw_kitx (hga : findIn K (.ref D) "__getattribute__" = some (some (.builtin "BaseException.__getattribute__"))) (hgt : findIn K (.ref D) "__getattr__" = some none) (hsub : subIn K (.ref D) (.type "BaseException") = some true) (hdct : hasDictIn K D = true) (ha : findIn K (.ref D) "__class__" = some (some (.builtin "object.__class__")))
    (hn : specialIn K (.builtin "object.__class__") "__get__" = some (some (.builtin "getset_descriptor.__get__"))) (htk : takesIn K (.builtin "object.__class__") = some true) (hm : mroIn K D (.type "object") = some true) :
    KitX K (.ref x) (.ref D) (fun h => InstAt h x ox D (some od)) where
  ty := fun _ _ _ I => I.type
  it := fun _ _ X _ => by
    obtain ⟨cdD, hcD, _⟩ := any_some hdct
    unfold clsIn at hcD
    split at hcD
    · rename_i c' d' cd' sl' ho
      intro A' Q' E' s' k q
      unfold isType loadHead
      exact wpAny_bind (wpAny_loadPart (k _ _ (X _ _ ho)) (wpAny_pure q))
    · cases hcD
  ne := fun h tp dd its n sl X htp => by
    obtain ⟨cdD, hcD, _⟩ := any_some hdct
    refine Bool.eq_false_iff.mpr fun q => ?_
    have e : D = tp := Value.ref.inj (beq_iff_eq.mp q)
    subst e
    unfold clsIn at hcD
    split at hcD
    · rename_i c' d' cd' sl' ho
      have z := (X _ _ ho).symm.trans htp
      cases z
    · cases hcD
  ca := fun X I k => sw_classE hga hgt hsub hdct ha hn htk hm X I k
end
end Sw
namespace Sw
open PySem PySem.Spec PyProof.Rows L2
/-! ### isinstance(e, c), e a caught own exception with a dict -/
def rIsX (K : PySem.W.Frag) (a : Addr) (cls : Value) (d : Option Addr) : List V → Hp → VK → Prop := fun xs H Q => ∃ (c : V) (cv : Value) (b : Bool) (D dd : Addr) (fs : List (Str × V)), xs = [.ref a, c] ∧ cls = .ref D ∧ d = some dd ∧ H dd = some (.xd fs) ∧ ExcC K D ∧ (∀ u, RelV c u → u = cv) ∧ PySem.W.kitOne K (.ref D) cv = some b ∧ Q (.bl b) H
theorem call_isX {X : Cx} {a : Addr} {cls : Value} {d : Option Addr} {oe : Obj} {pn : List (Addr × Obj)} (K : PySem.W.Frag) (hz : Zc cls d oe) (hf : ∃ vs, oe.data = .fields vs) (hK : X.K = K := by rfl) : CallR (X.suite a ((a, oe) :: pn)) (.builtin "isinstance") (rIsX K a cls d) := by
  subst hK
  intro pins s σ H xs us Q I r h
  obtain ⟨c, cv, b, D, dd, fs, rfl, ec, ed, ea, C, hcv, e, q⟩ := h
  subst ec ed
  cases r with
  | cons rx rr =>
    cases rr with
    | cons rt rr =>
      cases rr
      cases rx
      have ec := hcv _ rt
      subst ec
      obtain ⟨hget, _⟩ := I.pin (a, oe) (List.mem_append.mpr (.inl List.mem_cons_self))
      obtain ⟨vs, hv⟩ := hf
      have hx : ObjOk X.prog X.w H s.heap dd (.xd fs) := I.hok dd _ ea
      obtain ⟨mA, hns, hr⟩ := hx
      obtain ⟨od, ho, hl⟩ := lookIn_ns hns
      have J : PySem.W.InstAt s.heap a oe D (some od) := ⟨hget, hz.1, by unfold PySem.W.notCls; rw [hv] <;> rfl, by rw [hz.2]; exact ho⟩
      exact PySem.W.kia_one (sw_kitx C.hg C.hk C.hs C.hd C.ha C.hn C.ht C.hm) I.kIn J e (fun z => nomatch z) fun tk => ⟨.bl b, H, I.kept (t' := tk) fun _ _ z => z, rfl, q⟩
/-- e.f, whatever own class e is of -/
def tXg (K : PySem.W.Frag) (a : Addr) (cls : Value) (d : Option Addr) (f : Str) (te : TE) : TE := fun σ H Q => te σ H fun x H1 => x = .ref a ∧ ∃ (C dd : Addr) (fs : List (Str × V)) (v : V), cls = .ref C ∧ d = some dd ∧ XfC K C ∧ PySem.W.findIn K (.ref C) f = some none ∧ H1 dd = some (.xd fs) ∧ fs.lookup f = some v ∧ Q v H1
theorem g_xg {K : PySem.W.Frag} {a : Addr} {cls : Value} {d : Option Addr} {f : Str} {te : TE} {σ : L2.St} {H : Hp} {Q : VK} (k : te σ H fun x H1 => x = .ref a ∧ ∃ (C dd : Addr) (fs : List (Str × V)) (v : V), cls = .ref C ∧ d = some dd ∧ XfC K C ∧ PySem.W.findIn K (.ref C) f = some none ∧ H1 dd = some (.xd fs) ∧ fs.lookup f = some v ∧ Q v H1) : tXg K a cls d f te σ H Q := k
theorem pe_xg {X : Cx} {a : Addr} {oe : Obj} {cls : Value} {d : Option Addr} {pn : List (Addr × Obj)} {e : Expr} {te : TE} {pos : Pos} {n : Str} (K : PySem.W.Frag)
    (hz : Zc cls d oe) (hf : ∃ vs, oe.data = .fields vs) (he : PE (X.suite a ((a, oe) :: pn)) e te) (hK : X.K = K := by rfl) (hb : attributeBase e n X.env (eval e X.env) = eval e X.env := by rfl) :
    PE (X.suite a ((a, oe) :: pn)) (.Attribute e n pos) (tXg K a cls d n te) := by
  subst hK
  refine ⟨fun pins s σ H Q I h => ?_⟩
  refine attr_of hb (thn (he.run pins s σ H _ I h) fun u s1 hh => ?_)
  obtain ⟨x, H1, I1, rx, ex, C, dd, fs, v, ec, ed, T, hno, ea, l, q⟩ := hh
  subst ex
  obtain rfl : u = Value.ref a := rx
  subst ec
  subst ed
  obtain ⟨ha, _⟩ := I1.pin (a, oe) (List.mem_append_left _ List.mem_cons_self)
  obtain ⟨vs, hd⟩ := hf
  have hx : ObjOk X.prog X.w H1 s1.heap dd (.xd fs) := I1.hok dd _ ea
  obtain ⟨mA, hns, hr⟩ := hx
  obtain ⟨od, ho, hl⟩ := lookIn_ns hns
  obtain ⟨u, hu, ru⟩ := RelO.some_of (v := v) (o := mA n) (by rw [← l]; exact hr n)
  have J : PySem.W.InstAt s1.heap a oe C (some od) := ⟨ha, hz.1, by unfold PySem.W.notCls; rw [hd] <;> rfl, by rw [hz.2]; exact ho⟩
  exact HandSPX.exc_get I1.kIn J T.ga T.gg T.exC (PySem.W.findObj_own T.hdC hno rfl (by rw [hl, hu])) (handed_of ru) ⟨v, H1, I1.tok _, ru, q⟩
/-- names in an except clause -/
theorem names_of {X : Cx} {x : Str} {a : Addr} (hg : Gl X x) (h : ∃ u, X.mg x = some u ∧ RelV (.ref a) u) (hd : (x == ("__debug__" : Str)) = false := by decide) : Names X x (.ref a) := by
  obtain ⟨u, hm, r⟩ := h
  have r' : u = Value.ref a := r
  subst r'
  exact ⟨hg, hd, .inl hm⟩

/-- a plain def with defaults: its takes at hand -/
theorem okTD {P : Program} {w : World} {K : PySem.W.Frag} {mg : Str → Option Value} {base : Heap} {x qual : Str} {st : Stmt} {f : Addr} {fd : FuncData} {N ps : List Str} {k : Nat} {sp : Sp} {dvs : List V} {kws : List (Str × V)} (F : FunD K x qual (defArgs st) (defBody st) (defScope st) dvs kws f fd) (S : FnScope N ps (defScope st)) (len : ∀ vs H Q E, sp vs H Q E → vs.length = ps.length)
    (hbody : ∀ (cdv : Value) (A : Around) (outer : List Env) (s : Shared) (H : Hp) (vs : List V) (Q : VK) (E : XK), Room k (A.deeper (envOfC qual (defScope st) s.heap.objs.size f cdv)) →
      Takes (cxOf (L2.CX P w) P w K mg base N qual (defScope st) f cdv A outer s H E) (fun cls d _ H => E cls d H) →
      PassesOwn (model P w) (A.deeper (envOfC qual (defScope st) s.heap.objs.size f cdv)) (envOfC qual (defScope st) s.heap.objs.size f cdv) (cxOf (L2.CX P w) P w K mg base N qual (defScope st) f cdv A outer s H E).xe → sp vs H Q E →
      ∃ t, PSs (cxOf (L2.CX P w) P w K mg base N qual (defScope st) f cdv A outer s H E) (defBody st) t ∧ t { nx := fun _ H' => Q .non H', rt := Q } (L2.start N vs) H) : FnOk P w K mg base (L2.CX P w) (k + 1) f fd ps sp :=
  F.ok S len fun cdv A outer s H vs Q E hr h => hbody cdv A outer s H vs Q E hr (takes_of rfl rfl rfl rfl) (passes_of (X := cxOf (L2.CX P w) P w K mg base N qual (defScope st) f cdv A outer s H E) rfl) h
section
variable {K : PySem.W.Frag} {G H G' : Hp} {R : Res} {p x : Addr} {o : HO} {v : V} {t : Value}
theorem Same.upd2 (e : Same G G') : Same (upd G p o) (upd G' p o) := fun b u h => by
  by_cases hb : b = p
  · subst hb; rw [upd_same] at h ⊢; exact h
  · rw [upd_ne hb] at h ⊢; exact e b u h
theorem tyX_same (e : Same G H) (h : TyX K G v t) : TyX K H v t := by
  cases h with
  | base h =>
    cases h with
    | non => exact .base .non
    | bl b => exact .base (.bl b)
    | int i => exact .base (.int i)
    | str s => exact .base (.str s)
    | flt s => exact .base (.flt s)
    | lst q => exact .base (.lst (e _ _ q))
    | frz q => exact .base (.frz (e _ _ q))
    | tup q => exact .base (.tup (e _ _ q))
    | dK q => exact .base (.dK (e _ _ q))
    | dT q => exact .base (.dT (e _ _ q))
    | ins q z1 z2 z3 z4 z5 => exact .base (.ins (e _ _ q) z1 z2 z3 z4 z5)
  | byt b => exact .byt b
  | set q => exact .set (e _ _ q)
  | kList q c => exact .kList q c
  | kTuple q c => exact .kTuple q c
  | kDict q c => exact .kDict q c
  | fTuple q => exact .fTuple (e _ _ q)
  | fDict q => exact .fDict (e _ _ q)
theorem tyX_ins {C dx : Addr} {fs fs' : List (Str × V)} (hx : G x = some (.ins C dx fs)) (h : TyX K G v t) : TyX K (upd G x (.ins C dx fs')) v t := by
  have key : ∀ {a : Addr} {o : HO}, G a = some o → (∀ C dx fs, o ≠ .ins C dx fs) → upd G x (.ins C dx fs') a = some o := fun {a o} q n => by
    have : a ≠ x := fun z => by
      subst z
      rw [hx] at q
      cases q
      exact n _ _ _ rfl
    rw [upd_ne this]
    exact q
  cases h with
  | base h =>
    cases h with
    | non => exact .base .non
    | bl b => exact .base (.bl b)
    | int i => exact .base (.int i)
    | str s => exact .base (.str s)
    | flt s => exact .base (.flt s)
    | lst q => exact .base (.lst (key q (by intros; simp)))
    | frz q => exact .base (.frz (key q (by intros; simp)))
    | tup q => exact .base (.tup (key q (by intros; simp)))
    | dK q => exact .base (.dK (key q (by intros; simp)))
    | dT q => exact .base (.dT (key q (by intros; simp)))
    | @ins a C' dx' fs2 q h1 h2 h3 h4 h5 =>
      by_cases z : a = x
      · subst z
        rw [hx] at q
        cases q
        exact .base (.ins upd_same h1 h2 h3 h4 h5)
      · exact .base (.ins (show upd G x (.ins C dx fs') a = some (.ins C' dx' fs2) by rw [upd_ne z]; exact q) h1 h2 h3 h4 h5)
  | byt b => exact .byt b
  | set q => exact .set (key q (by intros; simp))
  | kList q c => exact .kList q c
  | kTuple q c => exact .kTuple q c
  | kDict q c => exact .kDict q c
  | fTuple q => exact .fTuple (key q (by intros; simp))
  | fDict q => exact .fDict (key q (by intros; simp))
end
end Sw

set_option Elab.async false
set_option linter.all false
set_option maxRecDepth 100000
set_option maxHeartbeats 4000000
namespace Sw
open PySem PySem.Spec PyProof.Rows L2
/-! ### promises for calls with no repr open (guards) -/
structure FnG (P : Program) (w : World) (K : PySem.W.Frag) (mg : Str → Option Value) (base : Heap) (CX : CXT) (k : Nat) (f : Addr) (fd : FuncData) (ps : List Str) (sp : Sp) : Prop where
  len : ∀ vs H Q E, sp vs H Q E → vs.length = ps.length
  run : ∀ (A : Around) (outer : List Env) (s : Shared) (H : Hp) (args : Args) (us : List Value) (vs : List V) (Q : VK) (E : XK), Room k A → A.guards = some [] → Env0 P w K mg base A outer s H → BindsTo s fd args (ps.zip us) → Vals vs us → sp vs H Q E →
    codeAny (model P w) A (.call (.ref f) args) (CR CX outer P w H s Q E) s
theorem fnG_of {CX : CXT} {P : Program} {w : World} {K : PySem.W.Frag} {mg : Str → Option Value} {base : Heap} {k : Nat} {f : Addr} {name qual : Str} {params : Arguments} {body : List Stmt} {scope : Scope} {dV kV doc pm cdv ct oc : Value} {an od : Option Addr}
    {osl : Array (Option Value)} {N ps : List Str} {sp : Sp} (lk : K.lookup f = some ⟨oc, od, .func (PySem.W.fnOf name qual params body scope dV kV doc pm an cdv ct), osl⟩) (hcd : PySem.W.codeIn K cdv qual = true) (S : FnScope N ps scope)
    (len : ∀ vs H Q E, sp vs H Q E → vs.length = ps.length)
    (hbody : ∀ (A : Around) (outer : List Env) (s : Shared) (H : Hp) (vs : List V) (Q : VK) (E : XK), Room k (A.deeper (envOfC qual scope s.heap.objs.size f cdv)) → A.guards = some [] → sp vs H Q E →
      ∃ t, PSs (cxOf CX P w K mg base N qual scope f cdv A outer s H E) body t ∧ t { nx := fun _ H' => Q .non H', rt := Q } (L2.start N vs) H) :
    FnG P w K mg base CX (k + 1) f (PySem.W.fnOf name qual params body scope dV kV doc pm an cdv ct) ps sp := by
  refine ⟨len, fun A outer s H args us vs Q E hr hgd e0 hb r hsp => ?_⟩
  have hl := len _ _ _ _ hsp
  have KX : K.In s.heap := e0.mod.kin.keeps fun b o e => (e0.bs b o e).1
  have lim : s.heap.NoLimit := e0.mod.nolimit.keeps fun b o e => (e0.bs b o e).1
  have hkind : ∀ y ∈ ps.zip us, scope.names.lookup y.1 = some .local ∨ (scope.names.lookup y.1 = some .cell ∧ ((cellsFrom (s.heap.objs.size + 1) scope.names []).lookup y.1).isSome = true) := fun ⟨n, v⟩ hy => by
    rcases S.par n (List.of_mem_zip hy).1 with q | q
    · exact .inl q
    · exact .inr ⟨q, PySem.W.cellsFrom_some _ _ _ (.inl q)⟩
  refine codeAny_call_function hr.depth (KX _ _ lk) rfl S.co S.gen rfl (PySem.W.codeRec_of KX hcd) (hb _ _ _ _ ?_)
  refine wpAny_newFunctionEnv_cells S.kind hkind fun env he s1 x => ?_
  subst he
  refine ⟨lim.keeps x.toInCall.keep, codeAny_func ?_⟩
  obtain ⟨t, ht, hq⟩ := hbody A outer s H vs Q E (hr.deeper _) hgd hsp
  have I : Inv (cxOf CX P w K mg base N qual scope f cdv A outer s H E) [] (L2.start N vs) H s1 := inv_start S hr.hd e0 hl r x
  refine wpAny_mono (ht.run [] s1 (L2.start N vs) H _ I hq) (fun fl s' hs => ?_) fun e s' hs => hs
  have fin : ∀ {σ' : L2.St} {H' : Hp} {v : V} {u : Value}, Inv (cxOf CX P w K mg base N qual scope f cdv A outer s H E) [] σ' H' s' → RelV v u → Q v H' → CE outer P w H s Q u s' :=
    fun {σ' H' v u} J rv q => ⟨v, H', J.os, J.bare, J.base, J.hok, rv, q⟩
  cases fl with
  | ret u =>
    obtain ⟨v, σ', H', J, rv, q⟩ := hs
    exact fin J rv q
  | next =>
    obtain ⟨σ', H', J, q⟩ := hs
    exact fin (v := V.non) (u := Value.none) J rfl q
  | brk =>
    obtain ⟨_, _, _, q⟩ := hs
    exact False.elim q
  | cont =>
    obtain ⟨_, _, _, q⟩ := hs
    exact False.elim q
theorem law_callG {P : Program} {w : World} {K : PySem.W.Frag} {mg mb : Str → Option Value} {CX : CXT} {k : Nat} {fa a : Addr} {fd : FuncData} {x : Str} {sp : Sp} {s₁ : Shared} {vs : List Value} {ns : List Int}
    (KX : K.In s₁.heap) (hns : s₁.heap.Ns mainGlobals mg) (hb : s₁.heap.Ns builtinsNs mb) (hbb : ∀ x : Str, x ≠ "__name__" → mb x = bootBuiltins x) (hlim : s₁.heap.NoLimit) (hg : s₁.gens = #[])
    (ha : s₁.heap.get? a = some { cls := .type "list", data := .seq vs.toArray }) (hi : IntsAre vs ns) (hl : ns.length ≤ sizeLine) (hr : Room k callerA)
    (F : ∀ base : Heap, K.In base → base.Ns mainGlobals mg → FnG P w K mg base CX k fa fd [x] sp) (hbind : ∀ (s : Shared) (u : Value), BindsTo s fd ⟨[u], []⟩ [(x, u)])
    (hsp : ∀ H : Hp, Only H → SqL K H a (ns.map V.int) → sp [.ref a] H (fun v _ => v = .bl true) fun _ _ _ => False)
    (hCX : ∀ H e s', CX [] H s₁ (fun _ _ _ => False) e s' → False) :
    codeAny (model P w) callerA (.call (.ref fa) ⟨[.ref a], []⟩) (fun r s' => r = .ok (.ret (.bool true)) ∧ OldK s₁.heap s'.heap ∧ s'.os = s₁.os ∧ AllBare s'.gens) s₁ := by
  have rv := vals_ints hi
  have lenV := hi.length
  -- from an abstract heap in which nothing but the script may be tracked
  have core : ∀ H : Hp, Only H → SqL K H a (ns.map V.int) → HOk P w H s₁.heap → (∀ b, H b ≠ none → b = a) → (H a ≠ none → K.lookup a = none) →
      codeAny (model P w) callerA (.call (.ref fa) ⟨[.ref a], []⟩) (fun r s' => r = .ok (.ret (.bool true)) ∧ OldK s₁.heap s'.heap ∧ s'.os = s₁.os ∧ AllBare s'.gens) s₁ := by
    intro H hO hS hok hA hK
    have base_of : ∀ {b : Addr} {o : Obj}, s₁.heap.get? b = some o → H b = none → (hidT s₁.heap H).get? b = some o := fun e n => hidT_get e n
    have noA : ∀ {b : Addr} {o : Obj} {es : Array DictEntry} {ep : Nat}, s₁.heap.get? b = some o → o.data = .dict es ep → H b = none := fun {b o es ep} e d => by
      cases q : H b with
      | none => rfl
      | some u =>
        have e' : b = a := hA b (by rw [q]; simp)
        subst e'
        rw [ha] at e; cases e
        have d' : Data.seq vs.toArray _ = Data.dict es ep := d
        cases d'
    have nsK : ∀ {b : Addr} {m : Str → Option Value}, s₁.heap.Ns b m → (hidT s₁.heap H).Ns b m := fun {b m} ⟨o, es, ep, e, d, r⟩ => ⟨o, es, ep, base_of e (noA e d), d, r⟩
    have hKb : K.In (hidT s₁.heap H) := fun b o e => base_of (KX b o e) (by
      cases q : H b with
      | none => rfl
      | some u =>
        have e' : b = a := hA b (by rw [q]; simp)
        subst e'
        rw [hK (by rw [q]; simp)] at e; cases e)
    have hM : Mod K mg (hidT s₁.heap H) := ⟨hKb, nsK hns, ⟨mb, nsK hb, hbb⟩, let ⟨mc, h1, h2⟩ := hlim; ⟨mc, nsK h1, h2⟩⟩
    have e0 : Env0 P w K mg (hidT s₁.heap H) callerA [] s₁ H := ⟨rfl, hM, fun b o e => of_hidT e, Nat.le_of_eq (hidT_size _ _), trivial, fun b hb => absurd (show b ∈ ([] : List Addr) from hb) (by simp), hok, .of_eq hg⟩
    refine codeAny_mono ((F _ hKb (nsK hns)).run callerA [] s₁ H ⟨[.ref a], []⟩ [.ref a] [.ref a] _ _ hr rfl e0 (hbind s₁ (.ref a)) (.cons rfl .nil) (hsp H hO hS)) fun r s' h => ?_
    cases r with
    | error e => exact (hCX H e s' h).elim
    | ok fl =>
      cases fl with
      | next => exact False.elim h
      | brk => exact False.elim h
      | cont => exact False.elim h
      | ret u =>
        obtain ⟨v, H', os, bare, un, hok', r', q⟩ := h
        have q' : v = .bl true := q
        subst q'
        obtain rfl : u = Value.bool true := r'
        refine ⟨rfl, OldK.of_keep fun b o e => ?_, os, bare⟩
        cases q : H b with
        | none => exact un.keep b o e q (by intro z; exact absurd (show b ∈ ([] : List Addr) from z) (by simp)) (by simp)
        | some u =>
          rcases hO b with z | ⟨ob, xs, z⟩
          · rw [q] at z; cases z
          · have z2 := un.frzs b ob _ z
            obtain ⟨e1, _⟩ := hok b _ z
            obtain ⟨e2, _⟩ := hok' b _ z2
            rw [e] at e1; cases e1
            exact e2
  cases hk : K.lookup a with
  | some o =>
    -- the script is one of the module's own objects
    have e := KX a o hk
    rw [ha] at e
    cases e
    refine core (fun _ => none) (fun _ => .inl rfl) (.inr ⟨_, vs.toArray, _, hk, rfl, rfl, rfl, by rw [List.size_toArray, lenV]; exact hl, by simpa using rv⟩) (fun b u z => by have z' : (none : Option HO) = some u := z; cases z') (fun b z => absurd rfl z) fun z => absurd rfl z
  | none =>
    refine core (fun b => if b = a then some (.frz { cls := .type "list", data := .seq vs.toArray } (.lst (ns.map V.int))) else none) (fun b => ?_) (.inl (.inr ⟨{ cls := .type "list", data := .seq vs.toArray }, if_pos rfl⟩)) (fun b u z => ?_) (fun b z => ?_) fun _ => hk
    · by_cases hb : b = a
      · exact .inr ⟨_, _, if_pos hb⟩
      · exact .inl (if_neg hb)
    · by_cases hb : b = a
      · have z' := (if_pos hb).symm.trans z
        cases z'
        subst hb
        exact ⟨ha, by rw [List.length_map]; exact hl, vs, _, rv, ha⟩
      · have z' := (if_neg hb).symm.trans z
        cases z'
    · by_cases hb : b = a
      · exact hb
      · exact absurd (if_neg hb) z
theorem walk_ofG {l : PySem.W.OpenLaw} {n k : Nat} {q : Program} {loose : List Str} {XP : (Str → Option Value) → Heap → Prop} {YP : World → Heap → Prop} {d : DefRec} {K : Params → PySem.W.Frag} {CX : World → CXT} {sp : World → Sp} {x : Str}
    (hn : l.most = some n) (hn2 : n ≤ sizeLine) (hdf : d.params.defaults = []) (hr : Room k callerA)
    (hY : ∀ (w : World) (h : Heap), YP w h → (K w.params).In h)
    (F : ∀ (w : World) (mg : Str → Option Value) (fa : Addr) (h : Heap), (K w.params).In h → h.Ns mainGlobals mg → mg d.name = some (.ref fa) →
      ∃ fd : FuncData, (∀ (s : Shared) (u : Value), BindsTo s fd ⟨[u], []⟩ [(x, u)]) ∧
        ∀ base : Heap, (K w.params).In base → base.Ns mainGlobals mg → FnG l.prog w (K w.params) mg base (CX w) k fa fd [x] (sp w))
    (hsp : ∀ (w : World) (H : Hp) (a : Addr) (ns : List Int), ns.length ≤ n → Only H → SqL (K w.params) H a (ns.map V.int) → sp w [.ref a] H (fun v _ => v = .bl true) fun _ _ _ => False)
    (hCX : ∀ (w : World) (H : Hp) (s : Shared) (e : Value) (s' : Shared), CX w [] H s (fun _ _ _ => False) e s' → False) :
    PySem.W.WalkO q loose XP YP l.row.toRowW d [] (fun f vs => PySem.call f vs) := by
  refine Att.attach_call hn hdf fun w s₀ s₁ mg mb fa o pm cd doc a vs ns G Y ho hd hcd hmg hobj hints hlen hg => ?_
  have KX := hY w _ Y
  obtain ⟨fd, hb, hF⟩ := F w mg fa _ KX G.T.g hmg
  exact law_callG KX G.T.g G.T.b G.T.builtins G.T.nolimit hg hobj hints (Nat.le_trans hlen hn2) hr hF hb (fun H hO hS => hsp w H a ns hlen hO hS) fun H e s' => hCX w H s₁ e s'
end Sw

set_option Elab.async false
set_option linter.all false
set_option maxRecDepth 100000
set_option maxHeartbeats 4000000
namespace Sw
open PySem PySem.Spec PyProof.Rows L2
section
variable {P : Program} {w : World} {K : PySem.W.Frag} {mg : Str → Option Value} {base : Heap} {j k n : Nat} {f : Addr} {fd : FuncData} {ps ks : List Str} {sp : Sp} {spc : SpC}
theorem FnG.of (F : FnOk P w K mg base (L2.CX P w) k f fd ps sp) : FnG P w K mg base (L2.CX P w) k f fd ps sp := ⟨F.len, fun A outer s H args us vs Q E hr _ => F.run A outer s H args us vs Q E hr⟩
theorem okG {x qual : Str} {st : Stmt} {N : List Str} (F : Fun K x qual st f fd) (S : FnScope N ps (defScope st)) (len : ∀ vs H Q E, sp vs H Q E → vs.length = ps.length)
    (hbody : ∀ (cdv : Value) (A : Around) (outer : List Env) (s : Shared) (H : Hp) (vs : List V) (Q : VK) (E : XK), Room k (A.deeper (envOfC qual (defScope st) s.heap.objs.size f cdv)) → A.guards = some [] →
      Takes (cxOf (L2.CX P w) P w K mg base N qual (defScope st) f cdv A outer s H E) (fun cls d _ H => E cls d H) →
      PassesOwn (model P w) (A.deeper (envOfC qual (defScope st) s.heap.objs.size f cdv)) (envOfC qual (defScope st) s.heap.objs.size f cdv) (cxOf (L2.CX P w) P w K mg base N qual (defScope st) f cdv A outer s H E).xe → sp vs H Q E →
      ∃ t, PSs (cxOf (L2.CX P w) P w K mg base N qual (defScope st) f cdv A outer s H E) (defBody st) t ∧ t { nx := fun _ H' => Q .non H', rt := Q } (L2.start N vs) H) : FnG P w K mg base (L2.CX P w) (k + 1) f fd ps sp := by
  obtain ⟨⟨oc, od, kV, doc, pm, an, cdv, ct, osl, rfl, lk, hcd⟩, kp⟩ := F
  exact fnG_of lk hcd S len fun A outer s H vs Q E hr hg h => hbody cdv A outer s H vs Q E hr hg (takes_of rfl rfl rfl rfl) (passes_of (X := cxOf (L2.CX P w) P w K mg base N qual (defScope st) f cdv A outer s H E) rfl) h
/-- a callee by its convention, no repr open -/
def CalG (P : Program) (w : World) (K : PySem.W.Frag) (mg : Str → Option Value) (base : Heap) (k : Nat) (f : Addr) (n : Nat) (ks : List Str) (sp : SpC) : Prop :=
  ∀ (A : Around) (outer : List Env) (s : Shared) (H : Hp) (us ws : List Value) (vs zs : List V) (Q : VK) (E : XK), Room k A → A.guards = some [] → Env0 P w K mg base A outer s H → Vals vs us → Vals zs ws → vs.length = n → zs.length = ks.length → sp vs zs H Q E →
    codeAny (model P w) A (.call (.ref f) ⟨us, ks.zip ws⟩) (CR (L2.CX P w) outer P w H s Q E) s
theorem calG0 (F : FnG P w K mg base (L2.CX P w) k f fd ps sp) (hb : Binds K fd ps []) (hn : n = ps.length) : CalG P w K mg base k f n [] (fun vs _ => sp vs) :=
  fun A outer s H us ws vs zs Q E hr hg e0 r rz l1 l2 h => by
    have e : (⟨us, ([] : List Str).zip ws⟩ : Args) = ⟨us, []⟩ := by rw [List.zip_nil_left]
    rw [e]
    have hl : (us ++ []).length = ps.length := by rw [List.append_nil, ← r.length, l1, hn]
    have hb' := hb s us (e0.mod.kin.keeps fun b o e => (e0.bs b o e).1) hl
    rw [List.append_nil] at hb'
    exact F.run A outer s H ⟨us, []⟩ us vs Q E hr hg e0 hb' r h
structure GFg (P : Program) (w : World) (K : PySem.W.Frag) (mg : Str → Option Value) (base : Heap) (k : Nat) (x : Str) (n : Nat) (ks : List Str) (sp : SpC) : Prop where
  ex : ∃ f, mg x = some (.ref f) ∧ PySem.W.keepIn K (.ref f) = true ∧ CalG P w K mg base k f n ks sp
end
section
variable {X : Cx} {k n : Nat} {f C : Addr} {ks : List Str} {sp : SpC} {W : WX} {x : Str} {p pos : Pos} {e : Expr} {es : List Expr} {kws : List Keyword} {t tk : TA}
theorem run_calG {pins : List (Addr × Obj)} {σ : L2.St} {H : Hp} {s : Shared} {Q : VK} {us ws : List Value} {vs zs : List V} (F : CalG X.prog X.w X.K X.mg X.base k f n ks sp) (hr : Room k X.A) (hg : X.A.guards = some []) (tw : Takes X W) (I : Inv X pins σ H s) (r : Vals vs us) (rz : Vals zs ws)
    (l1 : vs.length = n) (l2 : zs.length = ks.length) (h : sp vs zs H Q (WE W σ)) :
    codeAny (model X.prog X.w) X.A (.call (.ref f) ⟨us, ks.zip ws⟩) (fun r s' => match r with | .ok (.ret v) => EP X pins σ Q v s' | .ok _ => False | .error e => X.xe e s') s := by
  refine codeAny_mono (F X.A X.stack s H us ws vs zs Q (WE W σ) hr hg I.env0 r rz l1 l2 h) fun r s' hq => ?_
  cases r with
  | error e => exact passAt tw σ pins H s e s' I hq
  | ok fl =>
    cases fl with
    | ret u => exact I.after hq
    | next => exact False.elim hq
    | brk => exact False.elim hq
    | cont => exact False.elim hq
theorem pe_callGg (G : GFg X.prog X.w X.K X.mg X.base k x n ks sp) (hr : Room k X.A) (hgd : X.A.guards = some []) (tw : Takes X W) (ha : PA X (e :: es) t) (hkw : PK X kws tk) (hg : Gl X x := by rfl)
    (hall : (backToKw pos (keywordEach kws X.env)).all (·.1.isSome) = true := by rfl) (hks : (backToKw pos (keywordEach kws X.env)).filterMap (·.1) = ks := by rfl) (hdb : (x == ("__debug__" : Str)) = false := by decide)
    (he : starEach (e :: es) X.env = (false, eval e X.env) :: starEach es X.env := by rfl)
    (hpl : ((backTo pos (starEach (e :: es) X.env)).any (·.1) || (backToKw pos (keywordEach kws X.env)).any (·.1.isNone)) = false := by rfl) :
    PE X (.Call (.Name x p) (e :: es) kws pos) (tCalG n ks.length sp W t tk) := by
  refine ⟨fun pins s σ H Q I h => ?_⟩
  obtain ⟨f, hm, hk, F⟩ := G.ex
  refine wpAny_Call_Name_kw (ld_glob I hg hm ?_ hdb)
  refine PySem.W.callWith_KW (h₀ := X.base) I.ok.mod.kin hk hall (thn (ha.run pos pins s σ H _ I h) fun us s1 ⟨vs, H1, I1, r, q⟩ => ?_) hpl he
  refine thn (hkw.run pos pins s1 σ H1 _ I1 q) fun ws s2 ⟨zs, H2, I2, rz, l1, l2, q2⟩ => ⟨I2.kIn, ?_⟩
  rw [hks]
  exact wpAny_call (run_calG F hr hgd tw I2 r rz l1 l2 q2)
end

/-! ### repr -/
mutual
theorem Dp.noDict {K : PySem.W.Frag} {H : Hp} : ∀ (d : PyData) (v : V), Dp K H v d → d.hasDict = false
  | .none, _, _ => rfl
  | .bool _, _, _ => rfl
  | .int _, _, _ => rfl
  | .str _, _, _ => rfl
  | .list ds, _, h => by
    cases h with
    | lst _ q => exact Dp.noDictAll ds _ q
  | .tuple ds, _, h => by
    cases h with
    | tup _ q => exact Dp.noDictAll ds _ q
  | .dict _, _, h => by cases h
theorem Dp.noDictAll {K : PySem.W.Frag} {H : Hp} : ∀ (ds : List PyData) (vs : List V), DpAll K H vs ds → PyData.hasDictAll ds = false
  | [], _, _ => rfl
  | d :: ds, _, h => by
    cases h with
    | cons h1 h2 =>
      show (d.hasDict || PyData.hasDictAll ds) = false
      rw [Dp.noDict d _ h1, Dp.noDictAll ds _ h2]
      rfl
end
def rRepr (K : PySem.W.Frag) : List V → Hp → VK → Prop := fun xs H Q => ∃ v d, xs = [v] ∧ Dp K H v d ∧ d.showable = true ∧ d.depth ≤ 100 ∧ d.shown.length ≤ sizeLine ∧ Q (.str d.shown) H
theorem ka_repr {X : Cx} (K : PySem.W.Frag) (hgd : X.A.guards = some []) (hu : X.A.units + 120 < cLine) (hK : X.K = K := by rfl) : CallR X (.builtin "repr") (rRepr K) := by
  subst hK
  intro pins s σ H xs us Q I r h
  obtain ⟨v, d, rfl, hd, hs, hdp, hl, q⟩ := h
  cases r with
  | cons rx rr =>
    cases rr
    have kept : ∀ h' tk, (∀ b o, s.heap.get? b = some o → h'.get? b = some o) → Inv X pins σ H { s with heap := h', toks := tk } := fun h' tk k => I.kept (t' := tk) k
    have refs : ∀ {a : Addr} {u : Value}, v = .ref a → RelV v u → wpAny (model X.prog X.w) X.A (call (.builtin "repr") [u]) (EP X pins σ Q) X.xe s := fun {a u} ev ru => by
      subst ev
      obtain ⟨as, rd⟩ := Dp.reads I d _ u hd ru
      obtain rfl : u = Value.ref a := ru
      exact repr_of_reads' rd hs (fun z => absurd z (by rw [Dp.noDict d _ hd]; exact Bool.false_ne_true)) hgd (by omega) (fun b o e => e) (fun h' u tk k => ⟨.str d.shown, H, kept h' tk k, ⟨_, rfl⟩, q⟩) hl
    cases hd with
    | non =>
      cases rx
      exact P.repr_of_none ⟨.str _, H, I.kept (t' := s.toks + 1) (fun _ _ e => e), ⟨_, rfl⟩, q⟩
    | bl b =>
      cases rx
      exact P.repr_of_bool ⟨.str _, H, I.kept (t' := s.toks + 1) (fun _ _ e => e), ⟨_, rfl⟩, q⟩
    | int i =>
      obtain ⟨t, rfl⟩ := rx
      exact P.repr_of_int (of_decide_eq_true hs) ⟨.str _, H, I.kept (t' := s.toks + 1) (fun _ _ e => e), ⟨_, rfl⟩, q⟩
    | str x =>
      obtain ⟨t, rfl⟩ := rx
      exact P.repr_of_str ⟨.str _, H, I.kept (t' := s.toks + 1) (fun _ _ e => e), ⟨_, rfl⟩, q⟩ hl
    | lst _ _ => exact refs rfl rx
    | tup _ _ => exact refs rfl rx
end Sw

set_option Elab.async false
set_option linter.all false
set_option maxRecDepth 100000
set_option maxHeartbeats 4000000
namespace Sw
open PySem PySem.Spec PyProof.Rows L2
/-! ### calls with a starred argument and keywords -/
theorem callWith_SK {M : Model} {A : Around} {E : Value → Shared → Prop} {s : Shared} {f : Value} {first : List Value} {pos : Pos} {Q : Value → Shared → Prop} {P : Heap → Prop} {args : List (Bool × Sem Value)} {keywords : List (Option Str × Sem Value)} (hst : (args.any (·.1) || keywords.any (·.1.isNone)) = true)
    (hk : ∀ h, P h → ∃ k, (k = Keeper.frame ∨ k = Keeper.machine ∨ k = Keeper.boundFrame) ∧ PySem.W.Looks M h (keeperOf f) k)
    (h : wpAny M A (evalArgs f true args keywords) (fun a s₁ => P s₁.heap ∧ wpAny M A (call f (first ++ a.pos) a.kw) Q E s₁) E s) : wpAny M A (callWith pos f first args keywords) Q E s := by
  unfold callWith
  refine wpAny_bind (wpAny_holding (wpAny_mono h (fun a s₁ h₁ => wpAny_bind (wpAny_standAt ?_)) fun _ _ x => x))
  obtain ⟨k, hk', L⟩ := hk _ h₁.1
  simp only [hst]
  refine wpAny_bind (L.here ?_)
  have tail : ∀ {t : Sem Value}, wpAny M A t Q E s₁ → wpAny M A (t >>= fun r => holding [r] point >>= fun _ => pure r) Q E s₁ :=
    fun ht => wpAny_bind (wpAny_mono ht (fun r s₂ hr => wpAny_bind (wpAny_holding (wpAny_point (wpAny_pure hr)))) fun _ _ x => x)
  have marked (mk : Value) : wpAny M A (callMarked mk f (first ++ a.pos) a.kw) Q E s₁ := by unfold callMarked; exact Calls.wpAny_keep h₁.2
  rcases hk' with rfl | rfl | rfl <;> dsimp only <;> first | exact tail (marked _) | exact tail (wpAny_operating h₁.2)
/-- a callee of n positional values at least, keywords ks -/
def CalV (P : Program) (w : World) (K : PySem.W.Frag) (mg : Str → Option Value) (base : Heap) (k : Nat) (f : Addr) (n : Nat) (ks : List Str) (sp : SpC) : Prop :=
  ∀ (A : Around) (outer : List Env) (s : Shared) (H : Hp) (us ws : List Value) (vs zs : List V) (Q : VK) (E : XK), Room k A → Env0 P w K mg base A outer s H → Vals vs us → Vals zs ws → n ≤ vs.length → zs.length = ks.length → sp vs zs H Q E →
    codeAny (model P w) A (.call (.ref f) ⟨us, ks.zip ws⟩) (CR (L2.CX P w) outer P w H s Q E) s
structure GMkV (P : Program) (w : World) (K : PySem.W.Frag) (mg : Str → Option Value) (base : Heap) (k : Nat) (x : Str) (C : Addr) (n : Nat) (ks : List Str) (sp : SpC) : Prop where
  at_ : mg x = some (.ref C)
  ex : ∃ f, Mk K C f ∧ CalV P w K mg base k f (n + 1) ks sp
section
variable {X : Cx} {k n : Nat} {f C : Addr} {ks : List Str} {sp : SpC} {W : WX} {x : Str} {p pos : Pos} {e : Expr} {es : List Expr} {kws : List Keyword} {t tk : TA}
theorem run_mkV {pins : List (Addr × Obj)} {σ : L2.St} {H : Hp} {s : Shared} {Q : VK} {us ws : List Value} {vs zs : List V} (M : Mk X.K C f) (F : CalV X.prog X.w X.K X.mg X.base k f (n + 1) ks sp) (hr : Room (k + 1) X.A) (tw : Takes X W)
    (I : Inv X pins σ H s) (r : Vals vs us) (rz : Vals zs ws) (l1 : n ≤ vs.length) (l2 : zs.length = ks.length)
    (h : ∀ x dx, H x = none → H dx = none → dx ≠ x → sp (.ref x :: vs) zs (upd (upd H dx (.own x)) x (.ins C dx [])) (fun v H2 => v = .non ∧ Q (.ref x) H2) (WE W σ)) :
    wpAny (model X.prog X.w) X.A (call (.ref C) us (ks.zip ws)) (EP X pins σ Q) X.xe s := by
  have hq := h (s.heap.objs.size + 1) s.heap.objs.size (I.hok.fresh (Nat.le_succ _)) (I.hok.fresh (Nat.le_refl _)) (Nat.ne_of_lt (Nat.lt_succ_self _))
  have I2 := Inv.made (C := C) I
  have r1 : Vals (V.ref (s.heap.objs.size + 1) :: vs) (Value.ref (s.heap.objs.size + 1) :: us) := .cons rfl r
  have n1 : n + 1 ≤ (V.ref (s.heap.objs.size + 1) :: vs).length := by
    rw [List.length_cons]
    omega
  refine wpAny_call (make_map (f := f) I.kIn M.makes M.init (beq_iff_eq.mp M.fn) (codeAny_mono (F _ X.stack _ _ (Value.ref (s.heap.objs.size + 1) :: us) ws _ _ _ (WE W σ) (hr.make C us (ks.zip ws))
    (I2.env0.make C us (ks.zip ws)) r1 rz n1 l2 hq) fun r s' hq' => ?_))
  cases r with
  | error e => exact passAt tw σ pins _ _ e s' I2 hq'
  | ok fl =>
    cases fl with
    | ret u =>
      obtain ⟨v, H', I3, rv, ev, q3⟩ := I2.after hq'
      subst ev
      exact ⟨rv, ⟨V.ref (s.heap.objs.size + 1), H', I3, rfl, q3⟩⟩
    | next => exact False.elim hq'
    | brk => exact False.elim hq'
    | cont => exact False.elim hq'
/-- C(e, *y, .., k = v) -/
def tMkV (C : Addr) (n m : Nat) (sp : SpC) (W : WX) (t tk : TA) : TE := fun σ H Q => t σ H fun vs H1 => tk σ H1 fun zs H2 => n ≤ vs.length ∧ zs.length = m ∧ ∀ x dx, H2 x = none → H2 dx = none → dx ≠ x →
  sp (.ref x :: vs) zs (upd (upd H2 dx (.own x)) x (.ins C dx [])) (fun v H3 => v = .non ∧ Q (.ref x) H3) (WE W σ)
theorem pe_makeV (G : GMkV X.prog X.w X.K X.mg X.base k x C n ks sp) (hr : Room (k + 1) X.A) (tw : Takes X W) (ha : PA X (e :: es) t) (hkw : PK X kws tk) (hg : Gl X x := by rfl)
    (hall : (backToKw pos (keywordEach kws X.env)).all (·.1.isSome) = true := by rfl) (hks : (backToKw pos (keywordEach kws X.env)).filterMap (·.1) = ks := by rfl) (hdb : (x == ("__debug__" : Str)) = false := by decide)
    (he : starEach (e :: es) X.env = (false, eval e X.env) :: starEach es X.env := by rfl) (hpl : ((backTo pos (starEach (e :: es) X.env)).any (·.1) || (backToKw pos (keywordEach kws X.env)).any (·.1.isNone)) = true := by rfl) :
    PE X (.Call (.Name x p) (e :: es) kws pos) (tMkV C n ks.length sp W t tk) := by
  refine ⟨fun pins s σ H Q I h => ?_⟩
  obtain ⟨f, M, F⟩ := G.ex
  refine wpAny_Call_Name_kw (ld_glob I hg G.at_ ?_ hdb)
  refine callWith_SK (first := []) hpl (PySem.W.keeps_K M.kp) (PyProof.Rows.evalArgs_kw2 hall (thn (ha.run pos pins s σ H _ I h) fun us s1 ⟨vs, H1, I1, r, q⟩ => ?_) he)
  refine thn (hkw.run pos pins s1 σ H1 _ I1 q) fun ws s2 ⟨zs, H2, I2, rz, l1, l2, q2⟩ => ⟨I2.kIn, ?_⟩
  rw [hks]
  exact run_mkV M F hr tw I2 r rz l1 l2 q2
/-- C(*y) -/
def tMkV1 (K : PySem.W.Frag) (C : Addr) (n : Nat) (sp : SpC) (W : WX) (te : TE) : TE := fun σ H Q => te σ H fun y H1 => ∃ a xs, y = V.ref a ∧ (SqT K H1 a xs ∨ SqL K H1 a xs) ∧ n ≤ xs.length ∧ ∀ x dx, H1 x = none → H1 dx = none → dx ≠ x →
  sp (.ref x :: xs) [] (upd (upd H1 dx (.own x)) x (.ins C dx [])) (fun v H3 => v = .non ∧ Q (.ref x) H3) (WE W σ)
theorem pe_makeV1 {te : TE} {sp_ : Pos} (G : GMkV X.prog X.w X.K X.mg X.base k x C n [] sp) (hr : Room (k + 1) X.A) (tw : Takes X W) (he : PE X e te) (hg : Gl X x := by rfl) (hdb : (x == ("__debug__" : Str)) = false := by decide)
    (hst : starEach [.Starred e sp_] X.env = [(true, eval e X.env)] := by rfl) : PE X (.Call (.Name x p) [.Starred e sp_] [] pos) (tMkV1 X.K C n sp W te) := by
  refine ⟨fun pins s σ H Q I h => ?_⟩
  obtain ⟨f, M, F⟩ := G.ex
  refine wpAny_Call_Name_kw (ld_glob I hg G.at_ ?_ hdb)
  refine PySem.W.callWith_S (h₀ := X.base) I.ok.mod.kin M.kp (thn (he.run pins s σ H _ I h) fun v s1 ⟨y, H1, I1, ry, a, xs, ey, hxs, l1, q⟩ => ?_) hst
  subst ey
  obtain rfl : v = Value.ref a := ry
  refine StX.star_any I1 hxs fun us s2 I2 rv => ⟨I2.kIn, ?_⟩
  have z := run_mkV (ks := []) (ws := []) (zs := []) M F hr tw I2 rv .nil l1 rfl q
  rw [List.zip_nil_left] at z
  exact z
end
/-! ### defs with a star parameter (and keyword-only ones, all given) -/
section
variable {P : Program} {w : World} {K : PySem.W.Frag} {mg : Str → Option Value} {base : Heap} {k n : Nat} {f : Addr} {name qual : Str} {params : Arguments} {body : List Stmt} {scope : Scope} {dV kV doc pm cdv ct oc : Value} {an od : Option Addr} {osl : Array (Option Value)} {N ps ks : List Str} {sp : Sp}
/-- what it binds: the positional ones, the tuple of the rest, the keyword-only ones, in the order g -/
theorem fn_starK (g : {α : Type} → List α → α → List α → List α) (grel : ∀ {ws : List V} {us : List Value} {t : V} {u : Value} {zs : List V} {vs : List Value}, Vals ws us → RelV t u → Vals zs vs → Vals (g ws t zs) (g us u vs)) (glen : ∀ {ws : List V} {t : V} {zs : List V}, ws.length = n → zs.length = ks.length → (g ws t zs).length = ps.length)
    (lk : K.lookup f = some ⟨oc, od, .func (PySem.W.fnOf name qual params body scope dV kV doc pm an cdv ct), osl⟩) (hcd : PySem.W.codeIn K cdv qual = true) (S : FnScope N ps scope)
    (hb : ∀ us rest ws : List Value, us.length = n → ws.length = ks.length → bindArgs (PySem.W.fnOf name qual params body scope dV kV doc pm an cdv ct) ⟨us ++ rest, ks.zip ws⟩ = (newTuple rest >>= fun t => pure (ps.zip (g us t ws))))
    (hbody : ∀ (A : Around) (outer : List Env) (s : Shared) (H : Hp) (vs : List V) (Q : VK) (E : XK), Room k (A.deeper (envOfC qual scope s.heap.objs.size f cdv)) →
      Takes (cxOf (L2.CX P w) P w K mg base N qual scope f cdv A outer s H E) (fun cls d _ H => E cls d H) →
      PassesOwn (model P w) (A.deeper (envOfC qual scope s.heap.objs.size f cdv)) (envOfC qual scope s.heap.objs.size f cdv) (cxOf (L2.CX P w) P w K mg base N qual scope f cdv A outer s H E).xe → sp vs H Q E →
      ∃ t, PSs (cxOf (L2.CX P w) P w K mg base N qual scope f cdv A outer s H E) body t ∧ t { nx := fun _ H' => Q .non H', rt := Q } (L2.start N vs) H) :
    CalV P w K mg base (k + 1) f n ks (fun vs zs H Q E => ∃ ws rest, vs = ws ++ rest ∧ ws.length = n ∧ rest.length ≤ sizeLine ∧ ∀ p, H p = none → sp (g ws (V.ref p) zs) (upd H p (.tup rest)) Q E) := by
  intro A outer s H us ws0 vs zs Q E hr e0 r rz _ l2 hsp
  obtain ⟨ws, rest, ev, hl, hz, hq⟩ := hsp
  subst ev
  obtain ⟨u1, u2, eu, r1, r2⟩ := StX.vals_split r
  subst eu
  have hn : H s.heap.objs.size = Option.none := e0.hok.fresh (Nat.le_refl _)
  have hl1 : u1.length = n := by rw [← r1.length]; exact hl
  have hl2 : u2.length ≤ sizeLine := by rw [← r2.length]; exact hz
  refine StX.run_bnd lk hcd S hr e0 (G := fun xs H2 => ∃ p, H p = Option.none ∧ xs = g ws (V.ref p) zs ∧ H2 = upd H p (.tup rest)) (fun A' Ex Q' h => ?_) fun s2 H2 xs ⟨p, hp, ex, eH⟩ hr' => ?_
  · rw [hb u1 u2 ws0 hl1 (rz.length.symm.trans l2)]
    refine wpAny_bind (wpAny_newTuple (wpAny_pure ?_) hl2)
    have new : ObjOk P w (upd H s.heap.objs.size (.tup rest)) (s.heap.push ({ cls := .type "tuple", data := .seq u2.toArray } : Obj)) s.heap.objs.size (.tup rest) := ⟨hz, u2, r2, ⟨_, Heap.get?_push_size _ rfl, rfl, _, rfl⟩⟩
    have un := StX.un_laid (fs := frs outer) (s := s) (o := ({ cls := .type "tuple", data := .seq u2.toArray } : Obj)) (u := .tup rest) hn
    exact h _ _ (g ws (V.ref s.heap.objs.size) zs) (g u1 (Value.ref s.heap.objs.size) ws0) (StX.env0_laid e0 new) un rfl (fun e s' => StX.cxUp outer s H _ _ E e s' un (fun b o q => Heap.get?_push_of_some _ q) rfl) (grel r1 rfl rz) (glen hl l2) ⟨_, hn, rfl, rfl⟩
  · subst ex eH
    exact hbody A outer s2 _ _ Q E hr' (takes_of rfl rfl rfl rfl) (passes_of (X := cxOf (L2.CX P w) P w K mg base N qual scope f cdv A outer s2 (upd H p (.tup rest)) E) rfl) (hq p hp)
end
end Sw

set_option Elab.async false
set_option linter.all false
set_option maxRecDepth 100000
set_option maxHeartbeats 4000000
namespace Sw
open PySem PySem.Spec PyProof.Rows L2
/-! ### list(d.values()) -/
def tLVals (td : TE) : TE := fun σ H Q => td σ H fun x H1 => ∃ d kvs, x = .ref d ∧ H1 d = some (.dK kvs) ∧ NewO (.lst (kvs.map (·.2))) H1 Q
section
variable {X : Cx} {o : Expr} {td : TE} {p pos apos cpos : Pos}
theorem pe_listVals (hc : X.calm = true) (hg : Gl X "list") (hm : X.mg "list" = none) (hv : bootBuiltins "list" = some (.type "list")) (hd : PE X o td) (hbase : attributeBase o "values" X.env (eval o X.env) = eval o X.env := by rfl) (hline : (apos.endLine == cpos.line) = true := by rfl)
    (he : starEach [.Call (.Attribute o "values" apos) [] [] cpos] X.env = (false, eval (.Call (.Attribute o "values" apos) [] [] cpos) X.env) :: starEach [] X.env := by rfl) (hpl : (backTo pos (starEach [] X.env)).any (·.1) = false := by rfl) :
    PE X (.Call (.Name "list" p) [.Call (.Attribute o "values" apos) [] [] cpos] [] pos) (tLVals td) := by
  refine ⟨fun pins s σ H Q I h => ?_⟩
  refine wpAny_Call_Name_kw (ld_blt I hg hm hv ?_ (by decide) (by decide))
  refine PyProof.Rows.callWith_type1 (args_cons ?_ he) he hpl
  refine wpAny_Call_method (T := "dict") (id := "dict.values") hbase rfl hline F.plainAttrs_dict F.slot_dict_values F.type_dict_values (thn (hd.run pins s σ H _ I h) fun u s1 ⟨x, H1, I1, rx, d, kvs, ex, ea, q⟩ => ?_)
  subst ex
  obtain rfl : u = Value.ref d := rx
  have hx : ObjOk X.prog X.w H1 s1.heap d (.dK kvs) := I1.hok d _ ea
  obtain ⟨hz, hs, vs, kv, hD⟩ := hx
  have hl : kvs.length = vs.length := Paired.length kv
  refine ⟨hD.typeIs, hD.mapOf.noDict, ?_⟩
  have I2 : Inv X pins σ H1 { s1 with heap := s1.heap.push { cls := .type "dict_values", data := .fields #[.ref d] } } := I1.kept (t' := s1.toks) fun b ob q => Heap.get?_push_of_some _ q
  have hD2 : (s1.heap.push { cls := .type "dict_values", data := .fields #[.ref d] }).DictOf (mixKind X.prog X.w) d vs := by
    have hx2 : ObjOk X.prog X.w H1 (s1.heap.push { cls := .type "dict_values", data := .fields #[.ref d] }) d (.dK kvs) := I2.hok d _ ea
    have hx1 : ObjOk X.prog X.w H1 s1.heap d (.dK kvs) := I1.hok d _ ea
    obtain ⟨od, es, ep, e1, e2⟩ := hD
    exact ⟨od, es, ep, Heap.get?_push_of_some _ e1, e2⟩
  have rvals : Vals (kvs.map (·.2)) (vs.map (·.2)) := by
    clear h q hD hD2 hl I2 I1 hz hs ea
    induction kv with
    | nil => exact .nil
    | cons r _ ih => exact .cons r.2 ih
  have fin : wpAny (model X.prog X.w) X.A (spliced (backTo pos (starEach [] X.env))) (fun us s2 => wpAny (model X.prog X.w) X.A (call (.type "list") (Value.ref s1.heap.objs.size :: us)) (EP X pins σ Q) X.xe s2) X.xe { s1 with heap := s1.heap.push { cls := .type "dict_values", data := .fields #[.ref d] } } := by
    refine args_nil ?_
    obtain ⟨ep, hat⟩ := hD2.dictAt
    refine PySem.W.kdl_call (PySem.W.kdl_values (knd := mixKind X.prog X.w) (kvs := vs) (ep := ep)) (I.ok.hd hc) ⟨⟨_, Heap.get?_push_size _ rfl, rfl, rfl⟩, hat⟩ (by rw [← hl]; exact hz) fun h' tk acc c' kp hB hacc => ?_
    have eacc : acc.toList = vs.map (·.2) := PySem.W.kdl_vals_eq acc.toList (by rw [Array.length_toList]; exact hacc.1) fun j v e => hacc.2 j v (by rw [← Array.getElem?_toList]; exact e)
    have hn : H1 (s1.heap.objs.size + 1) = none := I1.hok.fresh (Nat.le_succ _)
    have sz : (s1.heap.push ({ cls := .type "dict_values", data := .fields #[.ref d] } : Obj)).objs.size = s1.heap.objs.size + 1 := Heap.size_push _ _
    have I3 : Inv X pins σ (upd H1 (s1.heap.objs.size + 1) (.lst (kvs.map (·.2)))) { s1 with heap := h', toks := tk } := by
      refine I1.laid (t' := tk) (fun b ob e => kp b ob (Heap.get?_push_of_some _ e)) (Nat.le_succ _) ⟨by rw [List.length_map]; exact hz, vs.map (·.2), c', rvals, ?_⟩
      show h'.get? (s1.heap.objs.size + 1) = _
      rw [← eacc, Array.toArray_toList]
      have := hB
      rw [sz] at this
      exact this
    show EP X pins σ Q (.ref (s1.heap.push ({ cls := .type "dict_values", data := .fields #[.ref d] } : Obj)).objs.size) _
    rw [sz]
    exact ⟨.ref (s1.heap.objs.size + 1), _, I3, rfl, q _ hn⟩
  show wpAny _ _ (callWith cpos (.builtin "dict.values") [.ref d] [] []) _ X.xe s1
  exact method_meetsIn F.slot_dict_values F.entry_dict_values rfl (PySem.evalArgs_none ⟨rfl, hD.typeIs, F.args_dict_values_1 _, _, meets_dict_values (mixKind X.prog X.w) d hs, ⟨vs, hD⟩, fin⟩)
end

/-! ### dicts by text: in, not in, == {} -/
def rInDk : R2 := fun x y H Q => ∃ a o, y = .ref a ∧ DGet H a x o ∧ Q (.bl o.isSome) H
def rNiDk : R2 := fun x y H Q => ∃ a o, y = .ref a ∧ DGet H a x o ∧ Q (.bl (!o.isSome)) H
def rEqDE : R2 := fun x y H Q => ∃ a b kvs, x = .ref a ∧ y = .ref b ∧ H a = some (.dK kvs) ∧ H b = some (.dK []) ∧ Q (.bl kvs.isEmpty) H
section
variable {X : Cx}
theorem op_inDk (hu : X.A.units + 1 < cLine) : OpR X (compareOp .In) rInDk := by
  intro pins s σ H x y v u Q I rx ry h
  obtain ⟨a, o, rfl, g, q⟩ := h
  obtain rfl : u = Value.ref a := ry
  exact d_in hu I g rx fun s3 I3 => ⟨.bl o.isSome, H, I3, rfl, q⟩
theorem op_niDk (hu : X.A.units + 1 < cLine) : OpR X (compareOp .NotIn) rNiDk := by
  intro pins s σ H x y v u Q I rx ry h
  obtain ⟨a, o, rfl, g, q⟩ := h
  obtain rfl : u = Value.ref a := ry
  exact d_notIn hu I g rx fun s3 I3 => ⟨.bl (!o.isSome), H, I3, rfl, q⟩
theorem op_eqDE (hu : X.A.units < cLine) : OpR X (compareOp .Eq) rEqDE := by
  intro pins s σ H x y v u Q I rx ry h
  obtain ⟨a, b, kvs, rfl, rfl, ea, eb, q⟩ := h
  obtain rfl : v = Value.ref a := rx
  obtain rfl : u = Value.ref b := ry
  obtain ⟨_, ya, va, ra, da⟩ := (show ObjOk X.prog X.w H s.heap a (.dK kvs) from I.hok a _ ea)
  obtain ⟨_, yb, vb, rb, db⟩ := (show ObjOk X.prog X.w H s.heap b (.dK []) from I.hok b _ eb)
  cases rb
  refine PySem.W.keq_eq (knd := mixKind X.prog X.w) (r := true) ya yb da db hu (fun e => ?_) (fin_bl I q ?_)
  · rw [List.length_eq_zero_iff.mp e]
    exact .nil
  · have hl := Paired.length ra
    cases kvs with
    | nil =>
      cases ra
      rfl
    | cons p r =>
      cases ra
      rfl
end
/-! ### their steps -/
section
variable {G H : Hp} {R : Res} {Q : VK} {a b : Addr} {kvs : List (Key × V)} {z : Str} {σ : L2.St} {td ty : TE}
theorem g_inDk (w : Wd G R H) (h : G a = some (.dK kvs)) (k : Q (.bl (valV kvs (.inr z)).isSome) H) : rInDk (.str z) (.ref a) H Q := ⟨a, _, rfl, DGet.k (k := .inr z) (w.get h), k⟩
theorem g_niDk (w : Wd G R H) (h : G a = some (.dK kvs)) (k : Q (.bl (!(valV kvs (.inr z)).isSome)) H) : rNiDk (.str z) (.ref a) H Q := ⟨a, _, rfl, DGet.k (k := .inr z) (w.get h), k⟩
theorem g_eqDE (w : Wd G R H) (h : G a = some (.dK kvs)) (h2 : G b = some (.dK [])) (k : Q (.bl kvs.isEmpty) H) : rEqDE (.ref a) (.ref b) H Q := ⟨a, b, kvs, rfl, rfl, w.get h, w.get h2, k⟩
theorem g_dget (k : td σ H fun x H1 => ty σ H1 fun y H2 => ∃ a v, x = .ref a ∧ DGet H2 a y (some v) ∧ Q v H2) : tDGet td ty σ H Q := k
theorem g_dgetE {P : V → Prop} {v : V} (w : Wd G R H) (h : G a = some (.dK kvs)) (hv : valV kvs (.inr z) = some v) (k : P v) : ∃ a' v', V.ref a = .ref a' ∧ DGet H a' (.str z) (some v') ∧ P v' := ⟨a, v, rfl, by rw [← hv]; exact DGet.k (k := .inr z) (w.get h), k⟩
theorem g_lvals (k : td σ H fun x H1 => ∃ d kvs, x = .ref d ∧ H1 d = some (.dK kvs) ∧ NewO (.lst (kvs.map (·.2))) H1 Q) : tLVals td σ H Q := k
end
end Sw

set_option Elab.async false
set_option linter.all false
set_option maxRecDepth 100000
set_option maxHeartbeats 4000000
namespace PySem.HandSPX
namespace KW
open PySem PySem.Spec PySem.Calls PyProof.Rows
section
variable {prog : Program} {w : World} {M : Model} {A : Around} {E : Value → Shared → Prop} {R : Result → Shared → Prop} {h : Heap} {g : Array GenState} {d : Drawn} {t : Nat} {os : OsState}
variable {nm q : Str} {C N : Addr} {bs bm bmB : List Value} {hdct : Bool} {sn : List Str} {sub : List Value} {ab : Bool} {col : Option Bool} {dd : Option Addr} {k0 k1 k2 k3 k5 : Option Value} {B newId initId : String}
theorem check_new_own (F : ExcBaseFacts B newId initId bmB) (hT : ∀ X : String, bm.contains (.type X) = bmB.contains (.type X)) {rest : List Value} {kw : List (Str × Value)} {Q : Unit → Shared → Prop}
    (hC : h.get? C = some (excClassObj nm q C N bs bm hdct sn sub ab col dd k0 k1 k2 k3 k5 newId)) (hq : Q () ⟨h, g, d, t, os⟩) : wpAny M A (checkBuiltinCall newId ⟨.ref C :: rest, kw⟩) Q E ⟨h, g, d, t, os⟩ := by
  have hcont : (Value.ref C :: bm).contains (.type B) = true := by rw [List.contains_cons, hT, F.hasB, Bool.or_true]
  have hstar := F.noStar
  simp only [checkBuiltinCall, F.newKind, F.newSplit, F.newRow]
  repeat (first | refine wpAny_loadPart_at hC ?_ | (refine wpAny_isSubtype_exc hC ?_; rw [hcont]) | refine wpAny_staticBase_exc hC ?_ | refine wpAny_madeBy_exc hC ?_ | simp only [bne_self_eq_false, Bool.false_eq_true, if_false] | wp_step)
  exact hq
theorem new_own (F : ExcBaseFacts B newId initId bmB) (hT : ∀ X : String, bm.contains (.type X) = bmB.contains (.type X)) {rest : List Value} {kw : List (Str × Value)}
    (hC : h.get? C = some (excClassObj nm q C N bs bm hdct sn sub ab col dd k0 k1 k2 k3 k5 newId))
    (hq : R (.ok (.ret (.ref (h.objs.size + 1)))) ⟨(h.push { cls := .type "tuple", data := .seq rest.toArray }).push
      { cls := .ref C, data := .fields #[.ref h.objs.size, .none, .none, .none, .bool false, .none] }, g, d, t, os⟩) (hrest : rest.length ≤ sizeLine) :
    codeAny (model prog w) A (.builtin newId ⟨.ref C :: rest, kw⟩) R ⟨h, g, d, t, os⟩ := by
  have hends := F.ends
  have hcB : (Value.ref C :: bm).contains (.type B) = true := by rw [List.contains_cons, hT, F.hasB, Bool.or_true]
  have hcA : (Value.ref C :: bm).contains (.type "AttributeError") = false := by rw [List.contains_cons, hT, F.noAttr]; rfl
  have hcN : (Value.ref C :: bm).contains (.type "NameError") = false := by rw [List.contains_cons, hT, F.noName]; rfl
  refine codeAny_builtinAt F.entry ?_
  unfold Builtin.«BaseException.__new__»
  refine wpAt_bind ?_
  show wpAt _ _ _ (stack >>= _) _ _ _
  refine wpAt_bind (wpAt_stack fun p below => wpAt_of_wpAny ?_)
  wp_walk
  refine wpAt_of_wpAny ?_
  rw [F.owner]
  repeat (first | with_reducible refine wpAny_madeHere_exc F.canon hC ?_ | with_reducible refine wpAny_loadPart_at hC ?_ | (with_reducible refine wpAny_isSubtype_exc hC ?_; first | rw [hcB] | rw [hcA] | rw [hcN]) | wp_step)
  show R _ _
  rw [Heap.size_push]
  exact hq

theorem type_call_own (F : ExcBaseFacts B newId initId bmB) (hT : ∀ X : String, bm.contains (.type X) = bmB.contains (.type X)) {rest : List Value} {kw : List (Str × Value)} {fI : Addr} {Q : Fin → Shared → Prop}
    (hC : h.get? C = some (excClassObj nm q C N bs bm hdct sn sub ab col dd k0 k1 k2 k3 k5 newId))
    (hi : W.Looks (model prog w) h (typeLookup (.ref C) "__init__") (some (.ref fI))) (hb : ∀ self, W.Looks (model prog w) h (bindSpecial (.ref fI) self) (.ref fI, [self])) (hrest : rest.length ≤ sizeLine)
    (hq : codeAny (model prog w) A (.call (.ref fI) ⟨.ref (h.objs.size + 1) :: rest, kw⟩)
      (fun r s' => match r with | .ok (.ret v) => v = .none ∧ Q (.done (.ret (.ref (h.objs.size + 1)))) s' | .ok _ => False | .error e => E e s')
      ⟨(h.push (W.kdv_tup rest)).push (excO C h.objs.size), g, d, t, os⟩) :
    wpAny (model prog w) A (Builtin.«type.__call__» ⟨.ref C :: rest, kw⟩) Q E ⟨h, g, d, t, os⟩ := by
  repeat (first | with_reducible refine wpAny_loadPart_at hC ?_ | with_reducible refine wpAny_madeBy_exc hC ?_ | wp_step)
  refine codeAny_call_builtin_code (Code.quiet_builtin _ F.quiet) (check_new_own F hT hC ?_)
  refine new_own F hT hC ?_ hrest
  show wpAny _ _ _ _ _ _
  have k : ∀ b o, h.get? b = some o → ((h.push (W.kdv_tup rest)).push (excO C h.objs.size)).get? b = some o := fun b o e => Heap.get?_push_of_some _ (Heap.get?_push_of_some _ e)
  have hC₁ := k _ _ hC
  have hget : ((h.push (W.kdv_tup rest)).push (excO C h.objs.size)).get? (h.objs.size + 1) = some (excO C h.objs.size) := by heap_get
  have hcC : (Value.ref C :: bm).contains (.ref C) = true := by simp
  have i1 := hi.keeps k
  have b1 := (hb (.ref (h.objs.size + 1))).keeps k
  unfold isInstance
  repeat (first | with_reducible refine wpAny_loadPart_at hget ?_ | (with_reducible refine wpAny_isSubtype_exc hC₁ ?_; rw [hcC]) | wp_step)
  show wpAny _ _ (typeLookup (.ref C) _) _ _ _
  refine i1.at ?_
  refine wpAny_holding (wpAny_bind (b1.at ?_))
  refine wpAny_bind (wpAny_call (codeAny_mono hq fun r s' z => ?_))
  rcases r with e | (v | _ | _ | _) <;> first | exact z | exact z.elim | skip
  obtain ⟨rfl, z⟩ := z
  first
    | exact wpAny_pure (wpAny_pure z)
    | (wp_walk; exact z)

theorem call_own (F : ExcBaseFacts B newId initId bmB) (hT : ∀ X : String, bm.contains (.type X) = bmB.contains (.type X)) {rest : List Value} {kw : List (Str × Value)} {fI : Addr}
    (hC : h.get? C = some (excClassObj nm q C N bs bm hdct sn sub ab col dd k0 k1 k2 k3 k5 newId))
    (hi : W.Looks (model prog w) h (typeLookup (.ref C) "__init__") (some (.ref fI))) (hb : ∀ self, W.Looks (model prog w) h (bindSpecial (.ref fI) self) (.ref fI, [self])) (hrest : rest.length ≤ sizeLine)
    (hq : codeAny (model prog w) (A.under (.builtin "type.__call__" ⟨.ref C :: rest, kw⟩)) (.call (.ref fI) ⟨.ref (h.objs.size + 1) :: rest, kw⟩) (W.InitBack (h.objs.size + 1) R)
      ⟨(h.push (W.kdv_tup rest)).push (excO C h.objs.size), g, d, t, os⟩) :
    codeAny (model prog w) A (.call (.ref C) ⟨rest, kw⟩) R ⟨h, g, d, t, os⟩ := by
  have f1 := tc_lookup
  have f2 := tc_bind (.ref C)
  have hTy : (⟨h, g, d, t, os⟩ : Shared).TypeIs (.ref C) "type" := ⟨_, hC, rfl⟩
  refine codeAny_of_tree ?_
  show wpAny _ _ (callAny (.ref C) _) _ _ _
  repeat (any_goals (first | assumption | with_reducible refine wpAny_loadPart_at hC ?_ | wp_step))
  refine ⟨rfl, ?_⟩
  refine codeAny_call_builtin_at (Code.quiet_builtin _ (by decide +kernel)) entry_typeCall (wpAny_check_type_call_sub hC (type_call_own F hT hC hi hb hrest ?_))
  refine codeAny_mono hq fun r s' z => ?_
  rcases r with e | (v | _ | _ | _) <;> exact z

end
end KW
end PySem.HandSPX

set_option Elab.async false
set_option linter.all false
set_option maxRecDepth 100000
set_option maxHeartbeats 4000000
namespace Sw
open PySem PySem.Spec PyProof.Rows L2
/-! ### an exception kept as a value -/
/-- an exception object of the class cls with the dict d stands at a (raised or not) -/
def exv (a : Addr) (cls : Value) (d : Option Addr) : HO := .ext fun h => ∃ (oe : Obj) (vs : Array Value), h.get? a = some oe ∧ Zc cls d oe ∧ oe.data = .fields vs
section
variable {X : Cx} {pins : List (Addr × Obj)} {σ : L2.St} {H : Hp} {s : Shared} {a : Addr} {oe : Obj} {cls : Value} {d : Option Addr}
theorem exv_ok {P : Program} {w : World} {h : Heap} (e : h.get? a = some oe) (z : Zc cls d oe) (hf : ∃ vs, oe.data = .fields vs) : ObjOk P w H h a (exv a cls d) := by
  obtain ⟨vs, hd⟩ := hf
  exact ⟨⟨oe, vs, e, z, hd⟩, ⟨_, e⟩, fun h1 h2 ⟨o, us, q1, q2, q3⟩ k => ⟨o, us, k _ q1, q2, q3⟩⟩
theorem exv_at {P : Program} {w : World} {h : Heap} (hok : HOk P w H h) (e : H a = some (exv a cls d)) : ∃ (oe : Obj) (vs : Array Value), h.get? a = some oe ∧ Zc cls d oe ∧ oe.data = .fields vs := by
  have x : ObjOk P w H h a (.ext fun h => ∃ (oe : Obj) (vs : Array Value), h.get? a = some oe ∧ Zc cls d oe ∧ oe.data = .fields vs) := hok a _ e
  exact x.1
/-- what was pinned in the suite stays pinned behind it -/
theorem unsuiteK {q : Addr × Obj} {pn' : List (Addr × Obj)} (I : Inv (X.suite a (q :: (X.pn ++ pins))) pn' σ H s) (ok : X.Ok) : Inv X (q :: pins) σ H s :=
  ⟨ok, I.os, I.bare, I.base, I.loc, I.cell, I.free, I.freeC, fun p hp => by
    refine I.pin p (List.mem_append_left _ ?_)
    rcases List.mem_append.mp hp with h | h
    · exact List.mem_cons_of_mem _ (List.mem_append_left _ h)
    · rcases List.mem_cons.mp h with h | h
      · rw [h]; exact List.mem_cons_self
      · exact List.mem_cons_of_mem _ (List.mem_append_right _ h), I.hok, I.len⟩
/-- an object new since the entry, pinned, is tracked -/
theorem Inv.track (I : Inv X ((a, oe) :: pins) σ H s) (z : Zc cls d oe) (hf : ∃ vs, oe.data = .fields vs) (hS : X.s_0.heap.get? a = none) (hx : X.ex = []) (hp : ∀ p ∈ X.pn ++ pins, p.1 ≠ a) : Inv X pins σ (upd H a (exv a cls d)) s := by
  obtain ⟨ha, na, nL, nF, nc⟩ := I.pin (a, oe) (List.mem_append_right _ List.mem_cons_self)
  refine ⟨I.ok, I.os, I.bare, ⟨I.base.keep, I.base.slot, fun b o e n hx' => ?_, I.base.there, fun b xs e => ?_, fun b o u e => ?_, fun b ps e => ?_⟩, I.loc, I.cell, ?_, fun x c e => ?_, fun p hp' => ?_, HOk.laidN I.hok (fun _ _ q => q) na (exv_ok ha z hf), I.len⟩
  · rw [upd_ne (fun q => by rw [q, hS] at e; cases e)]
    exact I.base.free b o e n hx'
  · have := I.base.tups b xs e
    rw [upd_ne (ne_of_none this na)]
    exact this
  · have := I.base.frzs b o u e
    rw [upd_ne (ne_of_none this na)]
    exact this
  · obtain ⟨more, q⟩ := I.base.tbls b ps e
    exact ⟨more, by rw [upd_ne (ne_of_none q na)]; exact q⟩
  · rw [upd_ne (Ne.symm nL)]
    exact I.free
  · rw [upd_ne (fun q => ?_)]
    · exact I.freeC x c e
    · obtain ⟨v, o, q1, q2⟩ := I.cell x c e
      rw [q, ha] at q1
      cases q1
      exact nc _ q2
  · obtain ⟨p1, p2, p3⟩ := I.pin p (List.mem_append.mpr ((List.mem_append.mp hp').imp id (List.mem_cons_of_mem _)))
    exact ⟨p1, by rw [upd_ne (hp p hp')]; exact p2, p3⟩
end
/-- what the clause 'except x as n' wishes of an exception of the body: slot i is n's, the exception is kept behind the suite -/
def wKeep (K : PySem.W.Frag) (c : Value) (i : Nat) (ts : Addr → Value → Option Addr → TS) (Wout : WX) (D : Ends) : WX := fun cls d σ H =>
  ∃ b, PySem.W.exmOne K cls c = some b ∧ (b = true → ∀ a, H a = none → ts a cls d { nx := fun σ' H' => D.nx (σ'.set i none) (upd H' a (exv a cls d)), rt := D.rt, bk := fun σ' H' => D.bk (σ'.set i none) (upd H' a (exv a cls d)), ct := fun σ' H' => D.ct (σ'.set i none) (upd H' a (exv a cls d)) } (σ.set i (some (.ref a))) H) ∧
    (b = false → Wout cls d σ H)
section
variable {X : Cx} {x n : Str} {c : Value} {i : Nat} {body suite : List Stmt} {b₀ : Stmt} {np pos pos' : Pos} {tb : WX → TS} {ts : Addr → Value → Option Addr → TS} {Wout : WX}
theorem ps_try_keep (hs : X.stack = X.env :: X.outer) (hf : X.env.frame = some X.env.locals) (hN : X.N.Nodup) (hi : X.N[i]? = some n) (hln : X.env.kindOf n = some .local) (hc : Names X x c) (tk : Takes X Wout) (hx0 : X.ex = [])
    (hb : ∀ (W : WX) (pn : List (Addr × Obj)) (xe : Value → Shared → Prop), Takes (X.tr pn xe) W → PassesOwn (model X.prog X.w) X.A X.env xe → PSs (X.tr pn xe) body (tb W))
    (hsu : ∀ (a : Addr) (oe : Obj) (cls : Value) (d : Option Addr) (pn : List (Addr × Obj)), Zc cls d oe → (∃ vs, oe.data = .fields vs) → PSs (X.suite a ((a, oe) :: pn)) (b₀ :: suite) (ts a cls d)) :
    PS X (.Try body [.ExceptHandler (some (.Name x np)) (some n) (b₀ :: suite) pos'] [] [] pos) (fun D σ H => tb (wKeep X.K c i ts Wout D) D σ H) := by
  refine ⟨fun pins s σ H D I h => ?_⟩
  have ok := I.ok
  have hfr : X.A.frames = some (X.env :: X.outer) := by rw [ok.frames, hs]
  have hloc : Loc X.env.scope n := .inl hln
  refine wpAny_Try_except ?_
  refine wpAny_mono ((hb (wKeep X.K c i ts Wout D) (X.pn ++ pins) (fun e s₁ => wpAny (model X.prog X.w) X.A (noteFrame e X.env) (fun _ s₂ => wpAny (model X.prog X.w) X.A (setFlight e none) (fun _ s₃ =>
    wpAny (model X.prog X.w) X.A (handleBy e X.env [.ExceptHandler (some (.Name x np)) (some n) (b₀ :: suite) pos']) (SP X pins D) X.xe s₃) X.xe s₂) X.xe s₁) (fun u s' xx => ?_) PassesOwn.looking).run [] s σ H D (I.toTry _) h) (fun f s1 hsp => ?_) (fun e s1 he => he)
  · -- the catch
    obtain ⟨a, B, sI, pins', σ', H', cls, d, rfl, J', nb, up, sky, na, os, ag, b, hb1, hyes, hno⟩ := xx
    have J : Inv X pins σ' H' sI := J'.ofTry ok
    have sky' : Sky B (X.env :: X.outer) a (Zc cls d) X.env.locals s'.heap := by rw [← hs]; exact sky
    show wpAny (model X.prog X.w) X.A (noteFrame (.ref a) X.env) _ _ _
    refine Sky.land Zc.steady hfr hf sky' fun h3 fl3 up3 => ?_
    have J3 : Inv X pins σ' H' { s' with heap := h3 } := J.landed nb fl3.1 (up.trans up3) os ag
    obtain ⟨oe3, vs3, he3, hz3, hd3⟩ := fl3.there
    have notFr : ∀ {h : Heap} {o : Obj} {vs : Array Value}, h.FunFrames B (X.env :: X.outer) → h.get? a = some o → o.data = .fields vs → a ∉ frs (X.env :: X.outer) := fun {h o vs} ff e dd hm => by
      obtain ⟨_, o', e', hnf⟩ := ff.mem hm
      rw [e] at e'; cases e'
      exact hnf _ dd
    have nfr := notFr fl3.2.2.1 he3 hd3
    have nL : a ≠ X.env.locals := fun z => nfr (List.mem_filterMap.mpr ⟨X.env, List.mem_cons_self, by rw [hf, z]⟩)
    have nF : a ∉ X.fs := fun hm => by
      obtain ⟨e, he, q⟩ := List.mem_filterMap.mp hm
      exact nfr (List.mem_filterMap.mpr ⟨e, List.mem_cons_of_mem _ he, q⟩)
    have nB : B.get? a = none := fl3.2.1
    have nfs : a ∉ frs X.stack := by rw [hs]; exact nfr
    have nI : sI.heap.get? a = none := by
      cases e : sI.heap.get? a with
      | none => rfl
      | some o => exact absurd (nb a o e nfs) (by rw [nB]; exact fun z => nomatch z)
    have nS : X.s_0.heap.get? a = none := by
      cases e : X.s_0.heap.get? a with
      | none => rfl
      | some o =>
        obtain ⟨o', e'⟩ := J.base.there a o e (by rw [hx0]; exact fun z => nomatch z)
        rw [nI] at e'
        cases e'
    have nP : ∀ p ∈ X.pn ++ pins, p.1 ≠ a := fun p hp z => by
      have := (J.pin p hp).1
      rw [z, nI] at this
      cases this
    have S3 := J3.suite he3 hd3 na nL nF
    refine wpAny_handleBy_cons (codeAny_handlers_test ?_) (by intro q; cases q)
    have LT : PySem.W.Looks (model X.prog X.w) h3 (typeOf (.ref a)) cls := fun A Q E s k q => wpAny_typeOf_ref (k _ _ he3) (by rw [hz3.1]; exact q)
    have LM := PySem.W.exm_one (M := model X.prog X.w) (J3.kIn) LT hb1
    have test : ∀ {Q : Value → Shared → Prop} {E : Value → Shared → Prop}, Q c { s' with heap := h3 } → wpAny (model X.prog X.w) (X.A.mark (some (.ref a))) (eval (.Name x np) X.env) Q E { s' with heap := h3 } := fun {Q E} q => by
      obtain ⟨hg, hdbg, hm | ⟨hm, hv, hnn⟩⟩ := hc
      · exact ld_glob (X := X.suite a ((a, oe3) :: (X.pn ++ pins))) S3 hg hm q hdbg
      · exact ld_blt (X := X.suite a ((a, oe3) :: (X.pn ++ pins))) S3 hg hm hv q hnn hdbg
    refine test (LM.here ?_)
    cases b with
    | true =>
      refine codeAny_handlers_suite_as ?_
      refine HandSPX.lands_againZ fl3 fun h4 fl4 up4 => ?_
      have J4 : Inv X pins σ' H' { s' with heap := h4 } := J.landed nb fl4.1 ((up.trans up3).trans up4) os ag
      obtain ⟨oe4, vs4, he4, hz4, hd4⟩ := fl4.there
      have S4 := J4.suite he4 hd4 na nL nF
      refine store_ok (X := X.suite a ((a, oe4) :: (X.pn ++ pins))) (v := .ref a) S4 hN hi hloc rfl (fun s5 S5 => ?_) (.inr hln)
      refine wpAny_mono ((hsu a oe4 cls d (X.pn ++ pins) hz4 ⟨_, hd4⟩).run [] s5 _ H' _ S5 (hyes rfl a na)) (fun f s6 hsp => ?_) (fun _ _ z => False.elim z)
      have end_ : ∀ {σ6 : L2.St} {H6 : Hp} {Q : Shared → Prop}, Inv (X.suite a ((a, oe4) :: (X.pn ++ pins))) [] σ6 H6 s6 → (∀ s7, Inv X pins (σ6.set i none) (upd H6 a (exv a cls d)) s7 → Q s7) →
          wpAny (model X.prog X.w) X.A (do bindName X.env n .none; unbindBehindTheSuite X.env n pos') (fun _ s7 => Q s7) X.xe s6 := fun {σ6 H6 Q} S6 hq => gone_ok (unsuiteK S6 ok) hN hi hln fun s7 J7 => hq s7 (Inv.track J7 hz4 ⟨_, hd4⟩ nS hx0 nP)
      have endR : ∀ {σ6 : L2.St} {H6 : Hp} {Q : Shared → Prop}, Inv (X.suite a ((a, oe4) :: (X.pn ++ pins))) [] σ6 H6 s6 → (∀ s7, Inv X pins (σ6.set i none) H6 s7 → Q s7) →
          wpAny (model X.prog X.w) X.A (do bindName X.env n .none; unbindBehindTheSuite X.env n pos') (fun _ s7 => Q s7) X.xe s6 := fun {σ6 H6 Q} S6 hq => gone_ok (S6.unsuite ok) hN hi hln hq
      cases f with
      | next =>
        obtain ⟨σ6, H6, S6, q6⟩ := hsp
        exact end_ S6 fun s7 J7 => ⟨_, _, J7, q6⟩
      | brk =>
        obtain ⟨σ6, H6, S6, q6⟩ := hsp
        exact end_ S6 fun s7 J7 => ⟨_, _, J7, q6⟩
      | cont =>
        obtain ⟨σ6, H6, S6, q6⟩ := hsp
        exact end_ S6 fun s7 J7 => ⟨_, _, J7, q6⟩
      | ret u =>
        obtain ⟨v6, σ6, H6, S6, r6, q6⟩ := hsp
        exact endR S6 fun s7 J7 => ⟨_, _, _, J7, r6, q6⟩
    | false =>
      show wpAny _ X.A (handleBy (.ref a) X.env []) _ _ _
      refine wpAny_handleBy_nil ?_
      obtain ⟨k1, k2, k3, oe, vs, T, oT, ts', he, hz, hd, h1, hr⟩ := id fl3
      unfold PySem.passOn
      refine wpAny_bind (wpAny_field he hd h1 ?_)
      rw [if_neg (show ¬ ((Value.ref T == Value.none) = true) from by simp)]
      have fin : wpAny (model X.prog X.w) X.A (setFlight (.ref a) X.env.frame) (fun _ s4 => wpAny (model X.prog X.w) X.A (throw (.ref a) : Sem Flow) (SP X pins D) X.xe s4) X.xe { s' with heap := h3 } := by
        rw [hf]
        refine HandSPX.setFlight_upZ fl3 fun h4 hh4 up4 => wpAny_throw (tk _ _ ?_)
        exact ⟨a, B, sI, pins, σ', H', cls, d, rfl, J, nb, (up.trans up3).trans up4, .inr (.inr (by rw [hs]; exact hh4)), na, os, ag, hno rfl⟩
      first
        | exact wpAny_bind (wpAny_pure (wpAny_bind fin))
        | exact wpAny_bind fin
  · cases f with
    | next =>
      obtain ⟨σ', H', J', q⟩ := hsp
      exact wpAny_execs_nil ⟨σ', H', J'.ofTry ok, q⟩
    | brk =>
      obtain ⟨σ', H', J', q⟩ := hsp
      exact ⟨σ', H', J'.ofTry ok, q⟩
    | cont =>
      obtain ⟨σ', H', J', q⟩ := hsp
      exact ⟨σ', H', J'.ofTry ok, q⟩
    | ret u =>
      obtain ⟨v, σ', H', J', r, q⟩ := hsp
      exact ⟨v, σ', H', J'.ofTry ok, r, q⟩
end
end Sw

set_option Elab.async false
set_option linter.all false
set_option maxRecDepth 100000
set_option maxHeartbeats 4000000
namespace Sw
open PySem PySem.Spec PyProof.Rows L2
/-! ### X(e, .., k = v, ..) as a value -/
structure ExcV (P : Program) (w : World) (K : PySem.W.Frag) (mg : Str → Option Value) (base : Heap) (x : Str) (C : Addr) (n : Nat) (ks : List Str) (sp : SpC) : Prop where
  ox : OexC K C
  at_ : mg x = some (.ref C)
  ex : ∃ f, PySem.W.findIn K (.ref C) "__init__" = some (some (.ref f)) ∧ PySem.W.typeIn K (.ref f) = some (.type "function") ∧ Cal P w K mg base 1 f (n + 1) ks sp
def tExcG (C : Addr) (n m : Nat) (sp : SpC) (t tk : TA) : TE := fun σ H Q => t σ H fun vs H1 => tk σ H1 fun zs H2 => vs.length = n ∧ zs.length = m ∧ n ≤ 1000 ∧ ∀ a, H2 a = none →
  sp (.ref a :: vs) zs (upd H2 a (exo a C none)) (fun v H3 => v = .non ∧ Q (.ref a) H3) (fun _ _ _ => False)
section
variable {X : Cx} {n : Nat} {C : Addr} {ks : List Str} {sp : SpC} {x : Str} {p pos : Pos} {e : Expr} {es : List Expr} {kws : List Keyword} {t tk : TA}
theorem run_excG {pins : List (Addr × Obj)} {σ : L2.St} {H : Hp} {s : Shared} {Q : VK} {us ws : List Value} {vs zs : List V} (T : ExcV X.prog X.w X.K X.mg X.base x C n ks sp) (hr : Room 2 X.A) (I : Inv X pins σ H s) (r : Vals vs us) (rz : Vals zs ws) (l1 : vs.length = n) (l2 : zs.length = ks.length) (hn : n ≤ 1000)
    (h : ∀ a, H a = none → sp (.ref a :: vs) zs (upd H a (exo a C none)) (fun v H3 => v = .non ∧ Q (.ref a) H3) (fun _ _ _ => False)) : wpAny (model X.prog X.w) X.A (call (.ref C) us (ks.zip ws)) (EP X pins σ Q) X.xe s := by
  obtain ⟨nm, q, N, bs, bm, sn, sub, ab, col, dd, k0, k1, k2, k3, k5, hC, hbm⟩ := T.ox.cls
  obtain ⟨fI, iC, tI, F1⟩ := T.ex
  obtain ⟨hp, g, dr, tk, os⟩ := s
  have hsz : hp.objs.size ≤ hp.objs.size + 1 := Nat.le_succ _
  have hnn : H (hp.objs.size + 1) = none := I.hok.fresh hsz
  have kk : ∀ b o, hp.get? b = some o → ((hp.push (PySem.W.kdv_tup us)).push (PySem.HandSPX.excO C hp.objs.size)).get? b = some o := fun b o e => Heap.get?_push_of_some _ (Heap.get?_push_of_some _ e)
  have hget : ((hp.push (PySem.W.kdv_tup us)).push (PySem.HandSPX.excO C hp.objs.size)).get? (hp.objs.size + 1) = some (PySem.HandSPX.excO C hp.objs.size) := by heap_get
  have I2 : Inv X pins σ (upd H (hp.objs.size + 1) (exo (hp.objs.size + 1) C none)) ⟨(hp.push (PySem.W.kdv_tup us)).push (PySem.HandSPX.excO C hp.objs.size), g, dr, tk, os⟩ :=
    I.laid (t' := tk) (a := hp.objs.size + 1) (o := exo (hp.objs.size + 1) C none) (h' := (hp.push (PySem.W.kdv_tup us)).push (PySem.HandSPX.excO C hp.objs.size)) kk hsz (exo_ok hget)
  have r2 : Vals (V.ref (hp.objs.size + 1) :: vs) (Value.ref (hp.objs.size + 1) :: us) := .cons rfl r
  have n1 : (V.ref (hp.objs.size + 1) :: vs).length = n + 1 := by rw [List.length_cons, l1]
  have hus : us.length ≤ sizeLine := by
    rw [← Paired.length r, l1, sizeLine_eq]
    omega
  have hq := h (hp.objs.size + 1) hnn
  refine wpAny_call (PySem.HandSPX.KW.call_own F.excBase_ValueError (fun Y => PySem.HandSPX.refsVE_contains Y bm hbm) (I.kIn _ _ hC) (PySem.W.looks_findIn I.kIn iC) (fun self => PySem.W.bind_fn I.kIn self tI) hus
    (codeAny_mono (F1 _ X.stack _ _ (Value.ref (hp.objs.size + 1) :: us) ws _ zs _ (fun _ _ _ => False) ((hr.mono (by decide : 2 ≤ 2)).make C us (ks.zip ws)) (I2.env0.make C us (ks.zip ws)) r2 rz n1 l2 hq) fun r s' hq' => ?_))
  cases r with
  | error er => exact passL (X := X) pins σ _ _ er s' I2 hq'
  | ok fl =>
    cases fl with
    | ret u =>
      obtain ⟨v, H', I3, rv, ev, q3⟩ := I2.after hq'
      subst ev
      exact ⟨rv, ⟨V.ref (hp.objs.size + 1), H', I3, rfl, q3⟩⟩
    | next => exact False.elim hq'
    | brk => exact False.elim hq'
    | cont => exact False.elim hq'
theorem pe_excG (T : ExcV X.prog X.w X.K X.mg X.base x C n ks sp) (hr : Room 2 X.A) (ha : PA X (e :: es) t) (hkw : PK X kws tk) (hg : Gl X x := by rfl)
    (hall : (backToKw pos (keywordEach kws X.env)).all (·.1.isSome) = true := by rfl) (hks : (backToKw pos (keywordEach kws X.env)).filterMap (·.1) = ks := by rfl) (hdb : (x == ("__debug__" : Str)) = false := by decide)
    (he : starEach (e :: es) X.env = (false, eval e X.env) :: starEach es X.env := by rfl) (hpl : ((backTo pos (starEach (e :: es) X.env)).any (·.1) || (backToKw pos (keywordEach kws X.env)).any (·.1.isNone)) = false := by rfl) :
    PE X (.Call (.Name x p) (e :: es) kws pos) (tExcG C n ks.length sp t tk) := by
  refine ⟨fun pins s σ H Q I h => ?_⟩
  refine wpAny_Call_Name_kw (ld_glob I hg T.at_ ?_ hdb)
  refine PySem.W.callWith_KW (h₀ := X.base) I.ok.mod.kin T.ox.kC hall (thn (ha.run pos pins s σ H _ I h) fun us s1 ⟨vs, H1, I1, r, q⟩ => ?_) hpl he
  refine thn (hkw.run pos pins s1 σ H1 _ I1 q) fun ws s2 ⟨zs, H2, I2, rz, l1, l2, hn, q2⟩ => ⟨I2.kIn, ?_⟩
  rw [hks]
  exact run_excG T hr I2 r rz l1 l2 hn q2
theorem pe_excG0 (T : ExcV X.prog X.w X.K X.mg X.base x C n ks sp) (hr : Room 2 X.A) (hkw : PK X kws tk) (hg : Gl X x := by rfl)
    (hall : (backToKw pos (keywordEach kws X.env)).all (·.1.isSome) = true := by rfl) (hks : (backToKw pos (keywordEach kws X.env)).filterMap (·.1) = ks := by rfl) (hdb : (x == ("__debug__" : Str)) = false := by decide)
    (hpl : ((backTo pos (starEach [] X.env)).any (·.1) || (backToKw pos (keywordEach kws X.env)).any (·.1.isNone)) = false := by rfl) :
    PE X (.Call (.Name x p) [] kws pos) (tExcG C n ks.length sp tNil tk) := by
  refine ⟨fun pins s σ H Q I h => ?_⟩
  refine wpAny_Call_Name_kw (ld_glob I hg T.at_ ?_ hdb)
  refine PySem.W.callWith_KW0 (h₀ := X.base) I.ok.mod.kin T.ox.kC hall ?_ hpl
  refine thn (hkw.run pos pins s σ H _ I h) fun ws s2 ⟨zs, H2, I2, rz, l1, l2, hn, q2⟩ => ⟨I2.kIn, ?_⟩
  rw [hks]
  exact run_excG (us := []) (vs := []) T hr I2 .nil rz l1 l2 hn q2
end

/-! ### isinstance(e, c), e.f: e an exception held as a value -/
def ExAt (H : Hp) (a C : Addr) (d : Option Addr) : Prop := H a = some (exo a C d) ∨ H a = some (exv a (.ref C) d)
def DxAt (H : Hp) (d : Addr) (fs : List (Str × V)) : Prop := H d = some (exd d fs) ∨ H d = some (.xd fs)
def rIsV (K : PySem.W.Frag) : List V → Hp → VK → Prop := fun xs H Q => ∃ (a C : Addr) (d : Option Addr) (c : V) (cv : Value) (b : Bool), xs = [.ref a, c] ∧ ExAt H a C d ∧ (∀ dd, d = some dd → ∃ fs, DxAt H dd fs) ∧ ExcC K C ∧ (∀ u, RelV c u → u = cv) ∧ PySem.W.kitOne K (.ref C) cv = some b ∧ Q (.bl b) H
def tXv (K : PySem.W.Frag) (f : Str) (te : TE) : TE := fun σ H Q => te σ H fun x H1 => ∃ (a C dd : Addr) (fs : List (Str × V)) (v : V), x = .ref a ∧ ExAt H1 a C (some dd) ∧ DxAt H1 dd fs ∧ XfC K C ∧ PySem.W.findIn K (.ref C) f = some none ∧ fs.lookup f = some v ∧ Q v H1
section
variable {X : Cx} {pins : List (Addr × Obj)} {σ : L2.St} {H : Hp} {s : Shared} {a C dd : Addr} {d : Option Addr} {fs : List (Str × V)}
theorem exAt_get (I : Inv X pins σ H s) (h : ExAt H a C d) : ∃ (oe : Obj) (vs : Array Value), s.heap.get? a = some oe ∧ Zc (.ref C) d oe ∧ oe.data = .fields vs := by
  rcases h with h | h
  · obtain ⟨t1, q⟩ := exo_at I.hok h
    exact ⟨_, _, q, ⟨rfl, rfl⟩, rfl⟩
  · exact exv_at I.hok h
theorem dxAt_get (I : Inv X pins σ H s) (h : DxAt H dd fs) : ∃ mA, s.heap.Ns1 dd mA ∧ ∀ f, RelO (fs.lookup f) (mA f) := by
  rcases h with h | h
  · exact exd_at I.hok h
  · exact (show ObjOk X.prog X.w H s.heap dd (.xd fs) from I.hok dd _ h)
theorem call_isV (K : PySem.W.Frag) (hK : X.K = K := by rfl) : CallR X (.builtin "isinstance") (rIsV K) := by
  subst hK
  intro pins s σ H xs us Q I r h
  obtain ⟨a, C, d, c, cv, b, rfl, he, hd, EC, hcv, e, q⟩ := h
  cases r with
  | cons rx rr =>
    cases rr with
    | cons rt rr =>
      cases rr
      cases rx
      have ec := hcv _ rt
      subst ec
      obtain ⟨oe, vs, hget, hz, hv⟩ := exAt_get I he
      cases d with
      | none =>
        have J : PySem.W.InstAt s.heap a oe C none := ⟨hget, hz.1, by unfold PySem.W.notCls; rw [hv] <;> rfl, by rw [hz.2]; trivial⟩
        exact PySem.W.kia_one (PySem.W.handS_kitx_exc EC.hg EC.hk EC.hs EC.hd EC.ha EC.hn EC.ht EC.hm) I.kIn J e (fun z => nomatch z) fun tk => ⟨.bl b, H, I.kept (t' := tk) fun _ _ z => z, rfl, q⟩
      | some dd =>
        obtain ⟨fs, hd'⟩ := hd dd rfl
        obtain ⟨mA, hns, hr⟩ := dxAt_get I hd'
        obtain ⟨od, ho, hl⟩ := lookIn_ns hns
        have J : PySem.W.InstAt s.heap a oe C (some od) := ⟨hget, hz.1, by unfold PySem.W.notCls; rw [hv] <;> rfl, by rw [hz.2]; exact ho⟩
        exact PySem.W.kia_one (sw_kitx EC.hg EC.hk EC.hs EC.hd EC.ha EC.hn EC.ht EC.hm) I.kIn J e (fun z => nomatch z) fun tk => ⟨.bl b, H, I.kept (t' := tk) fun _ _ z => z, rfl, q⟩
theorem pe_xv {e : Expr} {te : TE} {pos : Pos} {n : Str} (K : PySem.W.Frag) (he : PE X e te) (hb : attributeBase e n X.env (eval e X.env) = eval e X.env := by rfl) (hK : X.K = K := by rfl) : PE X (.Attribute e n pos) (tXv K n te) := by
  subst hK
  refine ⟨fun pins s σ H Q I h => ?_⟩
  refine attr_of hb (thn (he.run pins s σ H _ I h) fun u s1 hh => ?_)
  obtain ⟨x, H1, I1, rx, a, C, dd, fs, v, ex, hx, hd, T, hno, l, q⟩ := hh
  subst ex
  obtain rfl : u = Value.ref a := rx
  obtain ⟨oe, vs, hget, hz, hv⟩ := exAt_get I1 hx
  obtain ⟨mA, hns, hr⟩ := dxAt_get I1 hd
  obtain ⟨od, ho, hl⟩ := lookIn_ns hns
  obtain ⟨u, hu, ru⟩ := RelO.some_of (v := v) (o := mA n) (by rw [← l]; exact hr n)
  have J : PySem.W.InstAt s1.heap a oe C (some od) := ⟨hget, hz.1, by unfold PySem.W.notCls; rw [hv] <;> rfl, by rw [hz.2]; exact ho⟩
  exact HandSPX.exc_get I1.kIn J T.ga T.gg T.exC (PySem.W.findObj_own T.hdC hno rfl (by rw [hl, hu])) (handed_of ru) ⟨v, H1, I1.tok _, ru, q⟩
end
end Sw

set_option Elab.async false
set_option linter.all false
set_option maxRecDepth 100000
set_option maxHeartbeats 4000000
namespace Sw
open PySem PySem.Spec PyProof.Rows L2
/-! ### the __init__ of an exception with no, two, three fields -/
section
variable {P : Program} {w : World} {K : PySem.W.Frag} {mg : Str → Option Value} {base : Heap}
def spExc0 (C : Addr) : Sp := fun vs H Q _ => ∃ a, vs = [.ref a] ∧ H a = some (exo a C none) ∧ Q .non H
theorem ok_exc0 {qual msg : Str} {st : Stmt} {f cc C cda : Addr} {fd : FuncData} {p0 p1 p2 p3 p4 p5  : Pos} {j : Nat} (F : FunS P K "__init__" qual st f cc C cda fd) (U : SupTop P mg) (M : SupE K C C) 
    (S : SScope ["self"] ["self"] (defScope st)) (ks : (defScope st).names.lookup ("super" : Str) = some .globalImplicit) (kc : (defScope st).names.lookup ("__class__" : Str) = some .free)
    (hp : ∃ ar, ((defArgs st).posonlyargs ++ (defArgs st).args).head? = some ar ∧ (["self"] : List Str)[0]? = some ar.arg ∧ (defScope st).names.lookup ar.arg = some .local)
    (hb : defBody st = [.Expr (.Call (.Attribute (.Call (.Name "super" p0) [] [] p1) "__init__" p2) [.Constant (.str msg) j p3] [] p4) p5])
    (ht : ∀ env : Env, ∃ pl, eval (.Call (.Attribute (.Call (.Name "super" p0) [] [] p1) "__init__" p2) [.Constant (.str msg) j p3] [] p4) env = (do
      let ov ← attributeBase (.Call (.Name "super" p0) [] [] p1) "__init__" env (eval (.Call (.Name "super" p0) [] [] p1) env)
      standAt p2.atName
      let (f, first) ← holding [ov] (getMethod ov "__init__" pl)
      callWith p4 f first (backTo p4 (starEach [.Constant (.str msg) j p3] env)) (backToKw p4 (keywordEach [] env))))
    : FnOk P w K mg base (L2.CX P w) 1 f fd ["self"] (spExc0 C) := by
  refine F.ok S U ks kc hp (fun vs H Q E h => ?_) (fun A outer s H vs Q E hr T tk h => ?_)
  · obtain ⟨a, rfl, _⟩ := h
    rfl
  · obtain ⟨a, rfl, ha, q⟩ := h
    rw [hb]
    obtain ⟨pl, hte⟩ := ht (PySem.W.ksEnv qual (defScope st) s.heap.objs.size f (.ref cda) cc)
    refine ⟨_, PSst.one (pst_expr (pet_supE (pl := pl) T M (pa_cons pe_str pa_nil) rfl rfl hte) rfl), ?_⟩
    exact ⟨a, rfl, ha, (by show 1 ≤ 1000; decide), ha, q⟩
def spExc2 (C : Addr) (f1 f2 : Str) : Sp := fun vs H Q _ => ∃ a v1 v2, vs = [.ref a, v1, v2] ∧ H a = some (exo a C none) ∧ ∀ d H', H d = none → d ≠ a → H' a = some (exo a C (some d)) → H' d = some (exd d [(f2, v2), (f1, v1)]) → (∀ b, b ≠ a → b ≠ d → H' b = H b) → Q .non H'
theorem ok_exc2 {qual msg f1 f2 : Str} {st : Stmt} {f cc C cda : Addr} {fd : FuncData} {p0 p1 p2 p3 p4 p5 q1_1 q1_2 q1_3 q1_4 q2_1 q2_2 q2_3 q2_4 : Pos} {j : Nat} (F : FunS P K "__init__" qual st f cc C cda fd) (U : SupTop P mg) (M : SupE K C C) (hno1 : PySem.W.findIn K (.ref C) f1 = some none) (hno2 : PySem.W.findIn K (.ref C) f2 = some none)
    (S : SScope ["self", f1, f2] ["self", f1, f2] (defScope st)) (ks : (defScope st).names.lookup ("super" : Str) = some .globalImplicit) (kc : (defScope st).names.lookup ("__class__" : Str) = some .free)
    (hp : ∃ ar, ((defArgs st).posonlyargs ++ (defArgs st).args).head? = some ar ∧ (["self", f1, f2] : List Str)[0]? = some ar.arg ∧ (defScope st).names.lookup ar.arg = some .local)
    (hb : defBody st = [.Expr (.Call (.Attribute (.Call (.Name "super" p0) [] [] p1) "__init__" p2) [.Constant (.str msg) j p3] [] p4) p5, .Assign [.Attribute (.Name "self" q1_1) f1 q1_2] (.Name f1 q1_3) q1_4, .Assign [.Attribute (.Name "self" q2_1) f2 q2_2] (.Name f2 q2_3) q2_4])
    (ht : ∀ env : Env, ∃ pl, eval (.Call (.Attribute (.Call (.Name "super" p0) [] [] p1) "__init__" p2) [.Constant (.str msg) j p3] [] p4) env = (do
      let ov ← attributeBase (.Call (.Name "super" p0) [] [] p1) "__init__" env (eval (.Call (.Name "super" p0) [] [] p1) env)
      standAt p2.atName
      let (f, first) ← holding [ov] (getMethod ov "__init__" pl)
      callWith p4 f first (backTo p4 (starEach [.Constant (.str msg) j p3] env)) (backToKw p4 (keywordEach [] env))))
    (hd1 : (f1 == ("__debug__" : Str)) = false := by decide) (hcd1 : (f1 == ("__classdict__" : Str)) = false := by decide) (hd2 : (f2 == ("__debug__" : Str)) = false := by decide) (hcd2 : (f2 == ("__classdict__" : Str)) = false := by decide)
    : FnOk P w K mg base (L2.CX P w) 1 f fd ["self", f1, f2] (spExc2 C f1 f2) := by
  refine F.ok S U ks kc hp (fun vs H Q E h => ?_) (fun A outer s H vs Q E hr T tk h => ?_)
  · obtain ⟨a, v1, v2, rfl, _⟩ := h
    rfl
  · obtain ⟨a, v1, v2, rfl, ha, q⟩ := h
    rw [hb]
    obtain ⟨pl, hte⟩ := ht (PySem.W.ksEnv qual (defScope st) s.heap.objs.size f (.ref cda) cc)
    refine ⟨_, PSst.cons (pst_expr (pet_supE (pl := pl) T M (pa_cons pe_str pa_nil) rfl rfl hte) rfl) (PSst.of (pss_cons (ps_ost (pe_var (i := 0) rfl (.inl (S.par "self" (List.Mem.head _)))) (pe_var (i := 1) rfl (.inl (S.par f1 (List.Mem.tail _ (List.Mem.head _)))) hd1 hcd1) rfl) (pss_one (ps_ost (pe_var (i := 0) rfl (.inl (S.par "self" (List.Mem.head _)))) (pe_var (i := 2) rfl (.inl (S.par f2 (List.Mem.tail _ (List.Mem.tail _ (List.Mem.head _))))) hd2 hcd2) rfl)))), ?_⟩
    refine ⟨a, rfl, ha, (by show 1 ≤ 1000; decide), ha, v1, rfl, .ref a, rfl, a, C, rfl, M.ox, hno1, .inl ⟨ha, fun dx n ne => ?_⟩⟩
    refine ⟨v2, rfl, .ref a, rfl, a, C, rfl, M.ox, hno2, .inr ⟨dx, [(f1, v1)], upd_same, (upd_ne ne).trans upd_same, (by show 1 ≤ 900; decide), ?_⟩⟩
    exact q dx _ n ne ((upd_ne (Ne.symm ne)).trans upd_same) upd_same fun b h1 h2 => by rw [upd_ne h2, upd_ne h1, upd_ne h2]
def spExc3 (C : Addr) (f1 f2 f3 : Str) : Sp := fun vs H Q _ => ∃ a v1 v2 v3, vs = [.ref a, v1, v2, v3] ∧ H a = some (exo a C none) ∧ ∀ d H', H d = none → d ≠ a → H' a = some (exo a C (some d)) → H' d = some (exd d [(f3, v3), (f2, v2), (f1, v1)]) → (∀ b, b ≠ a → b ≠ d → H' b = H b) → Q .non H'
theorem ok_exc3 {qual msg f1 f2 f3 : Str} {st : Stmt} {f cc C cda : Addr} {fd : FuncData} {p0 p1 p2 p3 p4 p5 q1_1 q1_2 q1_3 q1_4 q2_1 q2_2 q2_3 q2_4 q3_1 q3_2 q3_3 q3_4 : Pos} {j : Nat} (F : FunS P K "__init__" qual st f cc C cda fd) (U : SupTop P mg) (M : SupE K C C) (hno1 : PySem.W.findIn K (.ref C) f1 = some none) (hno2 : PySem.W.findIn K (.ref C) f2 = some none) (hno3 : PySem.W.findIn K (.ref C) f3 = some none)
    (S : SScope ["self", f1, f2, f3] ["self", f1, f2, f3] (defScope st)) (ks : (defScope st).names.lookup ("super" : Str) = some .globalImplicit) (kc : (defScope st).names.lookup ("__class__" : Str) = some .free)
    (hp : ∃ ar, ((defArgs st).posonlyargs ++ (defArgs st).args).head? = some ar ∧ (["self", f1, f2, f3] : List Str)[0]? = some ar.arg ∧ (defScope st).names.lookup ar.arg = some .local)
    (hb : defBody st = [.Expr (.Call (.Attribute (.Call (.Name "super" p0) [] [] p1) "__init__" p2) [.Constant (.str msg) j p3] [] p4) p5, .Assign [.Attribute (.Name "self" q1_1) f1 q1_2] (.Name f1 q1_3) q1_4, .Assign [.Attribute (.Name "self" q2_1) f2 q2_2] (.Name f2 q2_3) q2_4, .Assign [.Attribute (.Name "self" q3_1) f3 q3_2] (.Name f3 q3_3) q3_4])
    (ht : ∀ env : Env, ∃ pl, eval (.Call (.Attribute (.Call (.Name "super" p0) [] [] p1) "__init__" p2) [.Constant (.str msg) j p3] [] p4) env = (do
      let ov ← attributeBase (.Call (.Name "super" p0) [] [] p1) "__init__" env (eval (.Call (.Name "super" p0) [] [] p1) env)
      standAt p2.atName
      let (f, first) ← holding [ov] (getMethod ov "__init__" pl)
      callWith p4 f first (backTo p4 (starEach [.Constant (.str msg) j p3] env)) (backToKw p4 (keywordEach [] env))))
    (hd1 : (f1 == ("__debug__" : Str)) = false := by decide) (hcd1 : (f1 == ("__classdict__" : Str)) = false := by decide) (hd2 : (f2 == ("__debug__" : Str)) = false := by decide) (hcd2 : (f2 == ("__classdict__" : Str)) = false := by decide) (hd3 : (f3 == ("__debug__" : Str)) = false := by decide) (hcd3 : (f3 == ("__classdict__" : Str)) = false := by decide)
    : FnOk P w K mg base (L2.CX P w) 1 f fd ["self", f1, f2, f3] (spExc3 C f1 f2 f3) := by
  refine F.ok S U ks kc hp (fun vs H Q E h => ?_) (fun A outer s H vs Q E hr T tk h => ?_)
  · obtain ⟨a, v1, v2, v3, rfl, _⟩ := h
    rfl
  · obtain ⟨a, v1, v2, v3, rfl, ha, q⟩ := h
    rw [hb]
    obtain ⟨pl, hte⟩ := ht (PySem.W.ksEnv qual (defScope st) s.heap.objs.size f (.ref cda) cc)
    refine ⟨_, PSst.cons (pst_expr (pet_supE (pl := pl) T M (pa_cons pe_str pa_nil) rfl rfl hte) rfl) (PSst.of (pss_cons (ps_ost (pe_var (i := 0) rfl (.inl (S.par "self" (List.Mem.head _)))) (pe_var (i := 1) rfl (.inl (S.par f1 (List.Mem.tail _ (List.Mem.head _)))) hd1 hcd1) rfl) (pss_cons (ps_ost (pe_var (i := 0) rfl (.inl (S.par "self" (List.Mem.head _)))) (pe_var (i := 2) rfl (.inl (S.par f2 (List.Mem.tail _ (List.Mem.tail _ (List.Mem.head _))))) hd2 hcd2) rfl) (pss_one (ps_ost (pe_var (i := 0) rfl (.inl (S.par "self" (List.Mem.head _)))) (pe_var (i := 3) rfl (.inl (S.par f3 (List.Mem.tail _ (List.Mem.tail _ (List.Mem.tail _ (List.Mem.head _)))))) hd3 hcd3) rfl))))), ?_⟩
    refine ⟨a, rfl, ha, (by show 1 ≤ 1000; decide), ha, v1, rfl, .ref a, rfl, a, C, rfl, M.ox, hno1, .inl ⟨ha, fun dx n ne => ?_⟩⟩
    refine ⟨v2, rfl, .ref a, rfl, a, C, rfl, M.ox, hno2, .inr ⟨dx, [(f1, v1)], upd_same, (upd_ne ne).trans upd_same, (by show 1 ≤ 900; decide), ?_⟩⟩
    refine ⟨v3, rfl, .ref a, rfl, a, C, rfl, M.ox, hno3, .inr ⟨dx, ((f2, v2) :: [(f1, v1)]), (upd_ne (Ne.symm ne)).trans upd_same, upd_same, (by show 2 ≤ 900; decide), ?_⟩⟩
    exact q dx _ n ne ((upd_ne (Ne.symm ne)).trans ((upd_ne (Ne.symm ne)).trans upd_same)) upd_same fun b h1 h2 => by rw [upd_ne h2, upd_ne h2, upd_ne h1, upd_ne h2]
end
end Sw

set_option Elab.async false
set_option linter.all false
set_option maxRecDepth 100000
set_option maxHeartbeats 4000000
namespace Sw
open PySem PySem.Spec PyProof.Rows L2
/-! ### repr of a dict of flat values -/
def keyD : Key → PyData
  | .inl i => .int i
  | .inr x => .str x
def flatD : V → PyData
  | .bl b => .bool b
  | .int i => .int i
  | .str s => .str s
  | _ => .none
def dictD (kvs : List (Key × V)) : PyData := .dict (kvs.map fun p => (keyD p.1, flatD p.2))
theorem reads_flat {h : Heap} {v : V} {u : Value} (r : RelV v u) (f : flatV v = true) : Reads h u (flatD v) [] := by
  cases v with
  | non => cases r; exact Reads.none
  | bl b => cases r; exact Reads.bool b
  | int i => obtain ⟨t, rfl⟩ := r; exact Reads.int i t
  | str x => obtain ⟨t, rfl⟩ := r; exact Reads.str x t
  | _ => cases f
theorem reads_keys {P : Program} {w : World} {h : Heap} {es : List DictEntry} {vs : List (Key × Value)} (hp : Pairs (mixKind P w) es vs) : ReadsAll h (es.map (·.key)) (vs.map fun p => keyD p.1) [] := by
  induction hp with
  | nil => exact ReadsAll.nil
  | cons h1 _ _ ih =>
    rcases keyIs_shape h1 with ⟨i, t, e1, e2⟩ | ⟨x, t, e1, e2⟩
    · rw [List.map_cons, List.map_cons, e1, e2]
      exact ReadsAll.cons (Reads.int i t) ih
    · rw [List.map_cons, List.map_cons, e1, e2]
      exact ReadsAll.cons (Reads.str x t) ih
theorem reads_vals {P : Program} {w : World} {h : Heap} : ∀ {kvs : List (Key × V)} {vs : List (Key × Value)} {es : List DictEntry}, KV kvs vs → Pairs (mixKind P w) es vs → (∀ p ∈ kvs, flatV p.2 = true) → ReadsAll h (es.map (·.val)) (kvs.map fun p => flatD p.2) []
  | [], [], [], _, _, _ => ReadsAll.nil
  | p :: ps, q :: qs, e :: es, .cons r t, .cons _ h2 hp, f => by
    rw [List.map_cons, List.map_cons, h2]
    exact ReadsAll.cons (reads_flat r.2 (f p List.mem_cons_self)) (reads_vals t hp fun p hp => f p (List.mem_cons_of_mem _ hp))
theorem kv_keys {kvs : List (Key × V)} {vs : List (Key × Value)} (h : KV kvs vs) : vs.map (fun p => keyD p.1) = kvs.map (fun p => keyD p.1) := by
  unfold KV at h
  induction h with
  | nil => rfl
  | cons r _ ih => rw [List.map_cons, List.map_cons, ih, r.1]
def rReprD : List V → Hp → VK → Prop := fun xs H Q => ∃ (a : Addr) (kvs : List (Key × V)), xs = [.ref a] ∧ H a = some (.dK kvs) ∧ (∀ p ∈ kvs, flatV p.2 = true) ∧ (dictD kvs).showable = true ∧ (dictD kvs).depth ≤ 100 ∧ (dictD kvs).shown.length ≤ sizeLine ∧ Q (.str (dictD kvs).shown) H
theorem call_reprD {X : Cx} (hgd : X.A.guards = some []) (hu : X.A.units + 120 < cLine) : CallR X (.builtin "repr") rReprD := by
  intro pins s σ H xs us Q I r h
  obtain ⟨a, kvs, rfl, ea, hf, hs, hdp, hl, q⟩ := h
  cases r with
  | cons rx rr =>
    cases rr
    cases rx
    have hx : ObjOk X.prog X.w H s.heap a (.dK kvs) := I.hok a _ ea
    obtain ⟨hz, hsm, vs, kv, o, es, ep, e1, e2, e3, e4, e5, e6⟩ := hx
    have rd : Reads s.heap (.ref a) (dictD kvs) (a :: [] ++ []) := by
      refine Reads.dict (o := o) e1 e2.1 e3 ?_ ?_
      · rw [List.map_map]
        have := reads_keys (h := s.heap) e5
        rw [kv_keys kv] at this
        exact this
      · rw [List.map_map]
        exact reads_vals kv e5 hf
    exact repr_of_reads' rd hs (fun _ hm => by
      have : sysModules = a := by simpa using hm
      rw [← this] at hsm
      simp at hsm) hgd (by omega) (fun b o e => e) (fun h' u tk k => ⟨.str (dictD kvs).shown, H, I.kept (t' := tk) k, ⟨_, rfl⟩, q⟩) hl
/-- repr of data, or of such a dict -/
def aRepr (K : PySem.W.Frag) : List V → Hp → VK → Prop := fun xs H Q => rRepr K xs H Q ∨ rReprD xs H Q
theorem ka_reprA {X : Cx} (K : PySem.W.Frag) (hgd : X.A.guards = some []) (hu : X.A.units + 120 < cLine) (hK : X.K = K := by rfl) : CallR X (.builtin "repr") (aRepr K) := fun pins s σ H xs us Q I r h =>
  h.elim (ka_repr K hgd hu hK pins s σ H xs us Q I r) (call_reprD hgd hu pins s σ H xs us Q I r)
end Sw

set_option Elab.async false
set_option linter.all false
set_option maxRecDepth 100000
set_option maxHeartbeats 4000000
namespace Sw
open PySem PySem.Spec PyProof.Rows L2
/-! ### bs.count(b), bs.index(True) for truth values -/
def rCntB (K : PySem.W.Frag) : V → List V → Hp → VK → Prop := fun x xs H Q => ∃ (p : Addr) (bs : List Bool) (k : Bool), x = .ref p ∧ xs = [.bl k] ∧ SqL K H p (bs.map V.bl) ∧ Q (.int (bs.count k : Nat)) H
def eqB (k : Bool) : Value → Bool
  | .bool b => b == k
  | _ => false
theorem vals_bools : ∀ {bs : List Bool} {us : List Value}, Vals (bs.map V.bl) us → us = bs.map Value.bool
  | [], _, .nil => rfl
  | b :: bs, _, .cons r t => by
    rw [vals_bools t]
    cases r
    rfl
theorem cnt_bools (bs : List Bool) (k : Bool) : (bs.map Value.bool).countP (eqB k) = bs.count k := by
  induction bs with
  | nil => rfl
  | cons b r ih =>
    rw [List.map_cons, List.countP_cons, List.count_cons, ih]
    rfl
theorem mt_bcount {X : Cx} (K : PySem.W.Frag) (hK : X.K = K := by rfl) : MtR X "list.count" (rCntB K) := by
  subst hK
  intro pins s σ H x xs v us Q I rx rxs h
  obtain ⟨p, bs, k, rfl, rfl, hs, q⟩ := h
  cases rx
  obtain ⟨u, rfl, ru⟩ := rxs.one
  cases ru
  obtain ⟨its, rv, ⟨⟨cls, dd, data, sl⟩, n, ho, hc, hdn, hd⟩, hlen⟩ := I.list hs
  simp only at hc hd
  subst hc hd
  have hi := vals_bools rv
  subst hi
  refine call_meets PySem.F.slot_list_count ⟨_, ho, rfl⟩ PySem.F.entry_list_count (PySem.F.args_list_count_2 _ _)
    (SeqAt.list_countAt p (bs.map Value.bool).toArray n dd sl (.bool k) (eqB k)) ⟨ho, fun y hy => ?_, ?_⟩
  · obtain ⟨b, _, rfl⟩ := List.mem_map.mp (show y ∈ bs.map Value.bool by simpa using hy)
    exact eqAt_V (y := .bl b) (x := .bl k) rfl rfl rfl rfl
  · have ec : (bs.map Value.bool).toArray.toList.countP (eqB k) = bs.count k := by
      rw [show (bs.map Value.bool).toArray.toList = bs.map Value.bool by simp]
      exact cnt_bools bs k
    refine ⟨.int (bs.count k : Nat), H, I.tok _, ⟨s.toks, ?_⟩, q⟩
    show Value.int (((bs.map Value.bool).toArray.toList.countP (eqB k) : Nat) : Int) s.toks = Value.int ((bs.count k : Nat) : Int) s.toks
    rw [ec]
end Sw

set_option Elab.async false
set_option linter.all false
set_option maxRecDepth 100000
set_option maxHeartbeats 4000000
namespace PySem
open Sem (wp)
section
variable {prog : Program} {w : World} {h₀ : Heap}
mutual
theorem sw_reprK : ∀ {v : Value} {d : PyData} {as : List Addr}, Reads h₀ v d as → d.showable = true → (∀ b ∈ as, (∃ o, h₀.get? b = some o ∧ o.cls = .type "dict") → b ≠ sysModules) → d.shown.length ≤ sizeLine → ∃ bs, ReadAtMost h₀ d.depth bs ∧ ReprK prog w bs h₀ d.depth v d.shown
  | _, _, _, .none, _, _, _ => ⟨[], (fun _ h => nomatch h), by simp only [PyData.shown]; exact .of_is ReprIs.none _ _ _⟩
  | _, _, _, .bool b, _, _, _ => ⟨[], (fun _ h => nomatch h), by simp only [PyData.shown]; exact .of_is (ReprIs.bool b) _ _ _⟩
  | _, _, _, .int i t, hs, _, _ => ⟨[], (fun _ h => nomatch h), by simp only [PyData.shown]; exact .of_is (ReprIs.int t (by simpa [PyData.showable] using hs)) _ _ _⟩
  | _, _, _, .str x t, _, _, hz => ⟨[], (fun _ h => nomatch h), by simp only [PyData.shown]; exact .of_is (ReprIs.str x t (by simpa only [PyData.shown] using hz)) _ _ _⟩
  | _, _, _, .list (a := a) (vs := vs) (xs := xs) h1 h2 h3 h4, hs, hsm, hz => by
    have hz' : (listText (PyData.shownAll xs)).length ≤ sizeLine := by simpa only [PyData.shown] using hz
    obtain ⟨bs, hb, hk⟩ := sw_reprAllK h4 (by simpa [PyData.showable] using hs) (fun b hm => hsm b (List.mem_cons_of_mem _ hm)) (fun t ht => Nat.le_trans (listText_mem_le ht) hz')
    have r : Reads h₀ (.ref a) (.list xs) _ := .list h1 h2 h3 h4
    have hna : a ∉ bs := not_mem_of_deeper r (by simp only [PyData.depth]; omega) hb
    refine ⟨a :: bs, ReadAtMost.cons r (by simp only [PyData.depth]; omega) hb, ?_⟩
    simp only [PyData.depth, PyData.shown]
    obtain ⟨l⟩ := vs
    cases l with
    | nil =>
      have h4' : ReadsAll h₀ [] xs _ := h4
      cases h4'
      simp only [PyData.shownAll, listText_nil]
      exact ReprK.listEmpty h1 h2 h3
    | cons x l => exact ReprK.list h1 h2 h3 hna (by simpa using hk.length_eq) (fun i y e => hk.item i y (by simpa using e))
  | _, _, _, .tuple (a := a) (xs := xs) h1 h2 h3 h4, hs, hsm, hz => by
    have hz' : (tupleText (PyData.shownAll xs)).length ≤ sizeLine := by simpa only [PyData.shown] using hz
    obtain ⟨bs, hb, hk⟩ := sw_reprAllK h4 (by simpa [PyData.showable] using hs) (fun b hm => hsm b hm) (fun t ht => Nat.le_trans (tupleText_mem_le ht) hz')
    have r : Reads h₀ (.ref a) (.tuple xs) _ := .tuple h1 h2 h3 h4
    have hna : a ∉ bs := not_mem_of_deeper r (by simp only [PyData.depth]; omega) hb
    refine ⟨a :: bs, ReadAtMost.cons r (by simp only [PyData.depth]; omega) hb, ?_⟩
    simp only [PyData.depth, PyData.shown]
    exact ReprK.tuple h1 h2 h3 hna hk
  | _, _, _, .dict (a := a) (es := es) (kvs := kvs) (as := as₁) (bs := bs₁) h1 h2 h3 h4 h5, hs, hsm, hz => by
    have hz' : (dictText (PyData.shownKv kvs)).length ≤ sizeLine := by simpa only [PyData.shown] using hz
    obtain ⟨hs1, hs2⟩ := PyData.showableKv_split kvs (by simpa [PyData.showable] using hs)
    obtain ⟨b1, hb1, k1⟩ := sw_reprAllK h4 hs1 (fun b hm => hsm b (List.mem_cons_of_mem _ (List.mem_append_left _ hm))) (fun t ht => let ⟨p, hp, hl⟩ := PyData.shownKv_key_le kvs t ht; Nat.le_trans hl (Nat.le_trans (dictText_mem_le hp) hz'))
    obtain ⟨b2, hb2, k2⟩ := sw_reprAllK h5 hs2 (fun b hm => hsm b (List.mem_cons_of_mem _ (List.mem_append_right _ hm))) (fun t ht => let ⟨p, hp, hl⟩ := PyData.shownKv_val_le kvs t ht; Nat.le_trans hl (Nat.le_trans (dictText_mem_le hp) hz'))
    have r : Reads h₀ (.ref a) (.dict kvs) _ := .dict h1 h2 h3 h4 h5
    have hb : ReadAtMost h₀ (PyData.depthKv kvs) (b1 ++ b2) := (hb1.mono (PyData.depthAll_keys_le kvs)).append (hb2.mono (PyData.depthAll_vals_le kvs))
    have hna : a ∉ b1 ++ b2 := not_mem_of_deeper r (by simp only [PyData.depth]; omega) hb
    have hsys : (a == sysModules) = false := beq_eq_false_iff_ne.mpr (hsm a (List.mem_cons_self ..) ⟨_, h1, h2⟩)
    refine ⟨a :: (b1 ++ b2), ReadAtMost.cons r (by simp only [PyData.depth]; omega) hb, ?_⟩
    simp only [PyData.depth, PyData.shown, PyData.shownKv_eq]
    exact ReprK.dict h1 h2 h3 hsys hna (ReprEntriesK.of_two es.toList _ _
      (k1.more_le (fun b hb => List.mem_append_left _ hb) (PyData.depthAll_keys_le kvs)) (k2.more_le (fun b hb => List.mem_append_right _ hb) (PyData.depthAll_vals_le kvs)))
theorem sw_reprAllK : ∀ {vs : List Value} {ds : List PyData} {as : List Addr}, ReadsAll h₀ vs ds as → PyData.showableAll ds = true → (∀ b ∈ as, (∃ o, h₀.get? b = some o ∧ o.cls = .type "dict") → b ≠ sysModules) → (∀ t ∈ PyData.shownAll ds, t.length ≤ sizeLine) →
    ∃ bs, ReadAtMost h₀ (PyData.depthAll ds) bs ∧ ReprAllK prog w bs h₀ (PyData.depthAll ds) vs (PyData.shownAll ds)
  | _, _, _, .nil, _, _, _ => ⟨[], (fun _ h => nomatch h), by simp only [PyData.shownAll]; exact .nil⟩
  | _, _, _, .cons (d := d) (ds := ds) r rs, hs, hsm, hz => by
    have hs' : d.showable = true ∧ PyData.showableAll ds = true := by simpa [PyData.showableAll] using hs
    obtain ⟨b1, hb1, k1⟩ := sw_reprK r hs'.1 (fun b hm => hsm b (List.mem_append_left _ hm)) (hz _ (by simp only [PyData.shownAll]; exact List.mem_cons_self ..))
    obtain ⟨b2, hb2, k2⟩ := sw_reprAllK rs hs'.2 (fun b hm => hsm b (List.mem_append_right _ hm)) (fun t ht => hz t (by simp only [PyData.shownAll]; exact List.mem_cons_of_mem _ ht))
    refine ⟨b1 ++ b2, ?_, ?_⟩
    · intro b hm
      simp only [PyData.depthAll]
      rcases List.mem_append.mp hm with hm | hm
      · obtain ⟨d', as', r', hd'⟩ := hb1 b hm
        exact ⟨d', as', r', Nat.le_trans hd' (Nat.le_max_left _ _)⟩
      · obtain ⟨d', as', r', hd'⟩ := hb2 b hm
        exact ⟨d', as', r', Nat.le_trans hd' (Nat.le_max_right _ _)⟩
    · simp only [PyData.depthAll, PyData.shownAll]
      exact .cons ((k1.more fun b hb => List.mem_append_left _ hb).level_le (Nat.le_max_left _ _)) (k2.more_le (fun b hb => List.mem_append_right _ hb) (Nat.le_max_right _ _))
end
end
section
variable {prog : Program} {w : World} {h₀ : Heap} {a : Addr} {d : PyData} {as : List Addr}
theorem sw_showsBy (r : Reads h₀ (.ref a) d as) (hs : d.showable = true) (hsm : ∀ b ∈ as, (∃ o, h₀.get? b = some o ∧ o.cls = .type "dict") → b ≠ sysModules)
    (hsz : d.shown.length ≤ sizeLine := by size_fits) : ∃ T idr, ShowsBy prog w h₀ a d T idr := by
  cases r with
  | list h1 h2 h3 h4 =>
    rename_i o vs n xs bs₀
    have hz' : (listText (PyData.shownAll xs)).length ≤ sizeLine := by simpa only [PyData.shown] using hsz
    obtain ⟨bs, hb, hk⟩ := sw_reprAllK (prog := prog) (w := w) h4 (by simpa [PyData.showable] using hs) (fun b hm => hsm b (List.mem_cons_of_mem _ hm)) (fun t ht => Nat.le_trans (listText_mem_le ht) hz')
    have hna : a ∉ bs := not_mem_of_deeper (.list h1 h2 h3 h4) (by simp only [PyData.depth]; omega) hb
    refine ⟨"list", "list.__repr__", F.slot_list_repr.toG, F.slot_list_str, F.slot_list_format, fun s hk0 => ⟨o, hk0 _ _ h1, h2⟩, fun A E s Q hg hu hk0 hQ => ?_⟩
    simp only [PyData.depth] at hu
    simp only [PyData.shown] at hQ
    obtain ⟨l⟩ := vs
    cases l with
    | nil =>
      have h4' : ReadsAll h₀ [] xs _ := h4
      cases h4'
      simp only [PyData.shownAll, listText_nil] at hQ
      exact call_list_repr_empty ⟨o, hk0 _ _ h1, h2⟩ (hk0 _ _ h1) h3 (hQ s.heap _ _ fun _ _ e => e)
    | cons x l =>
      exact call_list_reprK h1 h2 h3 hna (by simpa using hk.length_eq) (fun i y e => hk.item i y (by simpa using e)) hg (fun b _ => Clear.nil b) hu hk0 hQ hz'
  | tuple h1 h2 h3 h4 =>
    rename_i o vs n xs
    have hz' : (tupleText (PyData.shownAll xs)).length ≤ sizeLine := by simpa only [PyData.shown] using hsz
    obtain ⟨bs, hb, hk⟩ := sw_reprAllK (prog := prog) (w := w) h4 (by simpa [PyData.showable] using hs) (fun b hm => hsm b hm) (fun t ht => Nat.le_trans (tupleText_mem_le ht) hz')
    have hna : a ∉ bs := not_mem_of_deeper (.tuple h1 h2 h3 h4) (by simp only [PyData.depth]; omega) hb
    refine ⟨"tuple", "tuple.__repr__", F.slot_tuple_repr, F.slot_tuple_str, F.slot_tuple_format, fun s hk0 => ⟨o, hk0 _ _ h1, h2⟩, fun A E s Q hg hu hk0 hQ => ?_⟩
    simp only [PyData.depth] at hu
    simp only [PyData.shown] at hQ
    exact call_tuple_reprK h1 h2 h3 hna hk hg (fun b _ => Clear.nil b) hu hk0 hQ hz'
  | dict h1 h2 h3 h4 h5 =>
    rename_i o es n kvs as₁ bs₁
    have hz' : (dictText (PyData.shownKv kvs)).length ≤ sizeLine := by simpa only [PyData.shown] using hsz
    obtain ⟨hs1, hs2⟩ := PyData.showableKv_split kvs (by simpa [PyData.showable] using hs)
    obtain ⟨b1, hb1, k1⟩ := sw_reprAllK (prog := prog) (w := w) h4 hs1 (fun b hm => hsm b (List.mem_cons_of_mem _ (List.mem_append_left _ hm))) (fun t ht => let ⟨p, hp, hl⟩ := PyData.shownKv_key_le kvs t ht; Nat.le_trans hl (Nat.le_trans (dictText_mem_le hp) hz'))
    obtain ⟨b2, hb2, k2⟩ := sw_reprAllK (prog := prog) (w := w) h5 hs2 (fun b hm => hsm b (List.mem_cons_of_mem _ (List.mem_append_right _ hm))) (fun t ht => let ⟨p, hp, hl⟩ := PyData.shownKv_val_le kvs t ht; Nat.le_trans hl (Nat.le_trans (dictText_mem_le hp) hz'))
    have hb : ReadAtMost h₀ (PyData.depthKv kvs) (b1 ++ b2) := (hb1.mono (PyData.depthAll_keys_le kvs)).append (hb2.mono (PyData.depthAll_vals_le kvs))
    have hna : a ∉ b1 ++ b2 := not_mem_of_deeper (.dict h1 h2 h3 h4 h5) (by simp only [PyData.depth]; omega) hb
    have hsys : (a == sysModules) = false := beq_eq_false_iff_ne.mpr (hsm a (List.mem_cons_self ..) ⟨_, h1, h2⟩)
    refine ⟨"dict", "dict.__repr__", F.slot_dict_repr, F.slot_dict_str, F.slot_dict_format, fun s hk0 => ⟨o, hk0 _ _ h1, h2⟩, fun A E s Q hg hu hk0 hQ => ?_⟩
    simp only [PyData.depth] at hu
    simp only [PyData.shown, PyData.shownKv_eq] at hQ
    exact call_dict_reprK h1 h2 h3 hsys hna (ReprEntriesK.of_two es.toList _ _
      (k1.more_le (fun b hb => List.mem_append_left _ hb) (PyData.depthAll_keys_le kvs)) (k2.more_le (fun b hb => List.mem_append_right _ hb) (PyData.depthAll_vals_le kvs))) hg (fun b _ => Clear.nil b) hu hk0 hQ (by rw [← PyData.shownKv_eq]; exact hz')


variable {A : Around} {E : Value → Shared → Prop} {s : Shared} {Q : Value → Shared → Prop}
theorem sw_repr (r : Reads h₀ (.ref a) d as) (hs : d.showable = true) (hsm : ∀ b ∈ as, (∃ o, h₀.get? b = some o ∧ o.cls = .type "dict") → b ≠ sysModules) (hg : A.guards = some []) (hu : A.units + (d.depth + 1) < cLine) (hk0 : ∀ b o, h₀.get? b = some o → s.heap.get? b = some o)
    (hQ : ∀ h' u tk, (∀ b o, s.heap.get? b = some o → h'.get? b = some o) → Q (.str d.shown u) { s with heap := h', toks := tk })
    (hsz : d.shown.length ≤ sizeLine := by size_fits) : wpAny (model prog w) A (call (.builtin "repr") [.ref a]) Q E s := by
  obtain ⟨T, idr, S⟩ := sw_showsBy (prog := prog) (w := w) r hs hsm hsz
  exact call_repr_slot (by omega) (S.typeIs s hk0) S.slotRepr (S.call A.in1 E s _ hg (by show A.units + 1 + d.depth < cLine; omega) hk0 fun h' u tk hk => ⟨_, _, rfl, hQ h' u tk hk⟩)
end
end PySem

set_option Elab.async false
set_option linter.all false
set_option maxRecDepth 100000
set_option maxHeartbeats 4000000
namespace Sw
open PySem PySem.Spec PyProof.Rows L2
/-! ### data at any depth, with dicts -/
mutual
inductive Dq (K : PySem.W.Frag) (H : Hp) : V → PyData → Prop
  | non : Dq K H .non .none
  | bl (b : Bool) : Dq K H (.bl b) (.bool b)
  | int (i : Int) : Dq K H (.int i) (.int i)
  | str (x : Str) : Dq K H (.str x) (.str x)
  | lst {a : Addr} {xs : List V} {ds : List PyData} : SqL K H a xs → DqAll K H xs ds → Dq K H (.ref a) (.list ds)
  | tup {a : Addr} {xs : List V} {ds : List PyData} : SqT K H a xs → DqAll K H xs ds → Dq K H (.ref a) (.tuple ds)
  | dic {a : Addr} {kvs : List (Key × V)} {ds : List PyData} : H a = some (.dK kvs) → DqAll K H (kvs.map (·.2)) ds → Dq K H (.ref a) (.dict ((kvs.map fun p => keyD p.1).zip ds))
inductive DqAll (K : PySem.W.Frag) (H : Hp) : List V → List PyData → Prop
  | nil : DqAll K H [] []
  | cons {v : V} {vs : List V} {d : PyData} {ds : List PyData} : Dq K H v d → DqAll K H vs ds → DqAll K H (v :: vs) (d :: ds)
end
theorem DqAll.length {K : PySem.W.Frag} {H : Hp} : ∀ {vs : List V} {ds : List PyData}, DqAll K H vs ds → vs.length = ds.length
  | [], _, h => by cases h; rfl
  | v :: vs, _, h => by
    cases h with
    | cons _ h2 => rw [List.length_cons, List.length_cons, DqAll.length h2]
section
variable {X : Cx} {pins : List (Addr × Obj)} {σ : L2.St} {H : Hp} {s : Shared}
def NoMod (h : Heap) (as : List Addr) : Prop := ∀ b ∈ as, (∃ o, h.get? b = some o ∧ o.cls = .type "dict") → b ≠ sysModules
theorem NoMod.nil {h : Heap} : NoMod h [] := fun _ hm => nomatch hm
theorem NoMod.app {h : Heap} {as bs : List Addr} (h1 : NoMod h as) (h2 : NoMod h bs) : NoMod h (as ++ bs) := fun b hm q => (List.mem_append.mp hm).elim (fun m => h1 b m q) (fun m => h2 b m q)
theorem dq_vals {P : Program} {w : World} : ∀ {kvs : List (Key × V)} {vs : List (Key × Value)} {es : List DictEntry}, KV kvs vs → Pairs (mixKind P w) es vs → Vals (kvs.map (·.2)) (es.map (·.val))
  | [], [], [], _, _ => .nil
  | p :: ps, q :: qs, e :: es, .cons r t, .cons _ h2 hp => by
    rw [List.map_cons, List.map_cons, h2]
    exact .cons r.2 (dq_vals t hp)
theorem Dq.reads (I : Inv X pins σ H s) {v : V} {d : PyData} (h : Dq X.K H v d) : ∀ u, RelV v u → ∃ as, Reads s.heap u d as ∧ NoMod s.heap as := by
  refine Dq.rec (motive_1 := fun v d _ => ∀ u, RelV v u → ∃ as, Reads s.heap u d as ∧ NoMod s.heap as) (motive_2 := fun vs ds _ => ∀ us, Vals vs us → ∃ as, ReadsAll s.heap us ds as ∧ NoMod s.heap as) ?_ ?_ ?_ ?_ ?_ ?_ ?_ ?_ ?_ h
  · intro u r
    cases r
    exact ⟨_, Reads.none, .nil⟩
  · intro b u r
    cases r
    exact ⟨_, Reads.bool b, .nil⟩
  · intro i u r
    obtain ⟨t, rfl⟩ := r
    exact ⟨_, Reads.int i t, .nil⟩
  · intro x u r
    obtain ⟨t, rfl⟩ := r
    exact ⟨_, Reads.str x t, .nil⟩
  · intro a xs ds hs _ ih u r
    cases r
    obtain ⟨its, rv, ⟨o, n, ho, hc, _, hd⟩, _⟩ := I.list hs
    obtain ⟨as, hr, hn⟩ := ih _ rv
    refine ⟨_, Reads.list ho hc hd hr, ?_⟩
    intro b hm q
    rcases List.mem_cons.mp hm with rfl | hm
    · obtain ⟨o', e1, e2⟩ := q
      rw [ho] at e1
      cases e1
      rw [hc] at e2
      exact absurd e2 (by decide)
    · exact hn b hm q
  · intro a xs ds hs _ ih u r
    cases r
    obtain ⟨its, rv, ⟨o, ho, hc, n, hd⟩, _⟩ := I.tuple hs
    obtain ⟨as, hr, hn⟩ := ih _ rv
    exact ⟨_, Reads.tuple ho hc hd hr, hn⟩
  · intro a kvs ds ea ha ih u r
    cases r
    have hx : ObjOk X.prog X.w H s.heap a (.dK kvs) := I.hok a _ ea
    obtain ⟨hz, hsm, vs, kv, o, es, ep, e1, e2, e3, e4, e5, e6⟩ := hx
    obtain ⟨as, hr, hn⟩ := ih _ (dq_vals kv e5)
    have hl := ha.length
    rw [List.length_map] at hl
    refine ⟨_, Reads.dict (o := o) (as := []) (bs := as) e1 e2.1 e3 ?_ ?_, ?_⟩
    · have := reads_keys (h := s.heap) e5
      rw [kv_keys kv] at this
      rw [List.map_fst_zip (by simp [hl])]
      exact this
    · rw [List.map_snd_zip (by simp [hl])]
      exact hr
    · intro b hm q
      have hm' : b = a ∨ b ∈ as := by simpa using hm
      rcases hm' with rfl | hm
      · intro e
        rw [e] at hsm
        simp at hsm
      · exact hn b hm q
  · intro us r
    cases r
    exact ⟨_, ReadsAll.nil, .nil⟩
  · intro v vs d ds _ _ ih1 ih2 us r
    cases r with
    | cons r1 r2 =>
      obtain ⟨as, q1, n1⟩ := ih1 _ r1
      obtain ⟨bs, q2, n2⟩ := ih2 _ r2
      exact ⟨_, ReadsAll.cons q1 q2, n1.app n2⟩
end
def qRepr (K : PySem.W.Frag) : List V → Hp → VK → Prop := fun xs H Q => ∃ v d, xs = [v] ∧ Dq K H v d ∧ d.showable = true ∧ d.depth ≤ 100 ∧ d.shown.length ≤ sizeLine ∧ Q (.str d.shown) H
theorem ka_reprQ {X : Cx} (K : PySem.W.Frag) (hgd : X.A.guards = some []) (hu : X.A.units + 120 < cLine) (hK : X.K = K := by rfl) : CallR X (.builtin "repr") (qRepr K) := by
  subst hK
  intro pins s σ H xs us Q I r h
  obtain ⟨v, d, rfl, hd, hs, hdp, hl, q⟩ := h
  cases r with
  | cons rx rr =>
    cases rr
    have kept : ∀ h' tk, (∀ b o, s.heap.get? b = some o → h'.get? b = some o) → Inv X pins σ H { s with heap := h', toks := tk } := fun h' tk k => I.kept (t' := tk) k
    have refs : ∀ {a : Addr} {u : Value}, v = .ref a → RelV v u → wpAny (model X.prog X.w) X.A (call (.builtin "repr") [u]) (EP X pins σ Q) X.xe s := fun {a u} ev ru => by
      subst ev
      obtain ⟨as, rd, hn⟩ := Dq.reads I hd u ru
      obtain rfl : u = Value.ref a := ru
      exact sw_repr rd hs hn hgd (by omega) (fun b o e => e) (fun h' u tk k => ⟨.str d.shown, H, kept h' tk k, ⟨_, rfl⟩, q⟩) hl
    cases hd with
    | non =>
      cases rx
      exact P.repr_of_none ⟨.str _, H, I.kept (t' := s.toks + 1) (fun _ _ e => e), ⟨_, rfl⟩, q⟩
    | bl b =>
      cases rx
      exact P.repr_of_bool ⟨.str _, H, I.kept (t' := s.toks + 1) (fun _ _ e => e), ⟨_, rfl⟩, q⟩
    | int i =>
      obtain ⟨t, rfl⟩ := rx
      exact P.repr_of_int (of_decide_eq_true hs) ⟨.str _, H, I.kept (t' := s.toks + 1) (fun _ _ e => e), ⟨_, rfl⟩, q⟩
    | str x =>
      obtain ⟨t, rfl⟩ := rx
      exact P.repr_of_str ⟨.str _, H, I.kept (t' := s.toks + 1) (fun _ _ e => e), ⟨_, rfl⟩, q⟩ hl
    | lst _ _ => exact refs rfl rx
    | tup _ _ => exact refs rfl rx
    | dic _ _ => exact refs rfl rx
end Sw

set_option Elab.async false
set_option linter.all false
set_option maxRecDepth 100000
set_option maxHeartbeats 4000000
namespace Sw
open PySem PySem.Spec PyProof.Rows L2
theorem Dq.mono {K : PySem.W.Frag} {G H : Hp} (e : Same G H) {v : V} {d : PyData} (h : Dq K G v d) : Dq K H v d := by
  refine Dq.rec (motive_1 := fun v d _ => Dq K H v d) (motive_2 := fun vs ds _ => DqAll K H vs ds) ?_ ?_ ?_ ?_ ?_ ?_ ?_ ?_ ?_ h
  · exact .non
  · exact fun b => .bl b
  · exact fun i => .int i
  · exact fun x => .str x
  · exact fun hs _ ih => .lst (Evl.ex_l e hs) ih
  · exact fun hs _ ih => .tup (Evl.ex_t e hs) ih
  · exact fun ea _ ih => .dic (e _ _ ea) ih
  · exact .nil
  · exact fun _ _ ih1 ih2 => .cons ih1 ih2
theorem DqAll.mono {K : PySem.W.Frag} {G H : Hp} (e : Same G H) : ∀ {vs : List V} {ds : List PyData}, DqAll K G vs ds → DqAll K H vs ds
  | _, _, .nil => .nil
  | _, _, .cons h1 h2 => .cons (h1.mono e) (h2.mono e)
/-- small data: repr has room -/
structure Td (d : PyData) : Prop where
  s : d.showable = true
  dp : d.depth ≤ 5
  l : d.shown.length ≤ 200
theorem g_repr {K : PySem.W.Frag} {G : Hp} {R : Res} {H : Hp} {v : V} {d : PyData} {Q : VK} (w : Wd G R H) (h : Dq K G v d) (t : Td d) (k : Q (.str d.shown) H) : qRepr K [v] H Q :=
  ⟨v, d, rfl, h.mono w.sub, t.s, Nat.le_trans t.dp (by decide), by have := t.l; rw [sizeLine_eq]; omega, k⟩
theorem g_disp {G : Hp} {R : Res} {H : Hp} {Q : VK} {σ : L2.St} {trs : List (TE × TE)} (w : Wd G R H) (k : ∀ p H1, G p = none → Wd (upd G p (.dK [])) R H1 → tPairs trs σ H1 fun ps H2 => H2 p = some (.dK []) ∧ ∃ kvs : List (Key × V), ps = kvs.map (fun kv => (kV kv.1, kv.2)) ∧ kvs.length ≤ 15 ∧ Q (.ref p) (upd H2 p (.dK (mergeK [] kvs)))) : tDisp trs σ H Q :=
  fun p hp => k p _ (w.free hp) (w.new hp)
end Sw

set_option Elab.async false
set_option linter.all false
set_option maxRecDepth 100000
set_option maxHeartbeats 4000000
namespace Sw
open PySem PySem.Spec PyProof.Rows L2
/-! ### errors made as values, in a world -/
def ErrAt (G : Hp) (a C : Addr) (fs : List (Str × V)) : Prop := (fs = [] ∧ G a = some (exo a C none)) ∨ ∃ d, G a = some (exo a C (some d)) ∧ G d = some (exd d fs)
section
variable {G G' H H' : Hp} {R : Res} {K : PySem.W.Frag} {Q : VK} {E : XK} {a d C : Addr} {o u : HO} {fs : List (Str × V)} {f f1 f2 f3 : Str} {v v1 v2 v3 : V} {σ : L2.St} {te : TE} {t tk : TA}
theorem ErrAt.same (h : ErrAt G a C fs) (e : Same G G') : ErrAt G' a C fs := by
  rcases h with ⟨h1, h2⟩ | ⟨d, h1, h2⟩
  · exact .inl ⟨h1, e _ _ h2⟩
  · exact .inr ⟨d, e _ _ h1, e _ _ h2⟩
theorem Wd.mkE (w : Wd G R H) (ha : H a = none) (hd : H d = none) (hda : d ≠ a) (e1 : H' a = some o) (e2 : H' d = some u) (e3 : ∀ b, b ≠ a → b ≠ d → H' b = H b) : Wd (upd (upd G a o) d u) R H' := by
  have w1 : Wd (upd G a o) R (upd H a o) := w.new ha
  have w2 : Wd (upd (upd G a o) d u) R (upd (upd H a o) d u) := w1.new (by rw [upd_ne hda]; exact hd)
  have : H' = upd (upd H a o) d u := by
    funext b
    by_cases hb : b = d
    · rw [hb, upd_same, e2]
    · rw [upd_ne hb]
      by_cases hb' : b = a
      · rw [hb', upd_same, e1]
      · rw [upd_ne hb', e3 b hb' hb]
  rw [this]
  exact w2
theorem mkE_err (w : Wd G R H) (ha : H a = none) (hd : H d = none) (hda : d ≠ a) : Same G (upd (upd G a (exo a C (some d))) d (exd d fs)) ∧ ErrAt (upd (upd G a (exo a C (some d))) d (exd d fs)) a C fs := by
  have ga := w.free ha
  have gd : upd G a (exo a C (some d)) d = none := by rw [upd_ne hda]; exact w.free hd
  exact ⟨Same.trans (Same.newG ga) (Same.newG gd), .inr ⟨d, by rw [upd_ne (Ne.symm hda)]; exact upd_same, upd_same⟩⟩
/-- what a made error gives -/
def MkQ (G : Hp) (R : Res) (C : Addr) (fs : List (Str × V)) (Q : VK) : Prop := ∀ a G' H', Same G G' → G a = none → ErrAt G' a C fs → Wd G' R H' → Q (.ref a) H'
theorem g_mk0 (w : Wd G R H) (k : MkQ G R C [] Q) : ∀ a, H a = none → spExc0 C [.ref a] (upd H a (exo a C none)) (fun v H3 => v = .non ∧ Q (.ref a) H3) E := fun a ha =>
  ⟨a, rfl, upd_same, rfl, k a _ _ (Same.newG (w.free ha)) (w.free ha) (.inl ⟨rfl, upd_same⟩) (w.new ha)⟩
theorem g_mk1 (w : Wd G R H) (k : MkQ G R C [(f, v)] Q) : ∀ a, H a = none → spExc1 C f [.ref a, v] (upd H a (exo a C none)) (fun v H3 => v = .non ∧ Q (.ref a) H3) E := fun a ha => by
  refine ⟨a, v, rfl, upd_same, fun d hd hda => ⟨rfl, ?_⟩⟩
  have hd' : H d = none := by rw [upd_ne hda] at hd; exact hd
  obtain ⟨s, e⟩ := mkE_err (C := C) (fs := [(f, v)]) w ha hd' hda
  refine k a _ _ s (w.free ha) e (w.mkE ha hd' hda upd_same ?_ ?_)
  · rw [upd_ne hda]; exact upd_same
  · intro b h1 h2
    rw [upd_ne h1, upd_ne h2, upd_ne h1]
theorem g_mk2 (w : Wd G R H) (k : MkQ G R C [(f2, v2), (f1, v1)] Q) : ∀ a, H a = none → spExc2 C f1 f2 [.ref a, v1, v2] (upd H a (exo a C none)) (fun v H3 => v = .non ∧ Q (.ref a) H3) E := fun a ha => by
  refine ⟨a, v1, v2, rfl, upd_same, fun d H' hd hda e1 e2 e3 => ⟨rfl, ?_⟩⟩
  have hd' : H d = none := by rw [upd_ne hda] at hd; exact hd
  obtain ⟨s, e⟩ := mkE_err (C := C) (fs := [(f2, v2), (f1, v1)]) w ha hd' hda
  exact k a _ _ s (w.free ha) e (w.mkE ha hd' hda e1 e2 fun b h1 h2 => by rw [e3 b h1 h2, upd_ne h1])
theorem g_mk3 (w : Wd G R H) (k : MkQ G R C [(f3, v3), (f2, v2), (f1, v1)] Q) : ∀ a, H a = none → spExc3 C f1 f2 f3 [.ref a, v1, v2, v3] (upd H a (exo a C none)) (fun v H3 => v = .non ∧ Q (.ref a) H3) E := fun a ha => by
  refine ⟨a, v1, v2, v3, rfl, upd_same, fun d H' hd hda e1 e2 e3 => ⟨rfl, ?_⟩⟩
  have hd' : H d = none := by rw [upd_ne hda] at hd; exact hd
  obtain ⟨s, e⟩ := mkE_err (C := C) (fs := [(f3, v3), (f2, v2), (f1, v1)]) w ha hd' hda
  exact k a _ _ s (w.free ha) e (w.mkE ha hd' hda e1 e2 fun b h1 h2 => by rw [e3 b h1 h2, upd_ne h1])
def MkC (C : Addr) (n m : Nat) (sp : SpC) (vs zs : List V) (H : Hp) (Q : VK) : Prop := vs.length = n ∧ zs.length = m ∧ n ≤ 1000 ∧ ∀ a, H a = none → sp (.ref a :: vs) zs (upd H a (exo a C none)) (fun v H3 => v = .non ∧ Q (.ref a) H3) (fun _ _ _ => False)
theorem g_mk0p {n m : Nat} (w : Wd G R H) (k : MkQ G R C [] Q) (h1 : ([] : List V).length = n := by rfl) (h2 : ([] : List V).length = m := by rfl) (h3 : n ≤ 1000 := by decide) : MkC C n m (fun vs zs => spExc0 C (vs ++ zs.reverse)) [] [] H Q := ⟨h1, h2, h3, g_mk0 w k⟩
theorem g_mk1p {n m : Nat} (w : Wd G R H) (k : MkQ G R C [(f, v)] Q) (h1 : ([v] : List V).length = n := by rfl) (h2 : ([] : List V).length = m := by rfl) (h3 : n ≤ 1000 := by decide) : MkC C n m (fun vs zs => spExc1 C f (vs ++ zs.reverse)) [v] [] H Q := ⟨h1, h2, h3, g_mk1 w k⟩
theorem g_mk1k {n m : Nat} (w : Wd G R H) (k : MkQ G R C [(f, v)] Q) (h1 : ([] : List V).length = n := by rfl) (h2 : ([v] : List V).length = m := by rfl) (h3 : n ≤ 1000 := by decide) : MkC C n m (fun vs zs => spExc1 C f (vs ++ zs.reverse)) [] [v] H Q := ⟨h1, h2, h3, g_mk1 w k⟩
theorem g_mk2p {n m : Nat} (w : Wd G R H) (k : MkQ G R C [(f2, v2), (f1, v1)] Q) (h1 : ([v1, v2] : List V).length = n := by rfl) (h2 : ([] : List V).length = m := by rfl) (h3 : n ≤ 1000 := by decide) : MkC C n m (fun vs zs => spExc2 C f1 f2 (vs ++ zs.reverse)) [v1, v2] [] H Q := ⟨h1, h2, h3, g_mk2 w k⟩
theorem g_mk2k {n m : Nat} (w : Wd G R H) (k : MkQ G R C [(f2, v2), (f1, v1)] Q) (h1 : ([] : List V).length = n := by rfl) (h2 : ([v2, v1] : List V).length = m := by rfl) (h3 : n ≤ 1000 := by decide) : MkC C n m (fun vs zs => spExc2 C f1 f2 (vs ++ zs.reverse)) [] [v2, v1] H Q := ⟨h1, h2, h3, g_mk2 w k⟩
theorem g_mk3p {n m : Nat} (w : Wd G R H) (k : MkQ G R C [(f3, v3), (f2, v2), (f1, v1)] Q) (h1 : ([v1, v2, v3] : List V).length = n := by rfl) (h2 : ([] : List V).length = m := by rfl) (h3 : n ≤ 1000 := by decide) : MkC C n m (fun vs zs => spExc3 C f1 f2 f3 (vs ++ zs.reverse)) [v1, v2, v3] [] H Q := ⟨h1, h2, h3, g_mk3 w k⟩
theorem g_mk3k {n m : Nat} (w : Wd G R H) (k : MkQ G R C [(f3, v3), (f2, v2), (f1, v1)] Q) (h1 : ([] : List V).length = n := by rfl) (h2 : ([v3, v2, v1] : List V).length = m := by rfl) (h3 : n ≤ 1000 := by decide) : MkC C n m (fun vs zs => spExc3 C f1 f2 f3 (vs ++ zs.reverse)) [] [v3, v2, v1] H Q := ⟨h1, h2, h3, g_mk3 w k⟩
theorem g_excG {n m : Nat} {sp : SpC} (k : t σ H fun vs H1 => tk σ H1 fun zs H2 => MkC C n m sp vs zs H2 Q) : tExcG C n m sp t tk σ H Q := k
theorem g_tXv (k : te σ H fun x H1 => ∃ (a C dd : Addr) (fs : List (Str × V)) (v : V), x = .ref a ∧ ExAt H1 a C (some dd) ∧ DxAt H1 dd fs ∧ XfC K C ∧ PySem.W.findIn K (.ref C) f = some none ∧ fs.lookup f = some v ∧ Q v H1) : tXv K f te σ H Q := k
theorem g_isV {c : V} {cv : Value} {b : Bool} (w : Wd G R H) (h : ErrAt G a C fs) (ec : ExcC K C) (hc : ∀ u, RelV c u → u = cv) (hk : PySem.W.kitOne K (.ref C) cv = some b) (k : Q (.bl b) H) : rIsV K [.ref a, c] H Q := by
  rcases h with ⟨h1, h2⟩ | ⟨d, h1, h2⟩
  · exact ⟨a, C, none, c, cv, b, rfl, .inl (w.get h2), fun _ z => (nomatch z), ec, hc, hk, k⟩
  · exact ⟨a, C, some d, c, cv, b, rfl, .inl (w.get h1), fun dd z => ⟨fs, by cases z; exact .inl (w.get h2)⟩, ec, hc, hk, k⟩
theorem g_xv {P : V → Prop} (w : Wd G R H) (h : ErrAt G a C fs) (xf : XfC K C) (hno : PySem.W.findIn K (.ref C) f = some none) (hl : fs.lookup f = some v) (k : P v) :
    ∃ (a' C' dd : Addr) (fs' : List (Str × V)) (v' : V), V.ref a = .ref a' ∧ ExAt H a' C' (some dd) ∧ DxAt H dd fs' ∧ XfC K C' ∧ PySem.W.findIn K (.ref C') f = some none ∧ fs'.lookup f = some v' ∧ P v' := by
  rcases h with ⟨rfl, h2⟩ | ⟨d, h1, h2⟩
  · cases hl
  · exact ⟨a, C, d, fs, v, rfl, .inl (w.get h1), .inl (w.get h2), xf, hno, hl, k⟩
theorem g_pairs1 {P : List (V × V) → Hp → Prop} {t1 t2 : TE} {r : List (TE × TE)} (k : t1 σ H fun x H1 => t2 σ H1 fun y H2 => tPairs r σ H2 fun ps H3 => P ((x, y) :: ps) H3) : tPairs ((t1, t2) :: r) σ H P := k
theorem g_pairs0 {P : List (V × V) → Hp → Prop} (k : P [] H) : tPairs [] σ H P := k
theorem g_abs {i : Int} (k : Q (.int (if i < 0 then -i else i)) H) : (fun xs H Q => ∃ i, xs = [V.int i] ∧ Q (.int (if i < 0 then -i else i)) H : List V → Hp → VK → Prop) [.int i] H Q := ⟨i, rfl, k⟩
end
/-- a new object; what is known grows by it -/
theorem g_newA {G H : Hp} {R : Res} {Q : VK} (w : Wd G R H) {o : HO} {n : Nat} (hz : n ≤ sizeLine) (k : ∀ p G' H', G p = none → Same G G' → G' p = some o → Wd G' R H' → Q (.ref p) H') : n ≤ sizeLine ∧ NewO o H Q :=
  ⟨hz, fun p hp => k p _ _ (w.free hp) (Same.newG (w.free hp)) upd_same (w.new hp)⟩
theorem g_newO {G H : Hp} {R : Res} {Q : VK} (w : Wd G R H) {o : HO} (k : ∀ p G' H', G p = none → Same G G' → G' p = some o → Wd G' R H' → Q (.ref p) H') : NewO o H Q :=
  fun p hp => k p _ _ (w.free hp) (Same.newG (w.free hp)) upd_same (w.new hp)
theorem g_addLA {G H : Hp} {R : Res} {Q : VK} {K : PySem.W.Frag} {a b : Addr} {xs ys : List V} (w : Wd G R H) (h1 : G a = some (.lst xs)) (h2 : G b = some (.lst ys)) (hz : xs.length + ys.length ≤ sizeLine) (k : ∀ p G' H', G p = none → Same G G' → G' p = some (.lst (xs ++ ys)) → Wd G' R H' → Q (.ref p) H') : aAdd K (.ref a) (.ref b) H Q :=
  g_addL w h1 h2 hz fun p H' n w' => k p _ H' n (Same.newG n) upd_same w'
theorem g_slLA {G H : Hp} {R : Res} {Q : VK} {K : PySem.W.Frag} {a : Addr} {xs : List V} {lo hi : Option Int} (w : Wd G R H) (h : SqL K G a xs) (k : ∀ p G' H', G p = none → Same G G' → G' p = some (.lst (cutV xs lo hi)) → Wd G' R H' → Q (.ref p) H') : aSl K (.ref a) lo hi H Q :=
  g_slL w h fun p H' n w' => k p _ H' n (Same.newG n) upd_same w'
/-- a list changed: what was known of others stays -/
theorem Same.setL {G0 G : Hp} {l : Addr} {o : HO} (e : Same G0 G) (n : G0 l = none) : Same G0 (upd G l o) := fun b u h => by
  rw [upd_ne (ne_of_none h n)]
  exact e b u h
theorem ErrAt.setL {G : Hp} {a C l : Addr} {fs : List (Str × V)} {xs ys : List V} (h : ErrAt G a C fs) (hl : G l = some (.lst xs)) : ErrAt (upd G l (.lst ys)) a C fs := by
  have key : ∀ {b : Addr} {phi}, G b = some (.ext phi) → b ≠ l := fun {b phi} e z => by
    rw [z, hl] at e
    cases e
  rcases h with ⟨h1, h2⟩ | ⟨d, h1, h2⟩
  · exact .inl ⟨h1, by rw [upd_ne (key h2)]; exact h2⟩
  · exact .inr ⟨d, by rw [upd_ne (key h1)]; exact h1, by rw [upd_ne (key h2)]; exact h2⟩
theorem hu120 {k : Nat} {A : Around} (h : Room k A) : A.units + 120 < cLine := by have := h.un; omega
/-! ### small data -/
structure Tz (n : Nat) (d : PyData) : Prop where
  s : d.showable = true
  dp : d.depth ≤ 6
  l : d.shown.length ≤ n
theorem g_reprZ {K : PySem.W.Frag} {G : Hp} {R : Res} {H : Hp} {v : V} {d : PyData} {Q : VK} {n : Nat} (w : Wd G R H) (h : Dq K G v d) (t : Tz n d) (hn : n ≤ 100000) (k : Q (.str d.shown) H) : qRepr K [v] H Q :=
  ⟨v, d, rfl, h.mono w.sub, t.s, Nat.le_trans t.dp (by decide), by have := t.l; rw [sizeLine_eq]; omega, k⟩
end Sw

set_option Elab.async false
set_option linter.all false
set_option maxRecDepth 100000
set_option maxHeartbeats 4000000
namespace Sw
open PySem PySem.Spec PyProof.Rows L2
/-! ### set(t), t a tuple of keys of one kind: how many different ones there are -/
section
variable {κ : Type} [DecidableEq κ]
def dcnt (ks : List κ) : Nat → Nat
  | 0 => 0
  | i + 1 => match ks[i]? with
    | some k => if k ∈ ks.take i then dcnt ks i else dcnt ks i + 1
    | none => dcnt ks i
theorem dcnt_le (ks : List κ) : ∀ i, dcnt ks i ≤ i
  | 0 => Nat.le_refl _
  | i + 1 => by
    have := dcnt_le ks i
    unfold dcnt
    split
    · split <;> omega
    · omega
theorem dcnt_take (ks : List κ) : ∀ i, i ≤ ks.length → (dcnt ks i = i ↔ (ks.take i).Nodup)
  | 0, _ => by simp [dcnt]
  | i + 1, h => by
    have ih := dcnt_take ks i (by omega)
    have le := dcnt_le ks i
    have e : ks[i]? = some ks[i] := List.getElem?_eq_getElem (by omega)
    unfold dcnt
    rw [e, List.take_add_one, e]
    simp only [Option.toList_some]
    rw [List.nodup_append]
    by_cases m : ks[i] ∈ ks.take i
    · rw [if_pos m]
      constructor
      · intro z; omega
      · intro z
        exact absurd rfl (z.2.2 _ m _ (List.mem_singleton.mpr rfl))
    · rw [if_neg m]
      constructor
      · intro z
        refine ⟨ih.mp (by omega), by simp, fun a ha b hb z => ?_⟩
        rw [List.mem_singleton] at hb
        subst hb
        subst z
        exact m ha
      · intro z
        have := ih.mpr z.1
        omega
theorem dcnt_nodup (ks : List κ) : dcnt ks ks.length = ks.length ↔ ks.Nodup := by
  rw [dcnt_take ks ks.length (Nat.le_refl _), List.take_length]
end
section
variable {prog : Program} {w : World} {A : Around} {R : Result → Shared → Prop} {κ : Type} [DecidableEq κ] {knd : KeyKind prog w κ} {I : Addr} {fp wr : List Addr} {G : Array GenState → Array GenState → Prop} {n : Nat} {Pv : Nat → Value → Prop} {St : Nat → Shared → Prop}
theorem set_congr {h : Heap} {a : Addr} {S S' : κ → Bool} {n n' : Nat} (x : h.SetOf knd a S n) (e : ∀ k, S k = S' k) (en : n = n') : h.SetOf knd a S' n' := by
  obtain rfl : S = S' := funext e
  subst en
  exact x
theorem set_keep {h h' : Heap} {a : Addr} {S : κ → Bool} {n : Nat} (x : h.SetOf knd a S n) (k : ∀ o, h.get? a = some o → h'.get? a = some o) : h'.SetOf knd a S n := by
  obtain ⟨o, es, ep, t, ho, z⟩ := x
  exact ⟨o, es, ep, t, k o ho, z⟩
theorem set_upd (W : WalksS prog w A.in1 I fp wr G n Pv St) (S : Addr) (out : S ∉ fp) (ks : List κ) (hn : n = ks.length) (room : ks.length + 1 < scanBound) (hval : ∀ i v, Pv i v → ∃ k, ks[i]? = some k ∧ knd.is k v = true ∧ v.scannable = true) :
    ∀ (j i : Nat) (s : Shared), n - i = j → i ≤ n → St i s → s.heap.SetOf knd S (fun k => decide (k ∈ ks.take i)) (dcnt ks i) →
      (∀ s', Moved (S :: wr) G s s' → s'.heap.SetOf knd S (fun k => decide (k ∈ ks.take n)) (dcnt ks n) → R (.ok (.ret .none)) s') → codeAny (model prog w) A (.builtin "set.update.loop" ⟨[.ref S, .ref I], []⟩) R s := by
  have outW : S ∉ wr := fun z => out (W.sub _ z)
  have more : ∀ b ∈ wr, b ∈ S :: wr := fun b z => List.mem_cons_of_mem _ z
  intro j
  induction j with
  | zero =>
    intro i s hj hi st hS fin
    obtain rfl : i = n := by omega
    refine codeAny_builtin F.entry_set_update_loop ?_
    rw [Around.under_plainId F.plain_set_update_loop _]
    show wpAny _ A.in1 (pyNext (.ref I) >>= _) _ _ s
    refine wpAny_bind (W.done s _ _ st fun s' mv => ?_)
    exact wpAny_pure (fin s' (mv.mono more) (set_keep hS fun o z => mv.heap S _ outW z))
  | succ j ih =>
    intro i s hj hi st hS fin
    have lt : i < n := by omega
    refine codeAny_builtin F.entry_set_update_loop ?_
    rw [Around.under_plainId F.plain_set_update_loop _]
    show wpAny _ A.in1 (pyNext (.ref I) >>= _) _ _ s
    refine wpAny_bind (W.item i s _ _ lt st fun v s' hP st' mv => ?_)
    obtain ⟨k, hk, isk, sck⟩ := hval i v hP
    have hS' := set_keep hS (h' := s'.heap) fun o z => mv.heap S _ outW z
    have cle := dcnt_le ks i
    show wpAny _ A.in1 (holding [v] (setAdd S v) >>= _) _ _ s'
    refine wpAny_bind (wpAny_holding ?_)
    unfold setAdd
    refine wpAny_holding ?_
    refine wpAny_bind (knd.pyHash (k := k) isk ?_)
    refine wpAny_setAddHashed_of (knd := knd) (s := { s' with toks := s'.toks + 1 }) isk sck hS' (by omega) fun h' sb hS2 => ?_
    have e1 : dcnt ks (i + 1) = if k ∈ ks.take i then dcnt ks i else dcnt ks i + 1 := by
      conv => lhs; unfold dcnt
      rw [hk]
    have hS3 : h'.SetOf knd S (fun k => decide (k ∈ ks.take (i + 1))) (dcnt ks (i + 1)) := set_congr hS2 (fun k' => by
      rw [List.take_add_one, hk]
      simp) (by rw [e1]; simp)
    refine wpAny_pure ⟨plainId_quiet F.plain_set_update_loop _, ih (i + 1) _ (by omega) lt (W.frame _ s' _ _ st' (Nat.le_succ _) fun b hb o z => ?_) hS3 fun s'' mv'' hS'' => ?_⟩
    · rw [sb.2 b fun q => out (by rw [← q]; exact hb)]
      exact z
    · refine fin s'' (Moved.trans W.gtrans ((mv.mono more).then_heap (Nat.le_succ _) fun b o hb z => ?_) mv'') hS''
      rw [sb.2 b fun q => hb (by rw [q]; exact List.mem_cons_self)]
      exact z
end
section
variable {prog : Program} {w : World} {A : Around} {E : Value → Shared → Prop} {s : Shared} {κ : Type} [DecidableEq κ] {knd : KeyKind prog w κ}
set_option maxHeartbeats 8000000 in
theorem call_set_tup {l : Addr} {items : Array Value} {ks : List κ} {Q : Value → Shared → Prop} (hh : A.handled = none) (hl : s.heap.IsTuple l items) (hz : ks.length = items.size) (room : ks.length + 1 < scanBound) (hval : ∀ (i : Nat) (v : Value), items[i]? = some v → ∃ k, ks[i]? = some k ∧ knd.is k v = true ∧ v.scannable = true)
    (fin : ∀ (h' : Heap) (tk : Nat), h'.SetOf knd s.heap.objs.size (fun k => decide (k ∈ ks.take items.size)) (dcnt ks items.size) → (∀ b o, b < s.heap.objs.size → s.heap.get? b = some o → h'.get? b = some o) → Q (.ref s.heap.objs.size) { s with heap := h', toks := tk }) :
    wpAny (model prog w) A (call (.type "set") [.ref l]) Q E s := by
  obtain ⟨c, tl, hmro⟩ := PySem.F.called_set.mro
  have hmade := PySem.F.called_set.made
  have hsub := PySem.F.called_set.sub
  refine wpAny_call (codeAny_of_tree ?_)
  show wpAny _ _ (callAny (.type "set") _) _ _ _
  refine wpAny_pure ⟨Code.quiet_builtin _ (by decide +kernel), codeAny_builtin PySem.F.entry_type_call ?_⟩
  rw [Around.under_plain (weight_type_call_type "set" [.ref l] []) rfl]
  have q1 := PySem.F.called_set.notType
  have q2 := PySem.F.called_set.canCreate
  have q3 := PySem.F.typeCall_set_1 (.ref l)
  repeat (any_goals (first | assumption | wp_step))
  refine codeAny_mono (code_set_new_1 (.ref l) (E := E) (Q₁ := fun obj s₁ => ∃ led : Bool, obj = .ref s.heap.objs.size ∧ s₁ = { s with heap := s.heap.push { cls := .type "set", dict := none, data := .set #[] 0 (.fresh 0 0 led) } }) fun led => ⟨led, rfl, rfl⟩) fun r s₁ hr => ?_
  cases r with
  | error e => exact hr
  | ok fl =>
    cases fl with
    | next => exact hr.elim
    | brk => exact hr.elim
    | cont => exact hr.elim
    | ret obj =>
      obtain ⟨led, rfl, rfl⟩ := hr
      have hS : (s.heap.push { cls := .type "set", dict := none, data := .set #[] 0 (.fresh 0 0 led) }).get? s.heap.objs.size = some { cls := .type "set", dict := none, data := .set #[] 0 (.fresh 0 0 led) } := Heap.get?_push_size _ rfl
      have hT : Shared.TypeIs { s with heap := s.heap.push { cls := .type "set", dict := none, data := .set #[] 0 (.fresh 0 0 led) } } (.ref s.heap.objs.size) "set" := ⟨_, hS, rfl⟩
      have hli := PySem.F.called_set.init.lookup
      have hbi := PySem.F.called_set.init.bind (.ref s.heap.objs.size)
      repeat (any_goals (first | assumption | wp_step))
      refine codeAny_mono (codeAny_call_builtin (R := wants (fun r s₂ => r = .none ∧ ∃ h' tk, s₂ = { s with heap := h', toks := tk } ∧
          h'.SetOf knd s.heap.objs.size (fun k => decide (k ∈ ks.take items.size)) (dcnt ks items.size) ∧
          (∀ b o, b < s.heap.objs.size → s.heap.get? b = some o → h'.get? b = some o)) E) PySem.F.called_set.init.plain PySem.F.entry_set_init (check_set_init_1 hT ?_)) fun r₂ s₂ hr₂ => ?_
      · obtain ⟨⟨cl', di', da', sl'⟩, hol, hcl, nl, hdl⟩ := hl
        simp only at hcl hdl
        subst hcl hdl
        have hol' : (s.heap.push { cls := .type "set", dict := none, data := .set #[] 0 (.fresh 0 0 led) }).get? l = some { cls := .type "tuple", dict := di', data := .seq items nl, slots := sl' } := Heap.get?_push_of_some _ hol
        have z1 := PySem.F.sub_tuple_set
        have z2 := PySem.F.sub_tuple_frozenset
        have z3 : (Value.type "tuple" == Value.type "dict") = false := by decide
        have hl1 : (s.heap.push { cls := .type "set", dict := none, data := .set #[] 0 (.fresh 0 0 led) }).IsTuple l items := ⟨_, hol', rfl, nl, rfl⟩
        unfold Builtin.«set.__init__» noKeywords Builtin.Frozenset.updateFrom
        generalize hPI : pyIter = PI
        wp_walk
        subst hPI
        refine wpAny_pyIter_tuple hl1 ?_
        refine wpAny_bind (wpAny_runValue ?_)
        have lt := Heap.lt_size hol
        have hh3 : A.in1.in1.in1.handled = none := by simp [hh]
        have ne1 : l ≠ (s.heap.push { cls := .type "set", dict := none, data := .set #[] 0 (.fresh 0 0 led) }).objs.size := by
          rw [Heap.size_push]
          exact Nat.ne_of_lt (Nat.lt_succ_of_lt lt)
        have nf : s.heap.objs.size ∉ [(s.heap.push { cls := .type "set", dict := none, data := .set #[] 0 (.fresh 0 0 led) }).objs.size, l] := by
          rw [Heap.size_push]
          simp only [List.mem_cons, List.mem_singleton, List.not_mem_nil, or_false, not_or]
          exact ⟨Nat.ne_of_lt (Nat.lt_succ_self _), Nat.ne_of_gt lt⟩
        refine set_upd (knd := knd) ((Walks.tuple hh3 _ l ne1 items).toS) s.heap.objs.size nf ks hz.symm room hval (items.size - 0) 0 _ (by omega) (Nat.zero_le _) ⟨⟨_, Heap.get?_push_size _ rfl, rfl, rfl⟩, (hl1.push _)⟩ ?begin ?finish
        case begin =>
          have hget : ((s.heap.push { cls := .type "set", dict := none, data := .set #[] 0 (.fresh 0 0 led) }).push { cls := .type "tuple_iterator", data := .fields #[.ref l, .int 0 0] }).get? s.heap.objs.size
              = some { cls := .type "set", dict := none, data := .set #[] 0 (.fresh 0 0 led) } := Heap.get?_push_of_some _ hS
          exact set_congr ((PyProof.Rows.setObjOf_fresh (knd := knd) led).setOf hget (by unfold scanBound; omega)) (fun _ => by simp) rfl
        case finish =>
          intro s' mv hS'
          obtain ⟨h', g', d', tk', os'⟩ := s'
          have eg : g' = s.gens := mv.gens
          have ed : d' = s.drawn := mv.drawn
          have eo : os' = s.os := mv.os
          subst eg ed eo
          show wpAny _ _ _ _ _ _
          refine wpAny_pure ?_
          show wpAny _ _ (ret Value.none) _ _ _
          refine wpAny_pure ⟨rfl, h', tk', rfl, hS', fun b o hb z => ?_⟩
          have ne2 : b ≠ (s.heap.push { cls := .type "set", dict := none, data := .set #[] 0 (.fresh 0 0 led) }).objs.size := by
            rw [Heap.size_push]
            exact Nat.ne_of_lt (Nat.lt_succ_of_lt hb)
          have k1 := Heap.get?_push_of_some ({ cls := .type "set", dict := none, data := .set #[] 0 (.fresh 0 0 led) } : Obj) z
          exact mv.heap b o (by simp only [List.mem_cons, List.mem_singleton, List.not_mem_nil, or_false, not_or]; exact ⟨Nat.ne_of_lt hb, ne2⟩) (Heap.get?_push_of_some _ k1)
      · cases r₂ with
        | error e => exact hr₂
        | ok fl₂ =>
          cases fl₂ with
          | ret r =>
            obtain ⟨rfl, h', tk, rfl, hS', hk'⟩ := hr₂
            repeat (any_goals (first | assumption | wp_step))
            exact fin _ _ hS' hk'
          | next => exact hr₂.elim
          | brk => exact hr₂.elim
          | cont => exact hr₂.elim
end
/-- len(set(t)), t a tuple of texts -/
def tLenSetT (K : PySem.W.Frag) (ta : TE) : TE := fun σ H Q => ta σ H fun x H1 => ∃ l, ∃ xs : List Str, x = .ref l ∧ SqT K H1 l (xs.map V.str) ∧ xs.length ≤ 20 ∧ Q (.int (dcnt xs xs.length)) H1
theorem pe_lenSetT {X : Cx} {a : Expr} {ta : TE} {p p2 q pos : Pos} (K : PySem.W.Frag) (hc : X.calm = true) (hg : Gl X "len") (hm : X.mg "len" = none) (hg2 : Gl X "set") (hm2 : X.mg "set" = none) (ha : PE X a ta) (hK : X.K = K := by rfl)
    (na : starEach [a] X.env = (false, eval a X.env) :: starEach [] X.env := by rfl) : PE X (.Call (.Name "len" p) [.Call (.Name "set" p2) [a] [] q] [] pos) (tLenSetT K ta) := by
  subst hK
  refine ⟨fun pins s σ H Q I h => ?_⟩
  refine Call_ (ld_blt I hg hm boot_len ?_)
  refine PyProof.Rows.callWith_builtin1 (PyProof.Rows.args_cons ?_ rfl) rfl rfl
  refine Call_ (ld_blt I hg2 hm2 boot_set ?_)
  refine PyProof.Rows.callWith_type1 (PyProof.Rows.args_cons (thn (ha.run pins s σ H _ I h) fun v s1 ⟨x, H1, I1, r1, q1⟩ => PyProof.Rows.args_nil ?_) na) na rfl
  obtain ⟨l, xs, rfl, hq, hx, q1⟩ := q1
  cases r1
  obtain ⟨its, r, pl, hz⟩ := I1.tuple hq
  have sa := strsAre_of r
  have le : its.length = xs.length := by rw [← r.length, List.length_map]
  refine call_set_tup (knd := PySem.strKind X.prog X.w) (ks := xs) (I1.ok.hd hc) pl (by rw [List.size_toArray, le]) (by unfold scanBound; omega) (fun i v hv => ?_) fun h' tk hS hk => ?_
  · have hv' : its[i]? = some v := by simpa using hv
    obtain ⟨t, e⟩ := SS.strs_at sa i v hv'
    have hi : i < xs.length := by rw [← le]; exact (List.getElem?_eq_some_iff.mp hv').1
    refine ⟨xs[i], List.getElem?_eq_getElem hi, ?_, ?_⟩
    · rw [e, List.getD_eq_getElem?_getD, List.getElem?_eq_getElem hi]
      exact strKind_is _ _ _ _
    · rw [e]; rfl
  · refine PyProof.Rows.args_nil ?_
    rw [show its.toArray.size = xs.length by rw [List.size_toArray, le]] at hS
    obtain ⟨o, es, ep, t, ho, hex, hd, _, _, _, hf, hn⟩ := hS
    have I2 : Inv X pins σ H1 { s1 with heap := h', toks := tk } := I1.kept fun b o e => hk b o (Heap.lt_size e) e
    have := dcnt_le xs xs.length
    refine call_len_set ho hex hd hf (by rw [hn]; omega) ⟨.int (dcnt xs xs.length), H1, I2.tok _, ⟨_, by rw [hn]⟩, q1⟩
theorem g_lenSetT {G H : Hp} {R : Res} {K : PySem.W.Frag} {Q : VK} {l : Addr} {xs : List Str} (w : Wd G R H) (h : SqT K G l (xs.map V.str)) (hx : xs.length ≤ 20) (k : Q (.int (dcnt xs xs.length)) H) :
    ∃ l', ∃ ys : List Str, V.ref l = .ref l' ∧ SqT K H l' (ys.map V.str) ∧ ys.length ≤ 20 ∧ Q (.int (dcnt ys ys.length)) H := ⟨l, xs, rfl, Evl.ex_t w.sub h, hx, k⟩
/-! ### xs == [] -/
def rEqL0 (K : PySem.W.Frag) : R2 := fun x y H Q => ∃ a b xs, x = .ref a ∧ y = .ref b ∧ SqL K H a xs ∧ SqL K H b [] ∧ Q (.bl xs.isEmpty) H
def rNeL0 (K : PySem.W.Frag) : R2 := fun x y H Q => ∃ a b xs, x = .ref a ∧ y = .ref b ∧ SqL K H a xs ∧ SqL K H b [] ∧ Q (.bl (!xs.isEmpty)) H
theorem op_eqL0 {X : Cx} (K : PySem.W.Frag) (hu : X.A.units + 64 < cLine) (hK : X.K = K := by rfl) : OpR X (compareOp .Eq) (rEqL0 K) := by
  subst hK
  intro pins s σ H x y v u Q I rx ry h
  obtain ⟨a, b, xs, rfl, rfl, ha, hb, q⟩ := h
  cases xs with
  | nil => exact op_eqF hu pins s σ H _ _ v u Q I rx ry ⟨a, b, [], [], rfl, rfl, ha, hb, rfl, rfl, q⟩
  | cons x xs =>
    cases rx
    cases ry
    obtain ⟨i1, r1, p1, z1⟩ := I.list ha
    obtain ⟨i2, r2, p2, z2⟩ := I.list hb
    have l1 := r1.length
    have l2 := r2.length
    refine SeqAt.RcAt.lists_lengths (A := X.A) p1.isList p2.isList (by simp only [List.size_toArray]; rw [← l1, ← l2]; simp) (by omega) X.prog X.w _ _ ?_
    exact ⟨.bl _, H, I, rfl, q⟩
theorem op_neL0 {X : Cx} (K : PySem.W.Frag) (hu : X.A.units + 64 < cLine) (hK : X.K = K := by rfl) : OpR X (compareOp .NotEq) (rNeL0 K) := by
  subst hK
  intro pins s σ H x y v u Q I rx ry h
  obtain ⟨a, b, xs, rfl, rfl, ha, hb, q⟩ := h
  cases xs with
  | nil => exact op_neF hu pins s σ H _ _ v u Q I rx ry ⟨a, b, [], [], rfl, rfl, ha, hb, rfl, rfl, q⟩
  | cons x xs =>
    cases rx
    cases ry
    obtain ⟨i1, r1, p1, z1⟩ := I.list ha
    obtain ⟨i2, r2, p2, z2⟩ := I.list hb
    have l1 := r1.length
    have l2 := r2.length
    refine SeqAt.RcNeAt.lists_lengths (A := X.A) p1.isList p2.isList (by simp only [List.size_toArray]; rw [← l1, ← l2]; simp) (by omega) X.prog X.w _ _ ?_
    exact ⟨.bl _, H, I, rfl, q⟩
theorem g_eqL0 {G H : Hp} {R : Res} {K : PySem.W.Frag} {Q : VK} {a b : Addr} {xs : List V} (w : Wd G R H) (h1 : SqL K G a xs) (h2 : SqL K G b []) (k : Q (.bl xs.isEmpty) H) : rEqL0 K (.ref a) (.ref b) H Q := ⟨a, b, xs, rfl, rfl, Evl.ex_l w.sub h1, Evl.ex_l w.sub h2, k⟩
theorem g_neL0 {G H : Hp} {R : Res} {K : PySem.W.Frag} {Q : VK} {a b : Addr} {xs : List V} (w : Wd G R H) (h1 : SqL K G a xs) (h2 : SqL K G b []) (k : Q (.bl (!xs.isEmpty)) H) : rNeL0 K (.ref a) (.ref b) H Q := ⟨a, b, xs, rfl, rfl, Evl.ex_l w.sub h1, Evl.ex_l w.sub h2, k⟩
end Sw

set_option Elab.async false
set_option linter.all false
set_option maxRecDepth 100000
set_option maxHeartbeats 4000000
namespace Sw
open PySem PySem.Spec PyProof.Rows L2
/-! ### an exception leaves a list comprehension -/
theorem noteB {M : Model} {A : Around} {E : Value → Shared → Prop} {env : Env} {outer : List Env} {s : Shared} {B : Heap} {Z : Obj → Prop} {a C L : Addr} {Q : Unit → Shared → Prop} (hZ : HandSPX.Steady Z) (hfr : A.frames = some (env :: outer)) (hf : env.frame = some L) (hC : C ≠ L)
    (hh : HandSPX.HeldZ B (env :: outer) a Z C s.heap) (hQ : ∀ h', HandSPX.HeldZ B (env :: outer) a Z L h' → s.heap.UpToSlots h' → Q () { s with heap := h' }) : wpAny M A (noteFrame (.ref a) env) Q E s := by
  obtain ⟨kb, na, ff, x, vs, t, y, ts, ex, zx, dx, x1, nt, ta, et, dt, t3⟩ := hh
  have ne1 : (Value.ref t != Value.none) = true := by simp
  have ne2 : ¬ ((rawInt C == rawInt L) = true) := by simp [rawInt]; exact fun z => hC (Int.ofNat.inj z)
  unfold noteFrame
  simp only [hf]
  refine wpAny_bind (wpAny_field ex dx x1 ?_)
  rw [if_pos ne1]
  refine wpAny_bind (wpAny_field et dt t3 ?_)
  rw [if_neg ne2]
  have l3 := (Array.getElem?_eq_some_iff.mp t3).1
  have l1 := (Array.getElem?_eq_some_iff.mp x1).1
  refine wpAny_bind (wpAny_setField et dt l3 ?_)
  have oth : ∀ b, b ≠ t → (s.heap.update t (Obj.mapFields (·.setIfInBounds 3 Value.none))).get? b = s.heap.get? b := fun b hb => Heap.get?_update_other _ _ fun z => hb z.symm
  have nrec : ∀ b o, s.heap.get? b = some o → (∀ us, o.data ≠ .fields us) → b ≠ t := fun b o hb hn z => by
    subst z
    rw [et] at hb
    cases hb
    exact hn ts dt
  have inB : ∀ b o, B.get? b = some o → b ≠ t := fun b o e z => by
    subst z
    rw [nt] at e
    cases e
  have ffs := ff.of_keeps (h' := s.heap.update t (Obj.mapFields (·.setIfInBounds 3 Value.none))) fun b o hb hn => ⟨o, (oth b (nrec b o hb hn)).trans hb, rfl⟩
  have exs := (oth a fun z => ta z.symm).trans ex
  refine HandSPX.wpAny_entryZ hZ hfr ffs hf exs (fun b o e => (oth b (inB b o e)).trans (kb b o e)) na dx l1 zx fun h' hN => ?_
  obtain ⟨q1, q2, q3, q4⟩ := hN
  exact hQ h' ⟨q1, na, q2, q3⟩ fun b o hb hn => q4 b o ((oth b (nrec b o hb hn)).trans hb) hn
theorem skyB {M : Model} {A : Around} {E : Value → Shared → Prop} {env : Env} {outer : List Env} {s : Shared} {B : Heap} {Z : Obj → Prop} {a C L : Addr} {Q : Unit → Shared → Prop} (hZ : HandSPX.Steady Z) (hfr : A.frames = some (env :: outer)) (hf : env.frame = some L) (hC : C ≠ L)
    (x : Sky B (env :: outer) a Z C s.heap) (hQ : ∀ h', HandSPX.HeldZ B (env :: outer) a Z L h' → s.heap.UpToSlots h' → Q () { s with heap := h' }) : wpAny M A (noteFrame (.ref a) env) Q E s := by
  rcases x with ⟨hB, hn, hl, oe, vs, he, hz, hd, h1⟩ | fl | hh
  · exact HandSPX.look_newZ hZ hfr hl hf he hB hn hd h1 hz hQ
  · exact HandSPX.looks_onZ hZ hfr hf fl hQ
  · exact noteB hZ hfr hf hC hh hQ
section
variable {X : Cx} {pins : List (Addr × Obj)} {σ : L2.St} {H3 : Hp} {s3 s' : Shared} {scope : Scope} {ce : Env} {fp : List Addr} {E : Value → Shared → Prop} {Wo : WX} {u : Value}
theorem lcX_out (I3 : Inv X pins σ H3 s3) (hs : X.stack = X.env :: X.outer) (hf : X.env.frame = some X.env.locals) (tw : Takes X Wo) (hcf : ce.frame = X.env.frame) (cL : ce.locals = s3.heap.objs.size) (f3 : ∀ b ∈ fp, FpOk X pins H3 b ∧ b < s3.heap.objs.size)
    (x : XE ((X.blk s3 H3 scope ce fp).wish E) (fun cls d _ H' => Wo cls d σ H') u s') : notedBy (model X.prog X.w) X.A ce (CompFails (model X.prog X.w) X.A X.xe ce) u s' := by
  obtain ⟨a, B, sI, pins', σ', H', cls, d, rfl, J', nb, up, sky, na, os, ag, hw⟩ := x
  have J : Inv (X.blk s3 H3 scope ce fp) pins' σ' H' sI := J'.unwish
  have hfr : X.A.frames = some (X.env :: X.outer) := by rw [I3.ok.frames, hs]
  have sky' : Sky B (X.env :: X.outer) a (Zc cls d) ce.locals s'.heap := by rw [← hs]; exact sky
  have nb' : ∀ b o, sI.heap.get? b = some o → b ∉ frs X.stack → B.get? b = some o := nb
  have hCL : ce.locals ≠ X.env.locals := by
    rw [cL]
    exact Nat.ne_of_gt I3.lt
  obtain ⟨m, hns, _⟩ := J.loc
  have hns' : sI.heap.Ns ce.locals m := hns
  -- back in the def
  have I7 : Inv X pins σ H' sI := I3.call' (ch := fp) J.os J.base J.hok J.bare fun b hb => ⟨(f3 b hb).1.2.2.2.1, (f3 b hb).1.2.1, (f3 b hb).1.2.2.2.2.1, (f3 b hb).1.2.2.2.2.2⟩
  have nC : H' s3.heap.objs.size = none := by
    have z : H' ce.locals = none := J.free
    rw [cL] at z
    exact z
  obtain ⟨f0, f1, f2, f4, f5, f6⟩ := I3.fpOk (Nat.le_refl _) nC
  obtain ⟨GI, g1, g2⟩ := restrict sI.heap fun b => !decide (b = ce.locals)
  obtain ⟨GB, b1, b2⟩ := restrict B fun b => !decide (b = ce.locals)
  have gI : ∀ b o, GI.get? b = some o → b ≠ ce.locals ∧ sI.heap.get? b = some o := fun b o e => by
    by_cases hb : b = ce.locals
    · rw [g2 b (by simp [hb])] at e
      cases e
    · exact ⟨hb, by rw [← g1 b (by simp [hb])]; exact e⟩
  have gB : ∀ b o, GB.get? b = some o → b ≠ ce.locals ∧ B.get? b = some o := fun b o e => by
    by_cases hb : b = ce.locals
    · rw [b2 b (by simp [hb])] at e
      cases e
    · exact ⟨hb, by rw [← b1 b (by simp [hb])]; exact e⟩
  have I2 : Inv X pins σ H' { sI with heap := GI, toks := sI.toks } := I7.turned (t' := sI.toks) (it := ce.locals) (fun b o hb e => by rw [g1 b (by simp [hb])]; exact e) (by rw [cL]; exact f0) (by rw [cL]; exact f1) (by rw [cL]; exact f4) (by rw [cL]; exact f5) (by rw [cL]; exact f6)
  show wpAny _ X.A (noteFrame (.ref a) ce) _ _ s'
  rw [noteFrame_env _ hcf]
  refine skyB Zc.steady hfr hf hCL sky' fun h1 hh up1 => ?_
  obtain ⟨st1, na1, ff1, oe, vs, T, oT, ts, he, hz, hd, hv1, hnT, hTe, hT, hdT, ht3⟩ := hh
  have upA : sI.heap.UpToSlots h1 := up.trans up1
  refine ⟨m, upA.ns hns', fun h2 m2 hn2 hs2 => ?_⟩
  have nsC : h1.Ns ce.locals m := upA.ns hns'
  have aC : a ≠ ce.locals := fun z => by
    obtain ⟨o, es, ep, ho, hdd, _⟩ := nsC
    rw [← z, he] at ho
    cases ho
    rw [hd] at hdd
    cases hdd
  have TC : T ≠ ce.locals := fun z => by
    obtain ⟨o, es, ep, ho, hdd, _⟩ := nsC
    rw [← z, hT] at ho
    cases ho
    rw [hdT] at hdd
    cases hdd
  have ff2 : h2.FunFrames GB (X.env :: X.outer) := by
    have q : ∀ {l : List Env}, h1.FunFrames B l → h1.FunFrames GB l := fun {l} => by
      induction l with
      | nil => exact fun _ => trivial
      | cons e r ih =>
        rintro ⟨k1, ⟨L', o, k2, k3, k4, k5⟩, k6⟩
        refine ⟨k1, ⟨L', o, k2, ?_, k4, k5⟩, ih k6⟩
        cases e' : GB.get? L' with
        | none => rfl
        | some o' =>
          have := (gB _ _ e').2
          rw [k3] at this
          cases this
    exact Heap.FunFrames.sameBut hs2 hn2 (q ff1)
  have st2 : GB.StaysIn h2 := fun b o e => by
    obtain ⟨n1, e1⟩ := gB b o e
    rw [hs2.2 b n1]
    exact st1 b o e1
  have naG : GB.get? a = none := by
    cases e' : GB.get? a with
    | none => rfl
    | some o' =>
      have := (gB _ _ e').2
      rw [na1] at this
      cases this
  have nTG : GB.get? T = none := by
    cases e' : GB.get? T with
    | none => rfl
    | some o' =>
      have := (gB _ _ e').2
      rw [hnT] at this
      cases this
  have he2 : h2.get? a = some oe := (hs2.2 a aC).trans he
  have hh2 : HandSPX.HeldZ GB (X.env :: X.outer) a (Zc cls d) X.env.locals h2 := ⟨st2, naG, ff2, oe, vs, T, oT, ts, he2, hz, hd, hv1, nTG, hTe, (hs2.2 T TC).trans hT, hdT, ht3⟩
  unfold PySem.passOn
  refine wpAny_bind (wpAny_field he2 hd hv1 ?_)
  rw [if_neg (by simp), hcf, hf]
  refine wpAny_bind (HandSPX.setFlight_onZ hh2 fun h3 hh3 up3 => wpAny_throw (tw _ _ ?_))
  refine ⟨a, GB, { sI with heap := GI, toks := sI.toks }, pins, σ, H', cls, d, rfl, I2, fun b o e hb => ?_, fun b o e hn => ?_, .inr (.inr (by rw [hs]; exact hh3)), na, os, ag, hw⟩
  · obtain ⟨n1, e1⟩ := gI b o e
    rw [b1 b (by simp [n1])]
    exact nb' b o e1 hb
  · obtain ⟨n1, e1⟩ := gI b o e
    obtain ⟨sl, e2⟩ := upA b o e1 hn
    obtain ⟨sl', e3⟩ := up3 b _ ((hs2.2 b n1).trans e2) hn
    exact ⟨sl', e3⟩
end
/-- [elt for target in iter if ..], elt may raise: Wo is what is wished of what leaves -/
def tLcX (wi : TI) (g : TG) (tt : TT) (te : WX → TE) (vs : List Nat) (Wo : WX) : TE := fun σ H Q => tLc wi g tt (te fun cls d _ H' => Wo cls d σ H') vs σ H Q
section
variable {X : Cx} {Wo : WX}
theorem lcX_core {pins : List (Addr × Obj)} {s : Shared} {σ : L2.St} {H : Hp} {Q : VK} {elt tg iter : Expr} {ifs : List Expr} {scope : Scope} {own : List (Str × Nat)} {pos pos' : Pos} {wi : TI} {g : TG} {tt : TT} {te : WX → TE} {use : Option (Value → Sem Unit)} {Qf : Value → Shared → Prop}
    (hc : X.calm = true) (hN : X.N.Nodup) (hst : X.stack = X.env :: X.outer) (hfm : X.env.frame = some X.env.locals) (tw : Takes X Wo) (I : Inv X pins σ H s) (hi : PI X tg iter wi) (ok : BlkOk X.N X.env.scope scope own)
    (hg : ∀ (s : Shared) (H : Hp) (C : Addr) (cl : List (Str × Addr)) (fp : List Addr), PG (X.blk s H scope (compEnvC scope cl C X.env) fp) tg g) (ht : ∀ (s : Shared) (H : Hp) (C : Addr) (cl : List (Str × Addr)) (fp : List Addr), PTs (X.blk s H scope (compEnvC scope cl C X.env) fp) ifs tt)
    (he : ∀ (s : Shared) (H : Hp) (C : Addr) (cl : List (Str × Addr)) (fp : List Addr) (E : Value → Shared → Prop) (W : WX), Takes ((X.blk s H scope (compEnvC scope cl C X.env) fp).wish E) W → PE ((X.blk s H scope (compEnvC scope cl C X.env) fp).wish E) elt (te W))
    (hs : ∀ x, foldedSetIterable iter X.env x = pure x) (h : tLcX wi g tt te (own.map (·.2)) Wo σ H Q)
    (fin : ∀ D s' m H' (ce : Env), ce.locals ≠ D → Inv X pins σ H' s' → Q (.ref D) H' → s'.heap.Ns ce.locals m → FpOk X pins H' ce.locals → compEnds (model X.prog X.w) X.A X.xe use Qf (.ref D) ce (.ok .next) s') :
    wpAny (model X.prog X.w) X.A (comprehension (.ListComp elt [⟨tg, iter, ifs, 0⟩] scope pos) scope X.env pos' (newList []) false (eval iter X.env) use) Qf X.xe s := by
  have free : ∀ y ∈ scope.names, y.2 = .free → ∃ c, X.env.cells.lookup y.1 = some c := fun y hy z => (ok.free y hy z).elim (fun k => I.ok.has _ (.inl k)) fun k => I.ok.has _ (.inr k)
  refine comprehension_at (use := use) rfl hs (closure_ok free) ok.kind (fun y hy z => by rw [ok.uniq y hy, z]) (thn (hi.run pins s σ H _ I h) fun v1 s1 h1 => thn h1 fun v2 s2 h2 => ?_)
  obtain ⟨it, fp, tn, J, H2, rfl, I2, T, st2, f2, q⟩ := h2
  refine wpAny_newObj_type (newEnv_comp ?_) (Nat.zero_le _)
  have nD : H2 s2.heap.objs.size = none := I2.hok.fresh (Nat.le_refl _)
  obtain ⟨W, ⟨m0, w0⟩, turn⟩ := q _ nD
  have push : ∀ b o, s2.heap.get? b = some o → (s2.heap.push ({ cls := .type "list", data := .seq ([] : List Value).toArray } : Obj)).get? b = some o := fun b o z => Heap.get?_push_of_some _ z
  have I3 : Inv X pins σ (upd H2 s2.heap.objs.size (.lst [])) { s2 with heap := s2.heap.push ({ cls := .type "list", data := .seq ([] : List Value).toArray } : Obj) } :=
    I2.laid (t' := s2.toks) push (Nat.le_refl _) ⟨Nat.zero_le _, [], 0, .nil, Heap.get?_push_size _ rfl⟩
  have old : ∀ b ∈ fp, b < s2.heap.objs.size := fun b hb => by
    obtain ⟨o, z, _⟩ := T.obj _ _ st2 b hb
    exact Heap.lt_size z
  have f3 : ∀ b ∈ fp, FpOk X pins (upd H2 s2.heap.objs.size (.lst [])) b ∧ b < (s2.heap.push ({ cls := .type "list", data := .seq ([] : List Value).toArray } : Obj)).objs.size := fun b hb => by
    have lt := old b hb
    obtain ⟨z1, z2⟩ := f2 b hb
    refine ⟨⟨?_, z2⟩, by rw [Heap.size_push]; exact Nat.lt_succ_of_lt lt⟩
    rw [upd_ne (Nat.ne_of_lt lt)]
    exact z1
  have st3 : tn 0 (s2.heap.push ({ cls := .type "list", data := .seq ([] : List Value).toArray } : Obj)) := T.keep _ _ _ st2 fun b _ o z => push b o z
  have nLD : s2.heap.objs.size < (s2.heap.push ({ cls := .type "list", data := .seq ([] : List Value).toArray } : Obj)).objs.size := by
    rw [Heap.size_push]
    exact Nat.lt_succ_self _
  generalize s2.heap.objs.size = D at *
  generalize hs3 : ({ s2 with heap := s2.heap.push ({ cls := .type "list", data := .seq ([] : List Value).toArray } : Obj) } : Shared) = s3 at *
  have e3 : s2.heap.push ({ cls := .type "list", data := .seq ([] : List Value).toArray } : Obj) = s3.heap := by rw [← hs3]
  rw [e3] at f3 st3 nLD
  generalize upd H2 D (.lst []) = H3 at *
  have I4 := block_start I3 ok hN f3
  have pg := hg s3 H3 s3.heap.objs.size (cellsFrom (s3.heap.objs.size + 1) scope.names (cloFrom X.env.cells scope.names [])) fp
  have pt := ht s3 H3 s3.heap.objs.size (cellsFrom (s3.heap.objs.size + 1) scope.names (cloFrom X.env.cells scope.names [])) fp
  have pe := he s3 H3 s3.heap.objs.size (cellsFrom (s3.heap.objs.size + 1) scope.names (cloFrom X.env.cells scope.names [])) fp
  show codeAny _ _ (.compStart (.ListComp elt [⟨tg, iter, ifs, 0⟩] scope pos) 0 (.ref it) (.ref D) (compEnvC scope (cellsFrom (s3.heap.objs.size + 1) scope.names (cloFrom X.env.cells scope.names [])) s3.heap.objs.size X.env))
    (compEnds (model X.prog X.w) X.A X.xe use Qf (.ref D) (compEnvC scope (cellsFrom (s3.heap.objs.size + 1) scope.names (cloFrom X.env.cells scope.names [])) s3.heap.objs.size X.env)) { s3 with heap := pushCells (s3.heap.push { cls := .type "dict", data := .dict #[] }) scope.names }
  have none3 : ∀ b ∈ fp, H3 b = none := fun b hb => (f3 b hb).1.1
  have cfr : (compEnvC scope (cellsFrom (s3.heap.objs.size + 1) scope.names (cloFrom X.env.cells scope.names [])) s3.heap.objs.size X.env).frame = X.env.frame := rfl
  have cL : (compEnvC scope (cellsFrom (s3.heap.objs.size + 1) scope.names (cloFrom X.env.cells scope.names [])) s3.heap.objs.size X.env).locals = s3.heap.objs.size := rfl
  generalize compEnvC scope (cellsFrom (s3.heap.objs.size + 1) scope.names (cloFrom X.env.cells scope.names [])) s3.heap.objs.size X.env = ce at *
  have st4 : tn 0 (pushCells (s3.heap.push { cls := .type "dict", data := .dict #[] }) scope.names) := T.keep _ _ _ st3 fun b _ o z => pushCells_keeps _ _ _ _ (Heap.get?_push_of_some _ z)
  generalize hs4 : ({ s3 with heap := pushCells (s3.heap.push { cls := .type "dict", data := .dict #[] }) scope.names } : Shared) = s4 at *
  have st4' : tn 0 s4.heap := by rw [← hs4]; exact st4
  have out := fun (u : Value) (s' : Shared) (E : Value → Shared → Prop) => lcX_out (scope := scope) (E := E) (u := u) (s' := s') I3 hst hfm tw cfr cL f3
  have blkFp : ∀ {σ' : L2.St} {H' : Hp} {s' : Shared}, Inv (X.blk s3 H3 scope ce fp) [] σ' H' s' → (∀ b ∈ fp, H' b = none) → ∀ b ∈ fp, FpOk (X.blk s3 H3 scope ce fp) [] H' b := fun {σ' H' s'} J hn b hb =>
    ⟨hn b hb, (J.ok.exf b hb).1, J.ok.exfs b hb, .inl hb, fun x c z => (J.ok.exf b hb).2 x c z, fun p hp => absurd (show p ∈ ([] : List (Addr × Obj)) ++ [] from hp) (by simp)⟩
  have loop : codeAny (model X.prog X.w) X.A (.compLoop (.ListComp elt [⟨tg, iter, ifs, 0⟩] scope pos) 0 (.ref it) (.ref D) ce) (compEnds (model X.prog X.w) X.A X.xe use Qf (.ref D) ce) s4 := by
    refine compLoop_any (fun n s' => ∃ i H', Inv (X.blk s3 H3 scope ce fp) [] (wipe σ (own.map (·.2))) H' s' ∧ tn i s'.heap ∧ (∀ b ∈ fp, H' b = none) ∧ W i n H') ?_ m0 ⟨0, H3, I4, st4', none3, w0⟩
    rintro n s5 ⟨i, H5, I5, st5, n5, w5⟩
    rcases turn i n H5 w5 with ⟨stop, qq⟩ | ⟨go, Nx, hNx, step⟩
    · refine thnF (T.done (X.blk s3 H3 scope ce fp) rfl rfl rfl hc i [] s5 _ H5 (fun _ _ => False) I5 (blkFp I5 n5) st5 stop) fun r s6 ⟨hr, I6⟩ => ?_
      subst hr
      have I7 : Inv X pins σ H5 s6 := I3.call' (ch := fp) I6.os I6.base I6.hok I6.bare fun b hb => ⟨(f3 b hb).1.2.2.2.1, (f3 b hb).1.2.1, (f3 b hb).1.2.2.2.2.1, (f3 b hb).1.2.2.2.2.2⟩
      obtain ⟨m, hn, _⟩ := I6.loc
      have nC : H5 ce.locals = none := I6.free
      refine fin D s6 m H5 ce (by rw [cL]; exact Nat.ne_of_gt nLD) I7 qq hn ?_
      rw [cL] at nC ⊢
      exact I3.fpOk (Nat.le_refl _) nC
    · refine thnF (T.item (X.blk s3 H3 scope ce fp) rfl rfl rfl hc i [] s5 _ H5 (fun _ _ => False) I5 (blkFp I5 n5) st5 go) fun r s6 ⟨u, hr, h6⟩ => ?_
      subst hr
      refine thnF h6 fun _ s7 ⟨x, H7, I7, r7, y7, st7, n7⟩ => ?_
      refine thnF (pg.run _ s7 _ H7 x u _ (I7.pinned (blkFp I7 n7) (T.obj _ _ st7)) r7 (step x H7 y7)) fun _ s8 ⟨σ8, H8, I8, hw8, q8⟩ => ?_
      refine thnF (pt.run _ s8 σ8 H8 _ I8 q8) fun b s9 ⟨H9, I9, q9⟩ => ?_
      have turned : ∀ {s' : Shared} {H' : Hp}, Inv (X.blk s3 H3 scope ce fp) ([] ++ pinsAt fp s7.heap) σ8 H' s' → Nx H' → ∃ m, m < n ∧ ∃ i H', Inv (X.blk s3 H3 scope ce fp) [] (wipe σ (own.map (·.2))) H' s' ∧ tn i s'.heap ∧ (∀ b ∈ fp, H' b = none) ∧ W i m H' := fun {s' H'} J nx => by
        obtain ⟨m', hm, w'⟩ := hNx H' nx
        have pinned : ∀ b ∈ fp, ∀ o, s7.heap.get? b = some o → s'.heap.get? b = some o ∧ H' b = none := fun b hb o z =>
          have k := J.pin (b, o) (List.mem_append_right _ (List.mem_append_right _ (mem_pinsAt hb z)))
          ⟨k.1, k.2.1⟩
        refine ⟨m', hm, i + 1, H', (J.unpinned (pins := [])).weak (by rw [← hw8, wipe_length]) (fun j v z => ?_), T.keep _ _ _ st7 fun b hb o z => (pinned b hb o z).1, fun b hb => ?_, w'⟩
        · rw [← hw8] at z
          exact (wipe_some z).1
        · obtain ⟨o, z, _⟩ := T.obj _ _ st7 b hb
          exact (pinned b hb o z).2
      cases b with
      | false => exact turned I9 q9
      | true =>
        simp only [if_true] at q9 ⊢
        have tk : Takes ((X.blk s3 H3 scope ce fp).wish (notedBy (model X.prog X.w) X.A ce fun e s' => compEnds (model X.prog X.w) X.A X.xe use Qf (.ref D) ce (.error e) s')) (fun cls d _ H' => Wo cls d σ H') := fun u s' x => by
          have z := out u s' _ x
          show notedBy (model X.prog X.w) X.A ce (fun e s' => compEnds (model X.prog X.w) X.A X.xe use Qf (.ref D) ce (.error e) s') u s'
          have ee : (fun e s' => compEnds (model X.prog X.w) X.A X.xe use Qf (.ref D) ce (.error e) s') = CompFails (model X.prog X.w) X.A X.xe ce := by
            funext e s'
            cases use <;> rfl
          rw [ee]
          exact z
        refine thn ((pe _ _ tk).run _ s9 σ8 H9 _ (I9.wish _) q9) fun z s10 ⟨yv, H10, I10, r10, acc, hD10, hz10, nx⟩ => ?_
        exact app_ok (X := X.blk s3 H3 scope ce fp) I10.unwish hD10 hz10 r10 fun s11 I11 => turned I11 nx
  exact codeAny_compStart_list loop (T.self X.A 0 _ _ _ st4' loop)
theorem pe_lcX {elt tg iter : Expr} {ifs : List Expr} {scope : Scope} {own : List (Str × Nat)} {pos : Pos} {wi : TI} {g : TG} {tt : TT} {te : WX → TE} (tw : Takes X Wo) (hc : X.calm = true) (hN : X.N.Nodup) (hi : PI X tg iter wi) (ok : BlkOk X.N X.env.scope scope own)
    (hg : ∀ (s : Shared) (H : Hp) (C : Addr) (cl : List (Str × Addr)) (fp : List Addr), PG (X.blk s H scope (compEnvC scope cl C X.env) fp) tg g) (ht : ∀ (s : Shared) (H : Hp) (C : Addr) (cl : List (Str × Addr)) (fp : List Addr), PTs (X.blk s H scope (compEnvC scope cl C X.env) fp) ifs tt)
    (he : ∀ (s : Shared) (H : Hp) (C : Addr) (cl : List (Str × Addr)) (fp : List Addr) (E : Value → Shared → Prop) (W : WX), Takes ((X.blk s H scope (compEnvC scope cl C X.env) fp).wish E) W → PE ((X.blk s H scope (compEnvC scope cl C X.env) fp).wish E) elt (te W))
    (hst : X.stack = X.env :: X.outer := by rfl) (hfm : X.env.frame = some X.env.locals := by rfl) (hs : ∀ x, foldedSetIterable iter X.env x = pure x := by intro _; rfl) :
    PE X (.ListComp elt [⟨tg, iter, ifs, 0⟩] scope pos) (tLcX wi g tt te (own.map (·.2)) Wo) := by
  refine ⟨fun pins s σ H Q I h => ?_⟩
  rw [eval_ListComp]
  refine lcX_core hc hN hst hfm tw I hi ok hg ht he hs h fun D s' m H' ce hne J q hn f => ⟨m, hn, fun h'' sb => ?_⟩
  obtain ⟨f0, f1, f2, f3, f4, f5⟩ := f
  exact ⟨.ref D, H', J.turned (t' := s'.toks) (fun b o hb z => (sb.2 b hb).trans z) f0 f1 f3 f4 f5, rfl, q⟩
theorem ps_setLcX {i : Nat} {y : Str} {py : Pos} {elt tg iter : Expr} {ifs : List Expr} {scope : Scope} {own : List (Str × Nat)} {pos spos : Pos} {wi : TI} {g : TG} {tt : TT} {te : WX → TE} (tw : Takes X Wo) (hc : X.calm = true) (hN : X.N.Nodup) (hy : X.N[i]? = some y) (hyl : X.env.scope.names.lookup y = some .local)
    (hsw : swapsWith (.ListComp elt [⟨tg, iter, ifs, 0⟩] scope pos) (some (.Name y py)) spos.line X.env = pure true) (hi : PI X tg iter wi) (ok : BlkOk X.N X.env.scope scope own)
    (hg : ∀ (s : Shared) (H : Hp) (C : Addr) (cl : List (Str × Addr)) (fp : List Addr), PG (X.blk s H scope (compEnvC scope cl C X.env) fp) tg g) (ht : ∀ (s : Shared) (H : Hp) (C : Addr) (cl : List (Str × Addr)) (fp : List Addr), PTs (X.blk s H scope (compEnvC scope cl C X.env) fp) ifs tt)
    (he : ∀ (s : Shared) (H : Hp) (C : Addr) (cl : List (Str × Addr)) (fp : List Addr) (E : Value → Shared → Prop) (W : WX), Takes ((X.blk s H scope (compEnvC scope cl C X.env) fp).wish E) W → PE ((X.blk s H scope (compEnvC scope cl C X.env) fp).wish E) elt (te W))
    (hst : X.stack = X.env :: X.outer := by rfl) (hfm : X.env.frame = some X.env.locals := by rfl) (hs : ∀ x, foldedSetIterable iter X.env x = pure x := by intro _; rfl) :
    PS X (.Assign [.Name y py] (.ListComp elt [⟨tg, iter, ifs, 0⟩] scope pos) spos) (tAsg (tLcX wi g tt te (own.map (·.2)) Wo) (gName i)) := by
  refine ⟨fun pins s σ H D I h => ?_⟩
  rw [exec_Assign_Name_used _ _ _ _ hsw]
  refine wpAny_bind (wpAny_standAt (wpAny_bind ?_))
  show wpAny _ X.A (do let _ ← comprehension (.ListComp elt [⟨tg, iter, ifs, 0⟩] scope pos) scope X.env (firstIterPos [⟨tg, iter, ifs, 0⟩] pos) (newList []) false (eval iter X.env) (some (assign (.Name y py) X.env))) _ _ s
  have h' : tLcX wi g tt te (own.map (·.2)) Wo σ H (fun x H1 => gName i x σ H1 D.nx) := h
  refine wpAny_bind (thn (lcX_core (Qf := fun _ s' => SP X pins D .next s') hc hN hst hfm tw I hi ok hg ht he hs h' fun L s' m H' ce hne J q hn f => ?_) fun _ s' hq => wpAny_pure (wpAny_pure hq))
  show wpAny _ _ (assign (.Name y py) X.env (.ref L)) _ _ _
  refine wpAny_assign_Name (store_ok2 (v := V.ref L) J hN hy (.inl hyl) rfl (fun s2 J2 ⟨a, sb, ha⟩ => ?_) (.inr hyl))
  obtain ⟨f0, f1, f2, f3, f4, f5⟩ := f
  have nCa : ce.locals ≠ a := ha.elim (fun z => by rw [z]; exact f1) fun z y' => f4 y a z y'.symm
  refine ⟨m, hn.sameBut sb nCa, fun h3 sb3 => ?_⟩
  exact ⟨_, H', J2.turned (t' := s2.toks) (fun b o hb z => (sb3.2 b hb).trans z) f0 f1 f3 f4 f5, q⟩
end
end Sw

set_option Elab.async false
set_option linter.all false
set_option maxRecDepth 100000
set_option maxHeartbeats 4000000
namespace Sw
open PySem PySem.Spec PyProof.Rows L2
def rLenSet (K : PySem.W.Frag) : V → Hp → VK → Prop := fun x H Q => ∃ l, ∃ xs : List Str, x = .ref l ∧ SqT K H l (xs.map V.str) ∧ xs.length ≤ 20 ∧ Q (.int (dcnt xs xs.length)) H
theorem g_rLenSet {G H : Hp} {R : Res} {K : PySem.W.Frag} {Q : VK} {l : Addr} {xs : List Str} (w : Wd G R H) (h : SqT K G l (xs.map V.str)) (hx : xs.length ≤ 20) (k : Q (.int (dcnt xs xs.length)) H) : rLenSet K (.ref l) H Q := ⟨l, xs, rfl, Evl.ex_t w.sub h, hx, k⟩
section
variable {σ : L2.St} {H : Hp} {Q : VK} {D : Ends} {G : Hp} {R : Res} {td ty tv te : TE} {t tk : TA} {C : Addr} {n m : Nat} {sp : SpC} {W : WX} {K : PySem.W.Frag}
def MkI (sp : SpC) (C : Addr) (vs zs : List V) (H : Hp) (Q : VK) (E : XK) : Prop := ∀ x dx, H x = none → H dx = none → dx ≠ x → sp (.ref x :: vs) zs (upd (upd H dx (.own x)) x (.ins C dx [])) (fun v H3 => v = .non ∧ Q (.ref x) H3) E
theorem g_js1 {tx : TE} {ts : List TE} {acc : Str} {P : Str → Hp → Prop} (k : tx σ H fun x H1 => ∃ y : Str, x = .str y ∧ (acc ++ y).length ≤ sizeLine ∧ tJs ts (acc ++ y) σ H1 P) : tJs (tx :: ts) acc σ H P := k
theorem g_js0 {acc : Str} {P : Str → Hp → Prop} (k : P acc H) : tJs [] acc σ H P := k
theorem g_fmt {tx : TE} (k : tx σ H fun x H1 => (∃ y : Str, x = .str y ∧ y.length ≤ sizeLine ∧ Q (.str y) H1) ∨ ∃ i : Int, x = .int i ∧ i.natAbs.log2 < 1920 ∧ Q (.str (toString i)) H1) : tFmt tx σ H Q := k
theorem g_tLenSet {ta : TE} (k : ta σ H fun x H1 => rLenSet K x H1 Q) : tLenSetT K ta σ H Q := k
theorem g_dput (k : tv σ H fun v H1 => td σ H1 fun x H2 => ty σ H2 fun y H3 => ∃ a H4, x = .ref a ∧ DPut H3 a y v H4 ∧ D.nx σ H4) : sDPut td ty tv D σ H := k
theorem g_mkV (k : t σ H fun vs H1 => tk σ H1 fun zs H2 => n ≤ vs.length ∧ zs.length = m ∧ MkI sp C vs zs H2 Q (WE W σ)) : tMkV C n m sp W t tk σ H Q := k
theorem g_mkV1 (k : te σ H fun y H1 => ∃ a xs, y = V.ref a ∧ (SqT K H1 a xs ∨ SqL K H1 a xs) ∧ n ≤ xs.length ∧ MkI sp C xs [] H1 Q (WE W σ)) : tMkV1 K C n sp W te σ H Q := k
end
section
variable {X : Cx} {k n : Nat} {ks : List Str} {W : WX} {m : Str} {pos apos : Pos} {e o : Expr} {es : List Expr} {kws : List Keyword} {t tk : TA} {ta : TE}
theorem kp_star {p : Pos} {te : TE} (K : PySem.W.Frag) (he : PE X e te) (hr : PA X es t) (hK : X.K = K := by rfl) (hs : starEach (.Starred e p :: es) X.env = (true, eval e X.env) :: starEach es X.env := by rfl) : PA X (.Starred e p :: es) (StX.tStar K te t) := by subst hK; exact StX.pa_star he hr hs
theorem kp_prop (P : Program) (w : World) (K : PySem.W.Frag) (mg : Str → Option Value) (base : Heap) (he : PE X o ta) (hr : Room (k + 1) X.A) (h1 : X.prog = P := by rfl) (h2 : X.w = w := by rfl) (h3 : X.K = K := by rfl) (h4 : X.mg = mg := by rfl) (h5 : X.base = base := by rfl)
    (hab : attributeBase o m X.env (eval o X.env) = eval o X.env := by rfl) : PE X (.Attribute o m pos) (tPrG P w K mg base k m ta) := by subst h1 h2 h3 h4 h5; exact pe_propG he hr hab
theorem kp_meth {pl : Sem Bool} (P : Program) (w : World) (K : PySem.W.Frag) (mg : Str → Option Value) (base : Heap) (he : PE X o ta) (hr : Room k X.A) (tw : Takes X W) (ha : PA X (e :: es) t) (hkw : PK X kws tk) (h1 : X.prog = P := by rfl) (h2 : X.w = w := by rfl) (h3 : X.K = K := by rfl) (h4 : X.mg = mg := by rfl) (h5 : X.base = base := by rfl)
    (hall : (backToKw pos (keywordEach kws X.env)).all (·.1.isSome) = true := by rfl) (hks : (backToKw pos (keywordEach kws X.env)).filterMap (·.1) = ks := by rfl)
    (hst : starEach (e :: es) X.env = (false, eval e X.env) :: starEach es X.env := by rfl) (hpl : ((backTo pos (starEach (e :: es) X.env)).any (·.1) || (backToKw pos (keywordEach kws X.env)).any (·.1.isNone)) = false := by rfl)
    (ht : eval (.Call (.Attribute o m apos) (e :: es) kws pos) X.env = (do
      let ov ← eval o X.env
      standAt apos.atName
      let (f, first) ← holding [ov] (getMethod ov m pl)
      callWith pos f first (backTo pos (starEach (e :: es) X.env)) (backToKw pos (keywordEach kws X.env))) := by rfl) :
    PE X (.Call (.Attribute o m apos) (e :: es) kws pos) (tMtG P w K mg base k m n ks W ta t tk) := by subst h1 h2 h3 h4 h5; exact pe_methG he hr tw ha hkw hall hks hst hpl ht
theorem kp_meth0 {pl : Sem Bool} (P : Program) (w : World) (K : PySem.W.Frag) (mg : Str → Option Value) (base : Heap) (he : PE X o ta) (hr : Room k X.A) (tw : Takes X W) (hkw : PK X kws tk) (h1 : X.prog = P := by rfl) (h2 : X.w = w := by rfl) (h3 : X.K = K := by rfl) (h4 : X.mg = mg := by rfl) (h5 : X.base = base := by rfl)
    (hall : (backToKw pos (keywordEach kws X.env)).all (·.1.isSome) = true := by rfl) (hks : (backToKw pos (keywordEach kws X.env)).filterMap (·.1) = ks := by rfl)
    (hpl : ((backTo pos (starEach [] X.env)).any (·.1) || (backToKw pos (keywordEach kws X.env)).any (·.1.isNone)) = false := by rfl)
    (ht : eval (.Call (.Attribute o m apos) [] kws pos) X.env = (do
      let ov ← eval o X.env
      standAt apos.atName
      let (f, first) ← holding [ov] (getMethod ov m pl)
      callWith pos f first (backTo pos (starEach [] X.env)) (backToKw pos (keywordEach kws X.env))) := by rfl) :
    PE X (.Call (.Attribute o m apos) [] kws pos) (tMtG P w K mg base k m n ks W ta tNil tk) := by subst h1 h2 h3 h4 h5; exact pe_methG0 he hr tw hkw hall hks hpl ht
end
/-- an object that will change is taken out of what is known -/
theorem Wd.apart {G G4 H : Hp} {R : Res} {D : Addr} {o : HO} (s : Same (upd G D o) G4) (nD : G D = none) (w : Wd G4 R H) : ∃ Gm, Same G Gm ∧ Gm D = none ∧ (∀ b, b ≠ D → Gm b = G4 b) ∧ Wd (upd Gm D o) R H := by
  have e4 : G4 D = some o := s _ _ upd_same
  refine ⟨fun b => if b = D then none else G4 b, fun b u e => ?_, if_pos rfl, fun b hb => if_neg hb, ?_⟩
  · have hb : b ≠ D := ne_of_none e nD
    show (if b = D then none else G4 b) = some u
    rw [if_neg hb]
    exact s _ _ (by rw [upd_ne hb]; exact e)
  · have : upd (fun b => if b = D then none else G4 b) D o = G4 := by
      funext b
      by_cases hb : b = D
      · rw [hb, upd_same, e4]
      · rw [upd_ne hb]
        exact if_neg hb
    rw [this]
    exact w
/-! ### comprehensions with two sources -/
def InW (J1 : It) (g1 : TG) (tt1 : TT) (te : TE) (vs1 : List Nat) (σ2 : L2.St) (D : Addr) (Nx : Hp → Prop) (H4 : Hp) : Prop := ∃ W1 : Nat → Nat → Hp → Prop, (∃ m, W1 0 m H4) ∧ ∀ j k H, W1 j k H →
  (J1.stop j H ∧ Nx H) ∨ (J1.go j H ∧ ∃ Nx1 : Hp → Prop, (∀ H', Nx1 H' → ∃ k', k' < k ∧ W1 (j + 1) k' H') ∧ ∀ x H', J1.yld j H x H' → g1 x (wipe σ2 vs1) H' fun σ3 H5 => wipe σ3 vs1 = wipe σ2 vs1 ∧ tt1 σ3 H5 fun b H6 =>
    if b = true then te σ3 H6 fun y H7 => ∃ acc, H7 D = some (.lst acc) ∧ acc.length < sizeLine ∧ Nx1 (upd H7 D (.lst (acc ++ [y]))) else Nx1 H6)
def Lc2W (J : It) (g : TG) (tt : TT) (wi1 : TI) (g1 : TG) (tt1 : TT) (te : TE) (vs vs1 : List Nat) (σ : L2.St) (Q : VK) (H1 : Hp) : Prop := ∀ D, H1 D = none → ∃ W : Nat → Nat → Hp → Prop, (∃ m, W 0 m (upd H1 D (.lst []))) ∧ ∀ i m H, W i m H →
  (J.stop i H ∧ Q (.ref D) H) ∨ (J.go i H ∧ ∃ Nx : Hp → Prop, (∀ H', Nx H' → ∃ m', m' < m ∧ W (i + 1) m' H') ∧ ∀ x H', J.yld i H x H' → g x (wipe σ vs) H' fun σ2 H2 => wipe σ2 vs = wipe σ vs ∧ tt σ2 H2 fun b H3 =>
    if b = true then wi1 σ2 H3 fun J1 H4 => InW J1 g1 tt1 te vs1 σ2 D Nx H4 else Nx H3)
/-- a turn is through: what is known, and the new list so far -/
def NxO (Pv : Nat → Hp → List V → Prop) (G : Hp) (R : Res) (D : Addr) (i : Nat) (H : Hp) : Prop := ∃ G4 acc4, Same G G4 ∧ G4 D = none ∧ Pv i G4 acc4 ∧ Wd (upd G4 D (.lst acc4)) R H
theorem lc2_it {J : It} {n : Nat} {I : Hp → Prop} {Y : Nat → V → Hp → Hp → Prop} (F : Itf J n I Y) {G H1 : Hp} {R : Res} {g g1 : TG} {tt tt1 : TT} {wi1 : TI} {te : TE} {vs vs1 : List Nat} {σ : L2.St} {Q : VK} (w : Wd G R H1) (hI : ∀ H, Same G H → I H)
    (Pv : Nat → Hp → List V → Prop) (h0 : Pv 0 G [])
    (hs : ∀ i x Gi acc D H H', i < n → Same G Gi → Gi D = none → Pv i Gi acc → Wd (upd Gi D (.lst acc)) R H → Y i x H H' → g x (wipe σ vs) H' fun σ2 H2 => wipe σ2 vs = wipe σ vs ∧ tt σ2 H2 fun b H3 =>
      if b = true then wi1 σ2 H3 fun J1 H4 => InW J1 g1 tt1 te vs1 σ2 D (NxO Pv G R D (i + 1)) H4 else NxO Pv G R D (i + 1) H3)
    (hd : ∀ D Gn acc H, Same G Gn → Gn D = none → Pv n Gn acc → Wd (upd Gn D (.lst acc)) R H → Q (.ref D) H) : Lc2W J g tt wi1 g1 tt1 te vs vs1 σ Q H1 := by
  intro D hD
  refine ⟨fun i m H => m = n - i ∧ i ≤ n ∧ NxO Pv G R D i H, ⟨n, by simp, Nat.zero_le _, G, [], Same.refl G, w.free hD, h0, w.new hD⟩, ?_⟩
  rintro i m H ⟨rfl, hi, Gi, acc, e, nD, p, wi⟩
  have q := hI H (Same.trans (Same.trans e (Same.newG nD)) wi.sub)
  by_cases hlt : i < n
  · exact .inr ⟨F.go i H hlt q, NxO Pv G R D (i + 1), fun H' p' => ⟨n - (i + 1), by omega, rfl, by omega, p'⟩, fun x H' y => hs i x Gi acc D H H' hlt e nD p wi (F.yld i H x H' hlt q y)⟩
  · have ei : i = n := by omega
    subst ei
    exact .inl ⟨F.stop H q, hd D Gi acc H e nD p wi⟩
theorem in_it {J1 : It} {n : Nat} {I : Hp → Prop} {Y : Nat → V → Hp → Hp → Prop} (F : Itf J1 n I Y) {G H4 : Hp} {R : Res} {D : Addr} {acc0 : List V} {g1 : TG} {tt1 : TT} {te : TE} {vs1 : List Nat} {σ2 : L2.St} {Nx : Hp → Prop} (w : Wd (upd G D (.lst acc0)) R H4) (nD : G D = none) (hI : ∀ H, Same G H → I H)
    (Pv : Nat → Hp → List V → Prop) (h0 : Pv 0 G acc0)
    (hs : ∀ j x Gj acc H H', j < n → Same G Gj → Gj D = none → Pv j Gj acc → Wd (upd Gj D (.lst acc)) R H → Y j x H H' → g1 x (wipe σ2 vs1) H' fun σ3 H5 => wipe σ3 vs1 = wipe σ2 vs1 ∧ tt1 σ3 H5 fun b H6 =>
      if b = true then te σ3 H6 fun y H7 => ∃ acc', H7 D = some (.lst acc') ∧ acc'.length < sizeLine ∧ NxO Pv G R D (j + 1) (upd H7 D (.lst (acc' ++ [y]))) else NxO Pv G R D (j + 1) H6)
    (hd : ∀ Gn acc H, Same G Gn → Gn D = none → Pv n Gn acc → Wd (upd Gn D (.lst acc)) R H → Nx H) : InW J1 g1 tt1 te vs1 σ2 D Nx H4 := by
  refine ⟨fun j k H => k = n - j ∧ j ≤ n ∧ NxO Pv G R D j H, ⟨n, by simp, Nat.zero_le _, G, acc0, Same.refl G, nD, h0, w⟩, ?_⟩
  rintro j k H ⟨rfl, hj, Gj, acc, e, nDj, p, wj⟩
  have q := hI H (Same.trans (Same.trans e (Same.newG nDj)) wj.sub)
  by_cases hlt : j < n
  · exact .inr ⟨F.go j H hlt q, NxO Pv G R D (j + 1), fun H' p' => ⟨n - (j + 1), by omega, rfl, by omega, p'⟩, fun x H' y => hs j x Gj acc H H' hlt e nDj p wj (F.yld j H x H' hlt q y)⟩
  · have ej : j = n := by omega
    subst ej
    exact .inl ⟨F.stop H q, hd Gj acc H e nDj p wj⟩
/-- an item is kept -/
theorem nx_keep {Pv : Nat → Hp → List V → Prop} {G G4 H7 : Hp} {R : Res} {D : Addr} {acc : List V} {y : V} {i : Nat} (w : Wd (upd G4 D (.lst acc)) R H7) (e : Same G G4) (nD : G4 D = none) (hz : acc.length < sizeLine) (p : Pv i G4 (acc ++ [y])) :
    ∃ acc', H7 D = some (.lst acc') ∧ acc'.length < sizeLine ∧ NxO Pv G R D i (upd H7 D (.lst (acc' ++ [y]))) := by
  refine ⟨acc, w.get upd_same, hz, G4, acc ++ [y], e, nD, p, ?_⟩
  have := w.set (o' := .lst (acc ++ [y])) upd_same
  rw [upd_upd] at this
  exact this
theorem g_lc2L {K : PySem.W.Frag} {tl : TE} {g g1 : TG} {tt tt1 : TT} {wi1 : TI} {te : TE} {vs vs1 : List Nat} {σ : L2.St} {H : Hp} {Q : VK} (k : tl σ H fun x H1 => ∃ a, x = .ref a ∧ (∃ xs, SqL K H1 a xs) ∧ Lc2W (Itl K a) g tt wi1 g1 tt1 te vs vs1 σ Q H1) : tLc2 (iList K tl) g tt wi1 g1 tt1 te vs vs1 σ H Q := k
theorem g_iList {K : PySem.W.Frag} {tl : TE} {σ : L2.St} {H : Hp} {P : It → Hp → Prop} (k : tl σ H fun x H1 => ∃ a, x = .ref a ∧ (∃ xs, SqL K H1 a xs) ∧ P (Itl K a) H1) : iList K tl σ H P := k
theorem g_lcX {wi : TI} {g : TG} {tt : TT} {te : WX → TE} {vs : List Nat} {Wo : WX} {σ : L2.St} {H : Hp} {Q : VK} (k : tLc wi g tt (te fun cls d _ H' => Wo cls d σ H') vs σ H Q) : tLcX wi g tt te vs Wo σ H Q := k
/-- the end of d[k] = v -/
theorem g_dputE {G H : Hp} {R : Res} {a : Addr} {kvs : List (Key × V)} {z : Str} {v : V} {P : Hp → Prop} (w : Wd G R H) (h : G a = some (.dK kvs)) (hz : kvs.length < sizeLine) (k : ∀ H', Wd (upd G a (.dK (putK kvs (.inr z) v))) R H' → P H') :
    ∃ a' H4, V.ref a = .ref a' ∧ DPut H a' (.str z) v H4 ∧ P H4 := ⟨a, _, rfl, DPut.k (k := .inr z) (w.get h) hz, k _ (w.set h)⟩
theorem tyX_tup {K : PySem.W.Frag} {G : Hp} {p : Addr} {xs : List V} (h : SqT K G p xs) : TyX K G (.ref p) (.type "tuple") := by
  rcases h with (h | ⟨o, h⟩) | ⟨o, its, n, h, c, _⟩
  · exact .base (.tup h)
  · exact .fTuple h
  · exact .kTuple h c
theorem g_any {G H : Hp} {R : Res} {K : PySem.W.Frag} {Q : VK} {a : Addr} {bs : List Bool} (w : Wd G R H) (h : SqL K G a (bs.map V.bl)) (k : Q (.bl (bs.any id)) H) : rAny K [.ref a] H Q := ⟨a, bs, rfl, Evl.ex_l w.sub h, k⟩
theorem Paired.at {α β : Type} {F : α → β → Prop} : ∀ {xs : List α} {ys : List β}, Paired F xs ys → ∀ {i : Nat} {x : α}, xs[i]? = some x → ∃ y, ys[i]? = some y ∧ F x y
  | _, _, .nil, i, x, h => by simp at h
  | _, _, .cons r _, 0, x, h => by cases h; exact ⟨_, rfl, r⟩
  | _, _, .cons _ t, i + 1, x, h => by
    rw [List.getElem?_cons_succ] at h ⊢
    exact Paired.at t h
theorem Paired.atR {α β : Type} {F : α → β → Prop} : ∀ {xs : List α} {ys : List β}, Paired F xs ys → ∀ {i : Nat} {y : β}, ys[i]? = some y → ∃ x, xs[i]? = some x ∧ F x y
  | _, _, .nil, i, x, h => by simp at h
  | _, _, .cons r _, 0, x, h => by cases h; exact ⟨_, rfl, r⟩
  | _, _, .cons _ t, i + 1, x, h => by
    rw [List.getElem?_cons_succ] at h ⊢
    exact Paired.atR t h
theorem Paired.imp {α β : Type} {F F' : α → β → Prop} (k : ∀ a b, F a b → F' a b) : ∀ {xs : List α} {ys : List β}, Paired F xs ys → Paired F' xs ys
  | _, _, .nil => .nil
  | _, _, .cons r t => .cons (k _ _ r) (Paired.imp k t)
theorem Paired.len {α β : Type} {F : α → β → Prop} : ∀ {xs : List α} {ys : List β}, Paired F xs ys → xs.length = ys.length
  | _, _, .nil => rfl
  | _, _, .cons _ t => by rw [List.length_cons, List.length_cons, Paired.len t]
theorem Paired.app {α β : Type} {F : α → β → Prop} : ∀ {xs xs' : List α} {ys ys' : List β}, Paired F xs ys → Paired F xs' ys' → Paired F (xs ++ xs') (ys ++ ys')
  | _, _, _, _, .nil, h => h
  | _, _, _, _, .cons r t, h => .cons r (Paired.app t h)
end Sw

set_option Elab.async false
set_option linter.all false
set_option maxRecDepth 100000
set_option maxHeartbeats 4000000
namespace Sw
open PySem PySem.Spec PyProof.Rows L2
/-! ### a lambda handed to a def: the world behind its making -/
/-- all but the code tables stays -/
def SameN (G G' : Hp) : Prop := ∀ b o, G b = some o → (∀ ps, o ≠ .tbl ps) → G' b = some o
theorem SameN.of {G G' : Hp} (e : Same G G') : SameN G G' := fun b o h _ => e b o h
theorem SameN.trans {G G1 G2 : Hp} (a : SameN G G1) (b : SameN G1 G2) : SameN G G2 := fun c o h n => b c o (a c o h n) n
theorem g_lam {G H : Hp} {R : Res} {T : List (Addr × Str)} {TT : (XK → Hp → VK → Prop) → Hp → VK → Prop} {t : XK → TE} {σ : L2.St} {Q : VK} (w : Wd G R H) (hT : LamX.Tabs T G) (hR : ∀ b ∈ R.L, ∃ xs, H b = some (.lst xs))
    (k : ∀ G' H1, SameN G G' → LamX.Tabs T G' → Wd G' R H1 → TT (fun E H' Q' => t E σ H' Q') H1 Q) : LamX.tLam T TT t σ H Q := by
  refine ⟨hT.ext w.sub, fun H1 eN T1 => ?_⟩
  have hL : ∀ b ∈ R.L, ∃ xs, H1 b = some (.lst xs) ∧ H b = some (.lst xs) := fun b hb => by
    obtain ⟨xs, h⟩ := hR b hb
    exact ⟨xs, eN b _ h (fun ps z => nomatch z), h⟩
  have notin : ∀ b o, G b = some o → b ∉ R.L := fun b o h => w.notin h
  refine k (fun b => if b ∈ R.L then none else H1 b) H1 (fun b o h n => ?_) (fun p hp => ?_) ⟨fun b u e => ?_, fun b hb => if_pos hb, R.st _ _ w.res fun b hb => ?_⟩
  · show (if b ∈ R.L then none else H1 b) = some o
    rw [if_neg (notin b o h)]
    exact eN b o (w.sub _ _ h) n
  · obtain ⟨ps, h1, h2, h3⟩ := T1 p hp
    obtain ⟨ps0, g1, _⟩ := hT p hp
    refine ⟨ps, (if_neg (notin _ _ g1)).trans h1, h2, fun pos cv hc => ?_⟩
    obtain ⟨c, e1, e2⟩ := h3 pos cv hc
    refine ⟨c, e1, ?_⟩
    refine (if_neg fun hb => ?_).trans e2
    obtain ⟨xs, q, _⟩ := hL c hb
    rw [q] at e2
    cases e2
  · have e : (if b ∈ R.L then none else H1 b) = some u := e
    by_cases hb : b ∈ R.L
    · rw [if_pos hb] at e; cases e
    · rw [if_neg hb] at e; exact e
  · obtain ⟨xs, q1, q2⟩ := hL b hb
    rw [q1, q2]
end Sw

set_option Elab.async false
set_option linter.all false
set_option maxRecDepth 100000
set_option maxHeartbeats 4000000
namespace Sw
open PySem PySem.Spec PyProof.Rows L2
/-! ### a lambda handed to a def that calls it within a try: with room, the error told at the locals as they stand -/
abbrev lamFn (q : Str) (params : Arguments) (body : Expr) (scope : Scope) (cl : List (Str × Addr)) (pm cv ctv : Value) : FuncData := PySem.W.kla_fn "<lambda>" q params body scope cl pm cv ctv
abbrev lamOb (q : Str) (params : Arguments) (body : Expr) (scope : Scope) (cl : List (Str × Addr)) (pm : Value) (c' : Addr) (ctv : Value) : Obj := PySem.W.kla_obj "<lambda>" q params body scope cl pm c' ctv
/-- x() -/
def tAct (f c' : Addr) (q : Str) (tl : XK → Hp → VK → Prop) (W : WX) : TE := fun σZ HZ Q => σZ[0]? = some (some (.ref f)) ∧ HZ c' = some (LamX.CodeO c' q) ∧ tl (WE W σZ) HZ Q
section
variable {X : Cx} {pins : List (Addr × Obj)} {σ : L2.St} {H : Hp} {s : Shared}
abbrev hostCx (P : Program) (w : World) (K : PySem.W.Frag) (mg : Str → Option Value) (base : Heap) (N : List Str) (q : Str) (sg : Scope) (g : Addr) (cdg : Value) (A : Around) (st : List Env) (s : Shared) (H : Hp) : Cx := cxOf C8.CX0 P w K mg base N q sg g cdg A st s H C8.E0
theorem pe_actR {Ng : List Str} {qg : Str} {sg : Scope} {g f c' : Addr} {cdg pm ctv : Value} {params : Arguments} {body : Expr} {scope : Scope} {k i : Nat} {a : Str} {pn : List (Addr × Obj)} {xe : Value → Shared → Prop} {W : WX} {tb : XK → TE} {p1 p2 : Pos}
    (I : Inv X pins σ H s) (L : LamX.LamS X.env.scope scope) (hf : s.heap.get? f = some (lamOb (X.env.qual ++ "<lambda>") params body scope (cloFrom X.env.cells scope.names []) pm c' ctv)) (hfn : H f = none) (hfr : f ∉ frs X.stack)
    (hbind : bindArgs (lamFn (X.env.qual ++ "<lambda>") params body scope (cloFrom X.env.cells scope.names []) pm (.ref c') ctv) ⟨[], []⟩ = pure [])
    (tk : Takes ((hostCx X.prog X.w X.K X.mg X.base Ng qg sg g cdg X.A X.stack s H).tr pn xe) W) (hr : Room (k + 1) (X.A.deeper (envOfC qg sg s.heap.objs.size g cdg)))
    (hbody : ∀ (A : Around) (outer : List Env) (s : Shared) (H : Hp) (E : XK), Room k (A.deeper (LamX.lamEnv X scope s.heap.objs.size f c')) → PE (LamX.lamCx X A outer s H E scope f c') body (tb E))
    (hN : Ng[i]? = some a) (hi0 : i = 0) (hv : Vis sg a) (hd : (a == ("__debug__" : Str)) = false := by decide) (hcd : (a == ("__classdict__" : Str)) = false := by decide) :
    PE ((hostCx X.prog X.w X.K X.mg X.base Ng qg sg g cdg X.A X.stack s H).tr pn xe) (.Call (.Name a p1) [] [] p2) (tAct f c' (X.env.qual ++ "<lambda>") (fun E H' Q' => tb E σ H' Q') W) := by
  subst hi0
  refine ⟨fun pinsZ sZ σZ HZ Q IZ h => ?_⟩
  obtain ⟨hs, hc, ht⟩ := h
  have rd := (pe_var (pos := p1) (i := 0) hN hv hd hcd).run pinsZ sZ σZ HZ (fun v H1 => v = .ref f ∧ H1 = HZ) IZ ⟨.ref f, hs, rfl, rfl⟩
  refine wpAny_Call_Name_kw (thn rd ?_)
  rintro u s1 ⟨v, H1, I1, r1, rfl, rfl⟩
  obtain rfl : u = Value.ref f := r1
  have at1 := I1.base.keep f _ hf hfn hfr (by intro z; cases (show f ∈ ([] : List Addr) from z))
  refine PySem.W.callWith_F0 ⟨_, _, _, _, at1⟩ ?_
  have un : Un (frs X.stack) [] H H1 s.heap s1.heap := I1.base
  obtain ⟨⟨oc, vs, t, hoc, hdc, hvc⟩, _, _⟩ := I1.hok c' _ hc
  generalize hA : X.A.deeper (envOfC qg sg s.heap.objs.size g cdg) = Ag at hr
  have rc : codeAny (model X.prog X.w) Ag (.call (.ref f) ⟨[], []⟩)
      (CR (L2.CX X.prog X.w) (envOfC qg sg s.heap.objs.size g cdg :: X.stack) X.prog X.w H1 s1 Q (WE W σZ)) s1 := by
    refine PySem.W.kla_callFunE hr.depth at1 rfl L.co L.gen rfl ⟨c', oc, vs, t, rfl, hoc, hdc, hvc⟩ ?_
    rw [hbind]
    have noCell : ∀ y ∈ scope.names, y.2 ≠ .cell := fun y hy => (L.own y hy).2
    refine wpAny_pure (wpAny_newFunctionEnv noCell (fun y hy => absurd hy (by simp)) ?_ L.kind)
    intro h₁ hns hsb
    refine ⟨I1.nolimit.fresh _ hsb, ?_⟩
    show codeAny _ _ (.expr body (LamX.lamEnv X scope s1.heap.objs.size f c')) _ _
    have kp : ∀ b o, s1.heap.get? b = some o → h₁.get? b = some o := by
      intro b o e
      exact hsb.extBut b o (Nat.ne_of_lt (Heap.lt_size e)) (Heap.get?_push_of_some _ e)
    have e0 := I1.env0
    have J : Inv (LamX.lamCx X Ag (envOfC qg sg s.heap.objs.size g cdg :: X.stack) s1 H1 (WE W σZ) scope f c') [] σ H1 { s1 with heap := h₁, toks := s1.toks + ([] : List (Str × Value)).length } :=
      LamX.lam_start2 I L (by subst hA; exact e0) hr.hd un hns kp
    have rb := (hbody Ag _ s1 H1 (WE W σZ) (hr.deeper _)).run [] _ _ H1 Q J ht
    refine PySem.W.kla_codeExpr (wpAny_mono rb ?_ fun e s' hq => hq)
    rintro v s' ⟨w', H', J', rv, q⟩
    exact ⟨w', H', J'.os, J'.bare, J'.base, J'.hok, rv, q⟩
  subst hA
  refine wpAny_call (codeAny_mono rc ?_)
  intro r s' hq
  match r, hq with
  | .error e, hq => exact passAt tk σZ pinsZ H1 s1 e s' I1 hq
  | .ok (.ret u), hq => exact I1.after hq
  | .ok .next, hq => exact False.elim hq
  | .ok .brk, hq => exact False.elim hq
  | .ok .cont, hq => exact False.elim hq
end
/-- the host's body: what it makes of the lambda's reading -/
def GivesR (P : Program) (w : World) (K : PySem.W.Frag) (mg : Str → Option Value) (base : Heap) (Ng : List Str) (x : Str) (sg : Scope) (g : Addr) (cdg : Value) (bg : List Stmt) (a : Str) (TT : (XK → Hp → VK → Prop) → Hp → VK → Prop) : Prop :=
  ∀ (A : Around) (st : List Env) (q : Str) (f c' : Addr) (s : Shared) (H : Hp) (Q : VK) (tl : XK → Hp → VK → Prop), Room 1 (A.deeper (envOfC x sg s.heap.objs.size g cdg)) →
    (∀ (W : WX) (pn : List (Addr × Obj)) (xe : Value → Shared → Prop) (p1 p2 : Pos), Takes ((hostCx P w K mg base Ng x sg g cdg A st s H).tr pn xe) W →
      PE ((hostCx P w K mg base Ng x sg g cdg A st s H).tr pn xe) (.Call (.Name a p1) [] [] p2) (tAct f c' q tl W)) →
    H c' = some (LamX.CodeO c' q) → TT tl H Q →
    ∃ t, PSs (hostCx P w K mg base Ng x sg g cdg A st s H).nox bg t ∧ t { nx := fun _ H' => Q .non H', rt := Q } (L2.start Ng [.ref f]) H
structure GLam (P : Program) (w : World) (K : PySem.W.Frag) (mg : Str → Option Value) (base : Heap) (x : Str) (TT : (XK → Hp → VK → Prop) → Hp → VK → Prop) : Prop where
  ex : ∃ (g : Addr) (a : Str) (pg : Arguments) (bg : List Stmt) (sg : Scope) (kV doc pm cdv ct oc : Value) (an od : Option Addr) (osl : Array (Option Value)) (Ng : List Str),
    mg x = some (.ref g) ∧ PySem.W.keepIn K (.ref g) = true ∧ K.lookup g = some ⟨oc, od, .func (PySem.W.fnOf x x pg bg sg .none kV doc pm an cdv ct), osl⟩ ∧ PySem.W.codeIn K cdv x = true ∧
    L2.Binds K (PySem.W.fnOf x x pg bg sg .none kV doc pm an cdv ct) [a] [] ∧ FnScope Ng [a] sg ∧ Ng[0]? = some a ∧ Vis sg a ∧ (a == ("__debug__" : Str)) = false ∧ (a == ("__classdict__" : Str)) = false ∧
    GivesR P w K mg base Ng x sg g cdv bg a TT
/-- what the making of lambdas asks of the maker: its code object and table -/
structure LamAt (X : Cx) (T : List (Addr × Str)) : Prop where
  ex : ∃ c P, LamX.TabB X.base X.mg c P ∧ X.env.code = .ref c ∧ (P, X.env.qual ++ "<lambda>") ∈ T ∧ ∀ p ∈ T, p.1 = P → p.2 = X.env.qual ++ "<lambda>"
section
variable {X : Cx}
theorem pe_lamR {T : List (Addr × Str)} {TT : (XK → Hp → VK → Prop) → Hp → VK → Prop} {x : Str} {k : Nat} {params : Arguments} {body : Expr} {scope : Scope} {t : XK → TE} {p lpos pos : Pos}
    (G : GLam X.prog X.w X.K X.mg X.base x TT) (M : LamAt X T) (hr : Room (k + 2) X.A) (L : LamX.LamS X.env.scope scope)
    (hbody : ∀ (A : Around) (outer : List Env) (s : Shared) (H : Hp) (E : XK) (f c' : Addr), Room k (A.deeper (LamX.lamEnv X scope s.heap.objs.size f c')) → PE (LamX.lamCx X A outer s H E scope f c') body (t E))
    (hg : Gl X x := by rfl) (hdef : defaultsOf params X.env = ([], []) := by rfl)
    (hbind : ∀ (q : Str) (cl : List (Str × Addr)) (pm cv ctv : Value), bindArgs (lamFn q params body scope cl pm cv ctv) ⟨[], []⟩ = pure [] := by intros; rfl)
    (hdb : (x == ("__debug__" : Str)) = false := by decide) :
    PE X (.Call (.Name x p) [.Lambda params body scope lpos] [] pos) (LamX.tLam T TT t) := by
  obtain ⟨g, a, pg, bg, sg, kV, doc, pm, cdv, ct, oc, an, od, osl, Ng, hm, hk, lk, hcg, hb, Sg, hNg, hva, hd, hcd, hG⟩ := G.ex
  obtain ⟨c, P, TB, hcode, hmT, hu⟩ := M.ex
  refine ⟨fun pins s σ H Q I h => ?_⟩
  obtain ⟨hT, h⟩ := h
  refine wpAny_Call_Name_kw (ld_glob I hg hm ?_ hdb)
  refine PySem.W.callWith_K (h₀ := X.base) I.ok.mod.kin hk ?_ (by rfl) (by rfl)
  show wpAny _ _ (spliced ((false, eval (.Lambda params body scope lpos) X.env) :: backTo pos (starEach [] X.env))) _ _ s
  refine Calls.spliced_cons (LamX.lam_make2 I TB hcode hmT hu hT hdef (L.has I.ok) ?_)
  intro f c' pm' ctv H1 s' I1 eN T1 hf hfn hfr hco
  refine Calls.spliced_nil ⟨I1.kIn, ?_⟩
  have rc : codeAny (model X.prog X.w) X.A (.call (.ref g) ⟨[.ref f], []⟩) (CR C8.CX0 X.stack X.prog X.w H1 s' Q C8.E0) s' := by
    refine LamX.run_ofS (N := Ng) (ps := [a]) (us := [.ref f]) (vs := [.ref f]) lk hcg Sg hr I1.env0 (hb s' [.ref f] I1.kIn rfl) (.cons rfl .nil) rfl ?_
    intro hr'
    have act := fun (W : WX) (pn : List (Addr × Obj)) (xe : Value → Shared → Prop) (p1 p2 : Pos) (tk : Takes ((hostCx X.prog X.w X.K X.mg X.base Ng x sg g cdv X.A X.stack s' H1).tr pn xe) W) =>
      pe_actR (p1 := p1) (p2 := p2) (i := 0) I1 L hf hfn hfr (hbind _ _ _ _ _) tk hr' (fun A outer s H E hr2 => hbody A outer s H E f c' hr2) hNg rfl hva hd hcd
    obtain ⟨t', ht', hq'⟩ := hG X.A X.stack _ f c' s' H1 Q (fun E H' Q' => t E σ H' Q') (hr'.mono (by omega)) act hco (h H1 eN T1)
    exact ⟨t', ht'.nox, hq'⟩
  refine wpAny_call (codeAny_mono rc ?_)
  intro r s2 hq
  match r, hq with
  | .error e, hq => exact (show False from hq).elim
  | .ok (.ret u), hq => exact I1.after hq
  | .ok .next, hq => exact False.elim hq
  | .ok .brk, hq => exact False.elim hq
  | .ok .cont, hq => exact False.elim hq
end
end Sw

set_option Elab.async false
set_option linter.all false
set_option maxRecDepth 100000
set_option maxHeartbeats 4000000
namespace Sw
open PySem PySem.Spec PyProof.Rows L2
/-! ### the end of a law row: tables of code objects, no repr open -/
abbrev headNo : Obj := { cls := .none, data := .fields #[] }
abbrev headScr (its : List Value) : Obj := { cls := .type "list", data := .seq its.toArray }
def headTold (T : List Addr) (own : Bool) (a : Addr) (its : List Value) (ns : List Int) : Hp := fun b =>
  if b ∈ T then some (.tbl #[]) else if own = false ∧ b = a then some (.frz (headScr its) (.lst (ns.map V.int))) else none
section
variable {T : List Addr} {own : Bool} {a b : Addr} {its : List Value} {ns : List Int}
theorem headTold_tbl (h : b ∈ T) : headTold T own a its ns b = some (.tbl #[]) := if_pos h
theorem headTold_ways : headTold T own a its ns b = none ∨ b ∈ T ∨ (b ∉ T ∧ own = false ∧ b = a ∧ headTold T own a its ns b = some (.frz (headScr its) (.lst (ns.map V.int)))) := by
  by_cases h : b ∈ T
  · exact .inr (.inl h)
  by_cases h2 : own = false ∧ b = a
  · exact .inr (.inr ⟨h, h2.1, h2.2, (if_neg h).trans (if_pos h2)⟩)
  · exact .inl ((if_neg h).trans (if_neg h2))
end
def headApart : Data → Bool
  | .seq _ _ => false
  | .fields us => us.size != 0
  | _ => true
structure HeadStart (K : PySem.W.Frag) (mg mb : Str → Option Value) (cds : List (Addr × Addr)) (a : Addr) (its : List Value) (ns : List Int) (s : Shared) : Prop where
  kin : K.In s.heap
  main : s.heap.Ns mainGlobals mg
  bns : s.heap.Ns builtinsNs mb
  boot : ∀ x : Str, x ≠ "__name__" → mb x = bootBuiltins x
  lim : s.heap.NoLimit
  gens : s.gens = #[]
  tab : ∀ p ∈ cds, s.heap.get? p.2 = some headNo
  out : ∀ p ∈ cds, K.lookup p.2 = none
  code : ∀ p ∈ cds, PySem.W.CodeHd s.heap p.1 p.2
  bmod : ∃ (bm : Addr) (ob : Obj), mg "__builtins__" = some (.ref bm) ∧ bm ≠ builtinsNs ∧ s.heap.get? bm = some ob ∧ ob.cls = .type "module" ∧ ob.dict = some builtinsNs ∧ ob.data = .plain
  scr : s.heap.get? a = some (headScr its)
  are : IntsAre its ns
  len : ns.length ≤ sizeLine
namespace HeadStart
variable {P : Program} {w : World} {K : PySem.W.Frag} {mg mb : Str → Option Value} {cds : List (Addr × Addr)} {a b : Addr} {its : List Value} {ns : List Int} {s s' : Shared} {o : Obj} {H' : Hp}
abbrev Hd (K : PySem.W.Frag) (cds : List (Addr × Addr)) (a : Addr) (its : List Value) (ns : List Int) : Hp := headTold (cds.map Prod.snd) (K.lookup a).isSome a its ns
theorem isTab (h : HeadStart K mg mb cds a its ns s) (hb : b ∈ cds.map Prod.snd) : s.heap.get? b = some headNo ∧ K.lookup b = none := by
  obtain ⟨p, hp, rfl⟩ := List.mem_map.mp hb
  exact ⟨h.tab p hp, h.out p hp⟩
theorem scrOut (h : HeadStart K mg mb cds a its ns s) : a ∉ cds.map Prod.snd := fun z => by
  have q := h.scr.symm.trans (h.isTab z).1
  cases q
theorem silent (h : HeadStart K mg mb cds a its ns s) (e : s.heap.get? b = some o) (q : headApart o.data = true) : Hd K cds a its ns b = none := by
  rcases headTold_ways (T := cds.map Prod.snd) (own := (K.lookup a).isSome) (a := a) (b := b) (its := its) (ns := ns) with z | z | ⟨_, _, rfl, _⟩
  · exact z
  · rw [(h.isTab z).1] at e
    cases e
    cases q
  · rw [h.scr] at e
    cases e
    cases q
theorem stays (h : HeadStart K mg mb cds a its ns s) (e : s.heap.get? b = some o) (q : headApart o.data = true) : (hidT s.heap (Hd K cds a its ns)).get? b = some o := hidT_get e (h.silent e q)
theorem ns_of (h : HeadStart K mg mb cds a its ns s) {m : Str → Option Value} (z : s.heap.Ns b m) : (hidT s.heap (Hd K cds a its ns)).Ns b m := by
  obtain ⟨ob, es, ep, e, d, r⟩ := z
  exact ⟨ob, es, ep, h.stays e (by rw [d]; rfl), d, r⟩
theorem kinH (h : HeadStart K mg mb cds a its ns s) : K.In (hidT s.heap (Hd K cds a its ns)) := fun b ob e => by
  refine hidT_get (h.kin b ob e) ?_
  rcases headTold_ways (T := cds.map Prod.snd) (own := (K.lookup a).isSome) (a := a) (b := b) (its := its) (ns := ns) with z | z | ⟨_, z, rfl, _⟩
  · exact z
  · rw [(h.isTab z).2] at e
    cases e
  · rw [e] at z
    cases z
theorem tabB (h : HeadStart K mg mb cds a its ns s) : ∀ p ∈ cds, LamX.TabB (hidT s.heap (Hd K cds a its ns)) mg p.1 p.2 := by
  intro p hp
  have hmain : ∀ {y : Addr}, (y = mainGlobals) → ∃ (ob : Obj) (es : Array DictEntry) (ep : Nat), s.heap.get? y = some ob ∧ ob.data = .dict es ep := fun {y} e => by
    obtain ⟨ob, es, ep, e1, d, _⟩ := h.main
    exact ⟨ob, es, ep, e ▸ e1, d⟩
  obtain ⟨oc, us, file, tf, fl, tg, inF, tx, tt, e, c1, c2, c3, r⟩ := h.code p hp
  obtain ⟨bm, ob, b1, b2, b3, b4, b5, b6⟩ := h.bmod
  refine ⟨⟨oc, us, file, tf, fl, tg, inF, tx, tt, h.stays e ?_, c1, c2, c3, r⟩, ⟨bm, ob, b1, b2, fun z => ?_, fun z => ?_, h.stays b3 (by rw [b6]; rfl), b4, b5, b6⟩, fun z => ?_⟩
  · rw [c2]
    show (us.size != 0) = true
    have : 11 < us.size := (Array.getElem?_eq_some_iff.mp c3).1
    exact bne_iff_ne.mpr (Nat.ne_of_gt (Nat.lt_of_le_of_lt (Nat.zero_le _) this))
  · obtain ⟨_, _, _, e1, d⟩ := hmain z
    rw [b3] at e1
    cases e1
    rw [b6] at d
    cases d
  · rw [z, h.tab p hp] at b3
    cases b3
    cases b6
  · obtain ⟨_, _, _, e1, d⟩ := hmain z.symm
    rw [h.tab p hp] at e1
    cases e1
    cases d
theorem sql (h : HeadStart K mg mb cds a its ns s) : SqL K (Hd K cds a its ns) a (ns.map V.int) := by
  cases hk : K.lookup a with
  | none => exact .inl (.inr ⟨headScr its, by unfold Hd headTold; rw [if_neg h.scrOut, hk]; exact if_pos ⟨rfl, rfl⟩⟩)
  | some ob =>
    have e := (h.kin a ob hk).symm.trans h.scr
    cases e
    exact .inr ⟨_, its.toArray, _, hk, rfl, rfl, rfl, by rw [List.size_toArray, h.are.length]; exact h.len, vals_ints h.are⟩
theorem hok (h : HeadStart K mg mb cds a its ns s) : HOk P w (Hd K cds a its ns) s.heap := fun b u e => by
  rcases headTold_ways (T := cds.map Prod.snd) (own := (K.lookup a).isSome) (a := a) (b := b) (its := its) (ns := ns) with z | z | ⟨_, _, rfl, z⟩
  · have q := z.symm.trans e
    cases q
  · have q := (headTold_tbl z).symm.trans e
    cases q
    exact (h.isTab z).1
  · have q := z.symm.trans e
    cases q
    exact ⟨h.scr, by rw [List.length_map]; exact h.len, its, _, vals_ints h.are, h.scr⟩
theorem env (h : HeadStart K mg mb cds a its ns s) : Env0 P w K mg (hidT s.heap (Hd K cds a its ns)) callerA [] s (Hd K cds a its ns) where
  frames := rfl
  mod := ⟨h.kinH, h.ns_of h.main, ⟨mb, h.ns_of h.bns, h.boot⟩, let ⟨m, m1, m2⟩ := h.lim; ⟨m, h.ns_of m1, m2⟩⟩
  bs := fun _ _ e => of_hidT e
  bsz := Nat.le_of_eq (hidT_size _ _)
  funs := trivial
  frf := fun b hb => nomatch hb
  hok := h.hok
  bare := .of_eq h.gens
theorem old (h : HeadStart K mg mb cds a its ns s) (un : Un (frs []) [] (Hd K cds a its ns) H' s.heap s'.heap) (hok' : HOk P w H' s'.heap) : OldK s.heap s'.heap := by
  have each : ∀ b o, s.heap.get? b = some o → (b ∉ cds.map Prod.snd ∧ s'.heap.get? b = some o) ∨ (∃ p ∈ cds, p.2 = b ∧ o = headNo ∧ ∃ us : Array Value, s'.heap.get? b = some { cls := .none, data := .fields us }) := fun b o e => by
    rcases headTold_ways (T := cds.map Prod.snd) (own := (K.lookup a).isSome) (a := a) (b := b) (its := its) (ns := ns) with z | z | ⟨z0, _, rfl, z⟩
    · by_cases hb : b ∈ cds.map Prod.snd
      · have q := (headTold_tbl hb).symm.trans z
        cases q
      · exact .inl ⟨hb, un.keep b o e z (fun y => nomatch y) (fun y => nomatch y)⟩
    · obtain ⟨p, hp, rfl⟩ := List.mem_map.mp z
      obtain ⟨us, q⟩ := un.tbls p.2 #[] (headTold_tbl z)
      rw [h.tab p hp] at e
      cases e
      exact .inr ⟨p, hp, rfl, rfl, _, hok' p.2 _ q⟩
    · obtain ⟨y1, _⟩ := hok' b _ (un.frzs b _ _ z)
      rw [h.scr] at e
      cases e
      exact .inl ⟨z0, y1⟩
  refine ⟨fun b o e => ?_, fun b o e => ?_⟩
  · rcases each b o e with ⟨_, z⟩ | ⟨p, hp, rfl, rfl, us, z⟩
    · exact .inl z
    · refine .inr (.inl ⟨((h.code p hp).tab (h.tab p hp)).isCodeTable, rfl, #[], us, rfl, ?_⟩)
      rw [Array.empty_append]
      exact z
  · rcases each b o e with ⟨_, z⟩ | ⟨_, _, rfl, _, us, z⟩
    · exact ⟨_, z⟩
    · exact ⟨_, z⟩
end HeadStart
theorem law_callTG {P : Program} {w : World} {K : PySem.W.Frag} {mg mb : Str → Option Value} {CX : CXT} {k : Nat} {fa a : Addr} {cds : List (Addr × Addr)} {fd : FuncData} {x : Str} {sp : Sp} {s : Shared} {its : List Value} {ns : List Int}
    (S : HeadStart K mg mb cds a its ns s) (hRm : Room k callerA)
    (F : ∀ base : Heap, K.In base → base.Ns mainGlobals mg → (∀ p ∈ cds, LamX.TabB base mg p.1 p.2) → FnG P w K mg base CX k fa fd [x] sp) (hBd : ∀ (s : Shared) (u : Value), BindsTo s fd ⟨[u], []⟩ [(x, u)])
    (hSp : ∀ H : Hp, (∀ p ∈ cds, H p.2 = some (.tbl #[])) → SqL K H a (ns.map V.int) → sp [.ref a] H (fun v _ => v = .bl true) fun _ _ _ => False)
    (hCx : ∀ H e s', CX [] H s (fun _ _ _ => False) e s' → False) :
    codeAny (model P w) callerA (.call (.ref fa) ⟨[.ref a], []⟩) (fun r s' => r = .ok (.ret (.bool true)) ∧ OldK s.heap s'.heap ∧ s'.os = s.os ∧ AllBare s'.gens) s := by
  have known := hSp (HeadStart.Hd K cds a its ns) (fun p hp => headTold_tbl (List.mem_map_of_mem hp)) S.sql
  refine codeAny_mono ((F _ S.kinH (S.ns_of S.main) S.tabB).run callerA [] s (HeadStart.Hd K cds a its ns) ⟨[.ref a], []⟩ [.ref a] [.ref a] _ _ hRm rfl S.env (hBd s (.ref a)) (.cons rfl .nil) known) fun r s' z => ?_
  match r, z with
  | .error e, z => exact (hCx _ e s' z).elim
  | .ok (.ret u), ⟨v, H', os, bare, un, ok, rel, yes⟩ =>
    obtain rfl : v = .bl true := yes
    obtain rfl : u = Value.bool true := rel
    exact ⟨rfl, S.old un ok, os, bare⟩
def LawAtG (l : PySem.W.OpenLaw) (w : World) (K : PySem.W.Frag) (CX : CXT) (k n : Nat) (x : Str) (mg : Str → Option Value) (fa : Addr) (h : Heap) : Prop :=
  ∃ (fd : FuncData) (cds : List (Addr × Addr)) (sp : Sp), (∀ p ∈ cds, PySem.W.CodeHd h p.1 p.2 ∧ h.get? p.2 = some headNo) ∧ (∀ p ∈ cds, K.lookup p.2 = none) ∧
    (∀ (s : Shared) (u : Value), BindsTo s fd ⟨[u], []⟩ [(x, u)]) ∧
    (∀ (H : Hp) (a : Addr) (ns : List Int), ns.length ≤ n → (∀ p ∈ cds, H p.2 = some (.tbl #[])) → SqL K H a (ns.map V.int) → sp [.ref a] H (fun v _ => v = .bl true) fun _ _ _ => False) ∧
    ∀ base : Heap, K.In base → base.Ns mainGlobals mg → (∀ p ∈ cds, LamX.TabB base mg p.1 p.2) → FnG l.prog w K mg base CX k fa fd [x] sp
theorem walk_ofTG {l : PySem.W.OpenLaw} {n k : Nat} {q : Program} {loose : List Str} {XP : (Str → Option Value) → Heap → Prop} {YP : World → Heap → Prop} {d : DefRec} {K : Params → PySem.W.Frag} {CX : World → CXT} {x : Str}
    (hn : l.most = some n) (hn2 : n ≤ sizeLine) (hdf : d.params.defaults = []) (hRm : Room k callerA) (hY : ∀ (w : World) (h : Heap), YP w h → (K w.params).In h)
    (F : ∀ (w : World) (mg : Str → Option Value) (fa : Addr) (h : Heap), (K w.params).In h → h.Ns mainGlobals mg → mg d.name = some (.ref fa) →
      (∀ (y : Str) (c P : Addr), ((recsOf q).find? (fun e => e.name == y)).isSome = true → PySem.W.tabIn (K w.params) y = some (c, P) → PySem.W.CodeHd h c P ∧ h.get? P = some { cls := .none, data := .fields #[] }) → LawAtG l w (K w.params) (CX w) k n x mg fa h)
    (hCx : ∀ (w : World) (H : Hp) (s : Shared) (e : Value) (s' : Shared), CX w [] H s (fun _ _ _ => False) e s' → False) :
    PySem.W.WalkO q loose XP YP l.row.toRowW d [] (fun f us => PySem.call f us) := by
  refine Att.attach_call hn hdf fun w s₀ s1 mg mb fa o pm cd doc a its ns G Y ho hd hcd hmg hobj hints hlen hGn => ?_
  have kin := hY w _ Y
  obtain ⟨fd, cds, sp, t1, t2, hBd, hSp, hF⟩ := F w mg fa _ kin G.T.g hmg fun y c P f h => (Option.isSome_iff_exists.mp f).elim fun _ e => PySem.W.tab_of G.T kin e h
  exact law_callTG ⟨kin, G.T.g, G.T.b, G.T.builtins, G.T.nolimit, hGn, fun p hp => (t1 p hp).2, t2, fun p hp => (t1 p hp).1, G.T.bmain, hobj, hints, Nat.le_trans hlen hn2⟩ hRm hF hBd (fun H z1 z2 => hSp H a ns hlen z1 z2) fun H e s' => hCx w H s1 e s'
end Sw

set_option Elab.async false
set_option linter.all false
set_option maxRecDepth 100000
set_option maxHeartbeats 4000000
namespace Sv
open PySem L2
def top (i : Nat) : Stmt := PySem.Challenge.pw_savewise_k01_columns_accept_values.main.body.getD i (.Pass ⟨0, 0, 0, 0⟩)
abbrev s_InvalidName___init__ : Stmt := inClass (top 2) 0
abbrev s_InvalidColumn___init__ : Stmt := inClass (top 3) 0
abbrev s_InvalidText___init__ : Stmt := inClass (top 4) 0
abbrev s_is_name : Stmt := top 9
abbrev s_is_integer : Stmt := top 10
abbrev s_is_key : Stmt := top 11
abbrev s_is_text : Stmt := top 12
abbrev s_Column___init__ : Stmt := inClass (top 15) 3
abbrev s_Column___eq__ : Stmt := inClass (top 15) 4
abbrev s_Column_kind : Stmt := inClass (top 15) 5
abbrev s_Column_default : Stmt := inClass (top 15) 6
abbrev s_Column_text : Stmt := inClass (top 15) 7
abbrev s_Column_words : Stmt := inClass (top 15) 8
abbrev s_Column_accepts : Stmt := inClass (top 15) 9
abbrev s_Column_parse : Stmt := inClass (top 15) 10
abbrev s_IntColumn_accepts : Stmt := inClass (top 16) 1
abbrev s_TextColumn_accepts : Stmt := inClass (top 17) 2
abbrev s_RefColumn___init__ : Stmt := inClass (top 18) 1
abbrev s_RefColumn_words : Stmt := inClass (top 18) 2
abbrev s_RefColumn_accepts : Stmt := inClass (top 18) 3
abbrev s_parsed_column : Stmt := top 19
abbrev s__law_begun : Stmt := top 21
abbrev s__law_draw : Stmt := top 22
abbrev s__law_pick : Stmt := top 23
abbrev s__law_mixed : Stmt := top 24
abbrev s__law_names : Stmt := top 25
abbrev s__law_column : Stmt := top 26
abbrev s__law_column_text : Stmt := top 27
abbrev s__law_made : Stmt := top 28
abbrev s__law_accepts : Stmt := top 29
abbrev s__law_value : Stmt := top 30
abbrev s__law_is_name : Stmt := top 31
abbrev s__law_due : Stmt := top 32
abbrev s__law_tried : Stmt := top 33
abbrev s__law_refused : Stmt := top 34
abbrev s_law : Stmt := top 35
/-- where the top has put its classes and tuples -/
structure Ad where
  (SaveError InvalidName InvalidColumn InvalidText Column IntColumn TextColumn RefColumn RESERVED RULES : Addr)
structure Txt (K : PySem.W.Frag) (mg : Str → Option Value) (A : Ad) : Prop where
  nb_super : mg "super" = none
  nb_isinstance : mg "isinstance" = none
  nb_str : mg "str" = none
  nb_len : mg "len" = none
  nb_all : mg "all" = none
  nb_int : mg "int" = none
  nb_bool : mg "bool" = none
  nb_abs : mg "abs" = none
  nb_list : mg "list" = none
  nb_range : mg "range" = none
  nb_ValueError : mg "ValueError" = none
  nb_repr : mg "repr" = none
  g_SaveError : ∃ u, mg "SaveError" = some u ∧ RelV (.ref A.SaveError) u
  g_InvalidName : ∃ u, mg "InvalidName" = some u ∧ RelV (.ref A.InvalidName) u
  g_InvalidColumn : ∃ u, mg "InvalidColumn" = some u ∧ RelV (.ref A.InvalidColumn) u
  g_InvalidText : ∃ u, mg "InvalidText" = some u ∧ RelV (.ref A.InvalidText) u
  g_Column : ∃ u, mg "Column" = some u ∧ RelV (.ref A.Column) u
  g_IntColumn : ∃ u, mg "IntColumn" = some u ∧ RelV (.ref A.IntColumn) u
  g_TextColumn : ∃ u, mg "TextColumn" = some u ∧ RelV (.ref A.TextColumn) u
  g_RefColumn : ∃ u, mg "RefColumn" = some u ∧ RelV (.ref A.RefColumn) u
  g_LETTERS : ∃ u, mg "LETTERS" = some u ∧ RelV (.str "abcdefghijklmnopqrstuvwxyz") u
  g_LONGEST_NAME : ∃ u, mg "LONGEST_NAME" = some u ∧ RelV (.int 8) u
  g_RESERVED : ∃ u, mg "RESERVED" = some u ∧ RelV (.ref A.RESERVED) u
  t_RESERVED : ∀ H, SqT K H A.RESERVED [.str "key", .str "limit", .str "order", .str "self", .str "table"]
  g_RULES : ∃ u, mg "RULES" = some u ∧ RelV (.ref A.RULES) u
  t_RULES : ∀ H, SqT K H A.RULES [.str "restrict", .str "clear", .str "cascade"]
end Sv

set_option Elab.async false
set_option linter.all false
set_option maxRecDepth 100000
set_option maxHeartbeats 4000000
namespace Sv
open PySem PySem.Spec PyProof.Rows L2 Sw

/-! ### the steps -/
local macro_rules | `(tactic| walk_at "go1") => `(tactic| first
  | ((with_reducible refine' g_var ?hv ?_); (case hv => rfl))
  | with_reducible refine g_c ?_
  | with_reducible refine g_op ?_
  | with_reducible refine g_un ?_
  | with_reducible refine g_seq ?_
  | with_reducible refine g_next ?_
  | with_reducible refine g_asg ?_
  | with_reducible refine g_name ?_
  | with_reducible refine g_drop ?_
  | with_reducible refine g_sub ?_
  | with_reducible refine g_ret ?_
  | with_reducible refine g_retN ?_
  | with_reducible refine g_ifS ?_
  | with_reducible refine g_if ?_
  | with_reducible refine g_test ?_
  | with_reducible refine g_bl ?_
  | with_reducible refine g_cons ?_
  | with_reducible refine g_nil ?_
  | with_reducible refine g_and ?_
  | with_reducible refine g_or ?_
  | with_reducible refine g_not ?_
  | with_reducible refine g_callB ?_
  | with_reducible refine g_addI ?_
  | with_reducible refine g_I0 ?_
  | with_reducible refine g_calG ?_
  | with_reducible refine g_mkG ?_
  | with_reducible refine g_tup ?_
  | with_reducible refine g_pairs1 ?_
  | with_reducible refine g_pairs0 ?_
  | with_reducible refine g_dget ?_
  | with_reducible refine g_lvals ?_
  | with_reducible refine g_forT ?_
  | with_reducible refine g_lcT ?_
  | with_reducible refine g_dput ?_
  | with_reducible refine g_lc2L ?_
  | with_reducible refine g_iList ?_
  | with_reducible refine g_lcX ?_
  | with_reducible refine g_js1 ?_
  | with_reducible refine g_js0 ?_
  | with_reducible refine g_fmt ?_
  | with_reducible refine g_tLenSet ?_
  | with_reducible refine g_mkV ?_
  | with_reducible refine g_mkV1 ?_
  | with_reducible refine g_lst ?_
  | with_reducible refine g_forL ?_
  | with_reducible refine g_forR ?_
  | with_reducible refine g_forR2 ?_
  | with_reducible refine g_forS ?_
  | with_reducible refine g_forE ?_
  | with_reducible refine g_lcL ?_
  | with_reducible refine g_lcR ?_
  | with_reducible refine g_lcS ?_
  | with_reducible refine g_lcE ?_
  | with_reducible refine g_orT ?_
  | with_reducible refine g_slc ?_
  | with_reducible refine g_noPart ?_
  | with_reducible refine g_part ?_
  | with_reducible refine g_bm ?_
  | with_reducible refine g_par ?_
  | with_reducible refine g_yes ?_
  | with_reducible refine g_tupG ?_
  | with_reducible refine g_lstG ?_
  | with_reducible refine g_gcons ?_
  | with_reducible refine g_gnil ?_
  | with_reducible refine g_chain ?_
  | with_reducible refine g_truB ?_
  | with_reducible refine g_truN ?_
  | with_reducible refine g_truI ?_
  | with_reducible refine g_m1 ?_
  | with_reducible refine g_fld ?_
  | with_reducible refine g_con ?_
  | with_reducible refine g_tru ?_
  | with_reducible refine g_U ?_
  | with_reducible refine g_xg ?_
  | with_reducible refine g_andT ?_
  | with_reducible refine g_exI ?_
  | with_reducible refine g_dnew ?_
  | with_reducible refine g_intB ?_
  | with_reducible refine g_meth ?_
  | with_reducible refine g_prop ?_
  | with_reducible refine g_exc1 ?_
  | with_reducible refine g_setF ?_
  | with_reducible refine g_star ?_
  | with_reducible refine g_strM ?_
  | with_reducible refine iteT ?_
  | with_reducible refine iteF ?_
  | with_reducible refine iteNT ?_
  | with_reducible refine iteNF ?_)
local macro_rules | `(tactic| walk_at "go") => `(tactic| repeat (walk_at "go1"))
local macro_rules | `(tactic| walk_at "sz") => `(tactic| (first | (rw [sizeLine_eq]; simp only [List.length_cons, List.length_nil, List.length_map, List.length_append, List.length_take]; omega) | (rw [sizeLine_eq]; omega)))
/-! ### the state of the choices -/
structure DOk (xs : List Int) (i m : Int) : Prop where
  ne : xs ≠ []
  nn : ∀ x ∈ xs, 0 ≤ x
  len : xs.length ≤ 63
  i0 : 0 ≤ i
  m0 : 0 ≤ m
  m1 : m < 2147483647
def DS (a c : Addr) (H : Hp) : Prop := ∃ xs i m, DOk xs i m ∧ H a = some (.lst [.ref c, .int i, .int m]) ∧ H c = some (.lst (xs.map V.int))
def RD (a c : Addr) : Res := ⟨[a, c], DS a c, fun H H' h e => by
    obtain ⟨xs, i, m, d, h1, h2⟩ := h
    exact ⟨xs, i, m, d, by rw [e a (by simp)]; exact h1, by rw [e c (by simp)]; exact h2⟩,
  fun H h b hb => by
    obtain ⟨xs, i, m, d, h1, h2⟩ := h
    rcases List.mem_cons.mp hb with rfl | hb
    · rw [h1]; simp
    · rw [List.mem_singleton] at hb
      rw [hb, h2]; simp⟩
theorem RD.apart {a c : Addr} {H : Hp} (h : DS a c H) : a ≠ c := by
  obtain ⟨xs, i, m, d, h1, h2⟩ := h
  rintro rfl
  rw [h1] at h2
  cases xs with
  | nil => exact d.ne rfl
  | cons x xs => cases h2
/-- the resource changed: what is known stays -/
theorem RD.put {a c : Addr} {G H H' : Hp} (w : Wd G (RD a c) H) (h : DS a c H') (k : ∀ b o, b ≠ a → b ≠ c → H b = some o → H' b = some o) : Wd G (RD a c) H' := by
  refine ⟨fun b o e => ?_, w.out, h⟩
  have na : b ≠ a := fun z => by
    have := w.out a (by simp [RD])
    rw [← z, e] at this; cases this
  have nc : b ≠ c := fun z => by
    have := w.out c (by simp [RD])
    rw [← z, e] at this; cases this
  exact k b o na nc (w.sub b o e)

section
variable {P : Program} {wo : World} {A : Ad} {K : PySem.W.Frag} {mg : Str → Option Value} {base : Heap}

def spDraw : Sp := fun vs H Q _ => ∃ G a c b, vs = [.ref a, .int b] ∧ Wd G (RD a c) H ∧ 0 < b ∧ b < 1073741824 ∧ ∀ r H', 0 ≤ r → r < b → Wd G (RD a c) H' → Q (.int r) H'
theorem sc__law_draw : FnScope (["_law_state", "_law_bound", "_law_cells", "_law_at", "_law_cell"] : List Str) (["_law_state", "_law_bound"] : List Str) (defScope s__law_draw) := ⟨rfl, rfl, rfl, by decide +kernel, rfl, by decide +kernel, by decide +kernel⟩
theorem ok_draw {f : Addr} {fd : FuncData} (F : Fun K "_law_draw" "_law_draw" s__law_draw f fd) (T : Txt K mg A) : FnOk P wo K mg base (L2.CX P wo) 1 f fd (["_law_state", "_law_bound"] : List Str) spDraw := by
  refine okT F sc__law_draw (fun vs H Q E h => ?_) (fun cdv Ar outer s H vs Q E hr tk po h => ?_)
  · obtain ⟨_, _, _, _, rfl, _⟩ := h
    rfl
  obtain ⟨G, a, c, b, rfl, w, b0, b1, k⟩ := h
  refine ⟨_, (pss_cons (ps_set (i := 2) sc__law_draw.nd rfl (by first | exact Or.inl rfl | exact Or.inr rfl) (pe_ix (ka_ix K) (pv 0) pe_int (fun _ _ => rfl)))
      (pss_cons (ps_set (i := 3) sc__law_draw.nd rfl (by first | exact Or.inl rfl | exact Or.inr rfl) (pe_op op_mod (pe_ix (ka_ix K) (pv 0) pe_int (fun _ _ => rfl)) (pe_callB (ka_len K) (by rfl) T.nb_len (by decide +kernel) (pa_cons (pv 2) pa_nil))))
      (pss_cons (ps_set (i := 4) sc__law_draw.nd rfl (by first | exact Or.inl rfl | exact Or.inr rfl) (pe_ix (ka_ix K) (pv 2) (pv 3) (fun _ _ => rfl)))
      (pss_cons (ps_if (pt_cmpR op_ge (pv 4) pe_int (nomark _)) (pss_cons (ps_asg (pe_op op_fdiv (pv 4) (pv 1)) (pg_sub (pv 2) (pv 3) set_list))
      (pss_one (ps_ret (pe_op op_mod (pv 4) (pv 1))))) pss_nil)
      (pss_cons (ps_asg (pe_op (ka_add K) (pe_ix (ka_ix K) (pv 0) pe_int (fun _ _ => rfl)) pe_int) (pg_sub (pv 0) pe_int set_list))
      (pss_cons (ps_asg (pe_op op_mod (pe_op (ka_add K) (pe_op (ka_add K) (pe_op (ka_mul K) (pe_ix (ka_ix K) (pv 0) pe_int (fun _ _ => rfl)) pe_int) (pv 4)) pe_int) pe_int) (pg_sub (pv 0) pe_int set_list))
      (pss_one (ps_ret (pe_op op_mod (pe_op op_fdiv (pe_op op_mod (pe_op (ka_mul K) (pe_ix (ka_ix K) (pv 0) pe_int (fun _ _ => rfl)) (pe_ix (ka_ix K) (pv 0) pe_int (fun _ _ => rfl))) pe_int) pe_int) (pv 1)))))))))), ?_⟩
  obtain ⟨xs, i, m, d, ha, hc⟩ := id w.res
  have hac := RD.apart w.res
  have wH : Wd H R0 H := Wd.r0 H
  have hcl : SqL K H c (xs.map V.int) := SqL.of hc
  have n0 : 0 < xs.length := List.length_pos_iff.mpr d.ne
  walk_at "go"
  refine g_ixL wH (SqL.of ha) (by rfl) ?_
  walk_at "go"
  refine g_ixL wH (SqL.of ha) (by rfl) ?_
  walk_at "go"
  refine g_lenL wH hcl ?_
  rw [List.length_map]
  refine g_I (show (0 : Int) < (xs.length : Int) by omega) ?_
  obtain ⟨j, hj⟩ : ∃ j : Nat, i % (xs.length : Int) = (j : Int) := ⟨(i % (xs.length : Int)).toNat, by
    have := Int.emod_nonneg i (show (xs.length : Int) ≠ 0 by omega)
    omega⟩
  have hjl : j < xs.length := by
    have := Int.emod_lt_of_pos i (show (0 : Int) < (xs.length : Int) by omega)
    omega
  rw [hj]
  have hx : (xs.map V.int)[j]? = some (V.int xs[j]) := by simp [hjl]
  have hp : 0 ≤ xs[j] := d.nn _ (List.getElem_mem hjl)
  walk_at "go"
  refine g_ixL wH hcl (atI_nat hx) ?_
  walk_at "go"
  refine iteD (fun h1 => ?_) (fun h1 => ?_)
  · walk_at "go"
    refine g_I ⟨b0, b1⟩ ?_
    walk_at "go"
    have hi : ixN (xs.map V.int).length (j : Int) = some j := by
      unfold ixN
      rw [List.length_map, if_pos (by omega), if_pos (by omega)]
      simp
    refine g_setL wH hc hi fun H1 w1 => ?_
    walk_at "go"
    refine g_I b0 ?_
    refine k _ _ (Int.emod_nonneg _ (by omega)) (Int.emod_lt_of_pos _ b0) (RD.put w ⟨xs.set j (xs[j] / b), i, m, ⟨?_, ?_, ?_, d.i0, d.m0, d.m1⟩, ?_, ?_⟩ fun q o ha' hc' e => ?_)
    · intro z
      have := congrArg List.length z
      rw [List.length_set] at this
      exact d.ne (List.length_eq_zero_iff.mp this)
    · intro x hx
      rcases List.mem_or_eq_of_mem_set hx with h | h
      · exact d.nn x h
      · rw [h]
        exact Int.ediv_nonneg hp (by omega)
    · rw [List.length_set]
      exact d.len
    · exact w1.get (upd_oth ha hac)
    · rw [List.map_set]
      exact w1.get upd_same
    · exact w1.get (upd_oth e hc')
  · walk_at "go"
    refine g_ixL wH (SqL.of ha) (by rfl) ?_
    walk_at "go"
    refine g_setL (j' := 1) wH ha (by rfl) fun H1 w1 => ?_
    walk_at "go"
    refine g_ixL w1 (SqL.of upd_same) (by rfl) ?_
    walk_at "go"
    refine g_mulI (Or.inr (by decide)) ?_
    walk_at "go"
    refine g_I (show (0 : Int) < 2147483647 by decide) ?_
    walk_at "go"
    refine g_setL (j' := 2) w1 upd_same (by rfl) fun H2 w2 => ?_
    have a2 := w2.get upd_same
    have m20 := Int.emod_nonneg (m * 48271 + xs[j] + 12345) (show (2147483647 : Int) ≠ 0 by decide)
    have m21 := Int.emod_lt_of_pos (m * 48271 + xs[j] + 12345) (show (0 : Int) < 2147483647 by decide)
    generalize (m * 48271 + xs[j] + 12345) % 2147483647 = m2 at *
    walk_at "go"
    refine g_ixL w2 (SqL.of upd_same) (by rfl) ?_
    walk_at "go"
    refine g_ixL w2 (SqL.of upd_same) (by rfl) ?_
    refine g_mulI (Or.inl ⟨by omega, by omega⟩) ?_
    walk_at "go"
    refine g_I (show (0 : Int) < 2147483629 by decide) ?_
    walk_at "go"
    refine g_I (show CDiv _ 16 from ⟨by decide, by decide⟩) ?_
    walk_at "go"
    refine g_I b0 ?_
    refine k _ _ (Int.emod_nonneg _ (by omega)) (Int.emod_lt_of_pos _ b0) (RD.put w ⟨xs, i + 1, m2, ⟨d.ne, d.nn, d.len, by have := d.i0; omega, m20, m21⟩, a2, ?_⟩ fun q o ha' hc' e => ?_)
    · exact w2.get (upd_oth (upd_oth hc hac.symm) hac.symm)
    · exact w2.get (upd_oth (upd_oth e ha') ha')
end
end Sv


set_option Elab.async false
set_option linter.all false
set_option maxRecDepth 100000
set_option maxHeartbeats 4000000
namespace Sv
open PySem PySem.Spec PyProof.Rows L2 Sw
local macro_rules | `(tactic| walk_at "go1") => `(tactic| first
  | ((with_reducible refine' g_var ?hv ?_); (case hv => rfl))
  | with_reducible refine g_c ?_
  | with_reducible refine g_op ?_
  | with_reducible refine g_un ?_
  | with_reducible refine g_seq ?_
  | with_reducible refine g_next ?_
  | with_reducible refine g_asg ?_
  | with_reducible refine g_name ?_
  | with_reducible refine g_drop ?_
  | with_reducible refine g_sub ?_
  | with_reducible refine g_ret ?_
  | with_reducible refine g_retN ?_
  | with_reducible refine g_ifS ?_
  | with_reducible refine g_if ?_
  | with_reducible refine g_test ?_
  | with_reducible refine g_bl ?_
  | with_reducible refine g_cons ?_
  | with_reducible refine g_nil ?_
  | with_reducible refine g_and ?_
  | with_reducible refine g_or ?_
  | with_reducible refine g_not ?_
  | with_reducible refine g_callB ?_
  | with_reducible refine g_addI ?_
  | with_reducible refine g_I0 ?_
  | with_reducible refine g_calG ?_
  | with_reducible refine g_mkG ?_
  | with_reducible refine g_tup ?_
  | with_reducible refine g_pairs1 ?_
  | with_reducible refine g_pairs0 ?_
  | with_reducible refine g_dget ?_
  | with_reducible refine g_lvals ?_
  | with_reducible refine g_forT ?_
  | with_reducible refine g_lcT ?_
  | with_reducible refine g_dput ?_
  | with_reducible refine g_lc2L ?_
  | with_reducible refine g_iList ?_
  | with_reducible refine g_lcX ?_
  | with_reducible refine g_js1 ?_
  | with_reducible refine g_js0 ?_
  | with_reducible refine g_fmt ?_
  | with_reducible refine g_tLenSet ?_
  | with_reducible refine g_mkV ?_
  | with_reducible refine g_mkV1 ?_
  | with_reducible refine g_lst ?_
  | with_reducible refine g_forL ?_
  | with_reducible refine g_forR ?_
  | with_reducible refine g_forR2 ?_
  | with_reducible refine g_forS ?_
  | with_reducible refine g_forE ?_
  | with_reducible refine g_lcL ?_
  | with_reducible refine g_lcR ?_
  | with_reducible refine g_lcS ?_
  | with_reducible refine g_lcE ?_
  | with_reducible refine g_orT ?_
  | with_reducible refine g_slc ?_
  | with_reducible refine g_noPart ?_
  | with_reducible refine g_part ?_
  | with_reducible refine g_bm ?_
  | with_reducible refine g_par ?_
  | with_reducible refine g_yes ?_
  | with_reducible refine g_tupG ?_
  | with_reducible refine g_lstG ?_
  | with_reducible refine g_gcons ?_
  | with_reducible refine g_gnil ?_
  | with_reducible refine g_chain ?_
  | with_reducible refine g_truB ?_
  | with_reducible refine g_truN ?_
  | with_reducible refine g_truI ?_
  | with_reducible refine g_m1 ?_
  | with_reducible refine g_fld ?_
  | with_reducible refine g_con ?_
  | with_reducible refine g_tru ?_
  | with_reducible refine g_U ?_
  | with_reducible refine g_xg ?_
  | with_reducible refine g_andT ?_
  | with_reducible refine g_exI ?_
  | with_reducible refine g_dnew ?_
  | with_reducible refine g_intB ?_
  | with_reducible refine g_meth ?_
  | with_reducible refine g_prop ?_
  | with_reducible refine g_exc1 ?_
  | with_reducible refine g_setF ?_
  | with_reducible refine g_star ?_
  | with_reducible refine g_strM ?_
  | with_reducible refine iteT ?_
  | with_reducible refine iteF ?_
  | with_reducible refine iteNT ?_
  | with_reducible refine iteNF ?_)
local macro_rules | `(tactic| walk_at "go") => `(tactic| repeat (walk_at "go1"))
local macro_rules | `(tactic| walk_at "sz") => `(tactic| (first | (rw [sizeLine_eq]; simp only [List.length_cons, List.length_nil, List.length_map, List.length_append, List.length_take]; omega) | (rw [sizeLine_eq]; omega)))
section
variable {P : Program} {wo : World} {A : Ad} {K : PySem.W.Frag} {mg : Str → Option Value} {base : Heap}

def spBegun (K : PySem.W.Frag) : Sp := fun vs H Q _ => ∃ (s : Addr) (ns : List Int), vs = [.ref s] ∧ SqL K H s (ns.map V.int) ∧ ∀ a c H', Wd H (RD a c) H' → Q (.ref a) H'
theorem sc__law_begun : FnScope (["_law_script", "_law_cell"] : List Str) (["_law_script"] : List Str) (defScope s__law_begun) := ⟨rfl, rfl, rfl, by decide +kernel, rfl, by decide +kernel, by decide +kernel⟩
theorem cut63 {xs : List V} : cutV xs none (some 63) = xs.take 63 := by
  unfold cutV
  have h1 : HT.sIx xs.length 0 none = 0 := rfl
  have h2 : HT.sIx xs.length xs.length (some 63) = min 63 xs.length := by
    unfold HT.sIx
    simp
    try omega
  rw [h1, h2]
  simp
  try (rw [List.take_eq_take_iff]; omega)
theorem ok_begun {f : Addr} {fd : FuncData} (F : Fun K "_law_begun" "_law_begun" s__law_begun f fd) (T : Txt K mg A) : FnOk P wo K mg base (L2.CX P wo) 1 f fd (["_law_script"] : List Str) (spBegun K) := by
  refine okT F sc__law_begun (fun vs H Q E h => ?_) (fun cdv Ar outer s H vs Q E hr tk po h => ?_)
  · obtain ⟨_, _, rfl, _⟩ := h
    rfl
  obtain ⟨l, ns, rfl, hl, k⟩ := h
  refine ⟨_, (pss_one (ps_ret (pe_lst (pa_cons (ke_orT K (pe_lc (own := [("_law_cell", 1)]) (g := (gName 1)) (tt := tYes) rfl sc__law_begun.nd (ki_list K (pe_slice (ka_sl K) (pv 0) po_none (po_some pe_int))) (blkOk_by (N := (["_law_script", "_law_cell"] : List Str)) (sc := defScope s__law_begun) (by decide +kernel)) (fun _ _ _ _ _ => (pg_name (i := 1) sc__law_begun.nd rfl (by first | exact Or.inl rfl | exact Or.inr rfl))) (fun _ _ _ _ _ => pts_nil) (fun _ _ _ _ _ => (pe_callB call_abs (by rfl) T.nb_abs (by decide +kernel) (pa_cons (pv 1) pa_nil)))) (pe_one (pe_lst (pa_cons pe_int pa_nil)))) (pa_cons pe_int (pa_cons pe_int pa_nil)))))), ?_⟩
  have w := Wd.r0 H
  walk_at "go"
  refine g_slL w hl fun p H1 np w1 => ?_
  rw [cut63, ← List.map_take] at w1
  refine ⟨p, rfl, ⟨_, SqL.of (w1.get upd_same)⟩, ?_⟩
  refine lc_it (itf_list (xs := (ns.take 63).map V.int)) w1 (fun H' e => SqL.of (e _ _ upd_same)) (by walk_at "sz") (fun i _ acc => ∃ ys : List Int, acc = ys.map V.int ∧ (∀ y ∈ ys, 0 ≤ y) ∧ ys.length = i) ⟨[], rfl, by simp, rfl⟩ ?_ ?_
  · rintro i x Gi acc D H2 H2' hi e nD ⟨ys, rfl, nn, hy⟩ hl2 w2 ⟨rfl, hx⟩
    obtain ⟨u, rfl⟩ : ∃ u, x = V.int u := by
      rw [List.getElem?_map] at hx
      cases e : (ns.take 63)[i]? with
      | none => rw [e] at hx; cases hx
      | some u => rw [e] at hx; exact ⟨u, (Option.some.inj hx).symm⟩
    walk_at "go"
    refine ⟨rfl, ?_⟩
    walk_at "go"
    refine ⟨_, rfl, ?_⟩
    refine lc_keep (Pv := fun i _ acc => ∃ ys : List Int, acc = ys.map V.int ∧ (∀ y ∈ ys, 0 ≤ y) ∧ ys.length = i) w2 e nD hl2 hi (by walk_at "sz") ⟨ys ++ [if u < 0 then -u else u], by simp, ?_, by simp [hy]⟩
    intro y hy'
    rcases List.mem_append.mp hy' with h | h
    · exact nn y h
    · rw [List.mem_singleton] at h
      rw [h]
      split <;> omega
  · rintro D Gn acc H2 e nD ⟨ys, rfl, nn, hy⟩ hl2 w2
    have hys : ys.length ≤ 63 := by
      rw [hy, List.length_map, List.length_take]
      omega
    refine ⟨_, .inl ⟨_, SqL.of (w2.get upd_same), rfl⟩, ?_⟩
    have fin : ∀ (c : Addr) (cs : List Int) (H3 : Hp), Same H H3 → H c = none → H3 c = some (.lst (cs.map V.int)) → cs ≠ [] → (∀ y ∈ cs, 0 ≤ y) → cs.length ≤ 63 → ∀ a, H3 a = none → Q (.ref a) (upd H3 a (.lst [.ref c, .int 0, .int 1])) := by
      intro c cs H3 e3 nc hc h1 h2 h3 a ha
      have hca : c ≠ a := ne_of_none hc ha
      refine k a c _ ⟨Same.trans e3 (Same.newG ha), fun b hb => ?_, ⟨cs, 0, 1, ⟨h1, h2, h3, by decide, by decide, by decide⟩, upd_same, by rw [upd_ne hca]; exact hc⟩⟩
      rcases List.mem_cons.mp hb with rfl | hb
      · exact Same.free e3 ha
      · rw [List.mem_singleton] at hb
        rw [hb]
        exact nc
    have e0 : Same H H2 := Same.trans (Same.trans (Same.newG np) e) (Same.trans (Same.newG nD) w2.sub)
    refine iteB (fun hb => ?_) (fun hb => ?_)
    · walk_at "go"
      refine ⟨by walk_at "sz", ?_⟩
      refine fin D ys _ e0 (Same.free (Same.newG np) (Same.free e nD)) (w2.get upd_same) (fun z => ?_) nn hys
      rw [z] at hb
      cases hb
    · walk_at "go"
      refine ⟨by walk_at "sz", fun q hq => ?_⟩
      walk_at "go"
      refine ⟨by walk_at "sz", ?_⟩
      exact fin q [7] _ (Same.trans e0 (Same.newG hq)) (Same.free e0 hq) upd_same (by simp) (by simp) (by simp)

/-! ### a choice out of a list, out of a text -/
def spPick (K : PySem.W.Frag) : Sp := fun vs H Q _ => ∃ G a c, Wd G (RD a c) H ∧
  ((∃ p xs, vs = [.ref a, .ref p] ∧ (SqL K G p xs ∨ SqT K G p xs) ∧ 0 < xs.length ∧ xs.length < 1000000 ∧ ∀ x H', x ∈ xs → Wd G (RD a c) H' → Q x H') ∨
  (∃ z : Str, vs = [.ref a, .str z] ∧ 0 < z.length ∧ z.length < 1000000 ∧ ∀ ch H', ch ∈ z.cps.toList → Wd G (RD a c) H' → Q (.str ⟨#[ch]⟩) H'))
theorem sc__law_pick : FnScope (["_law_state", "_law_some"] : List Str) (["_law_state", "_law_some"] : List Str) (defScope s__law_pick) := ⟨rfl, rfl, rfl, by decide +kernel, rfl, by decide +kernel, by decide +kernel⟩
theorem ok_pick {f : Addr} {fd : FuncData} (F : Fun K "_law_pick" "_law_pick" s__law_pick f fd) (T : Txt K mg A) (Gd : GFn P wo K mg base 1 "_law_draw" 2 [] (fun vs _ => spDraw vs)) : FnOk P wo K mg base (L2.CX P wo) 2 f fd (["_law_state", "_law_some"] : List Str) (spPick K) := by
  refine okT F sc__law_pick (fun vs H Q E h => ?_) (fun cdv Ar outer s H vs Q E hr tk po h => ?_)
  · obtain ⟨_, _, _, _, ⟨_, _, rfl, _⟩ | ⟨_, rfl, _⟩⟩ := h <;> rfl
  obtain ⟨G, a, c, w, h⟩ := h
  refine ⟨_, (pss_one (ps_ret (pe_ix (ka_ix K) (pv 1) (pe_callG Gd (hr.mono (by decide)) tk (pa_cons (pv 0) (pa_cons (pe_callB (ka_len K) (by rfl) T.nb_len (by decide +kernel) (pa_cons (pv 1) pa_nil)) pa_nil)) pk_nil) (fun _ _ => rfl)))), ?_⟩
  rcases h with ⟨p, xs, rfl, hp, h0, h1, k⟩ | ⟨z, rfl, h0, h1, k⟩
  · walk_at "go"
    have rd : ∀ {H1 : Hp} {Q1 : VK}, Wd G (RD a c) H1 → (∀ r H', 0 ≤ r → r < (xs.length : Int) → Wd G (RD a c) H' → Q1 (.int r) H') → spDraw [V.ref a, V.int xs.length] H1 Q1 E := fun w1 q => ⟨G, a, c, _, rfl, w1, by omega, by omega, q⟩
    have fin : ∀ r H', 0 ≤ r → r < (xs.length : Int) → Wd G (RD a c) H' → rIx K (.ref p) (.int r) H' Q := by
      intro r H' r0 r1 w'
      obtain ⟨j, rfl⟩ : ∃ j : Nat, r = j := ⟨r.toNat, by omega⟩
      have hj : j < xs.length := by omega
      rcases hp with hp | hp
      · exact g_ixL w' hp (atI_nat (List.getElem?_eq_getElem hj)) (k _ _ (List.getElem_mem hj) w')
      · exact g_ixT w' hp (atI_nat (List.getElem?_eq_getElem hj)) (k _ _ (List.getElem_mem hj) w')
    rcases id hp with hp' | hp'
    · refine g_lenL w hp' ?_
      walk_at "go"
      refine ⟨rfl, rfl, ?_⟩
      exact rd w fun r H' r0 r1 w' => fin r H' r0 r1 w'
    · refine g_lenT w hp' ?_
      walk_at "go"
      refine ⟨rfl, rfl, ?_⟩
      exact rd w fun r H' r0 r1 w' => fin r H' r0 r1 w'
  · walk_at "go"
    have hz : z.length ≤ sizeLine := by rw [sizeLine_eq]; omega
    refine g_lenS hz ?_
    walk_at "go"
    refine ⟨rfl, rfl, ?_⟩
    refine ⟨G, a, c, _, rfl, w, by omega, by omega, fun r H' r0 r1 w' => ?_⟩
    obtain ⟨j, rfl⟩ : ∃ j : Nat, r = j := ⟨r.toNat, by omega⟩
    have hj : j < z.cps.toList.length := by
      have : z.cps.toList.length = z.length := by simp [Str.length]
      omega
    exact g_ixS hz (atI_nat (List.getElem?_eq_getElem hj)) (k _ _ (List.getElem_mem hj) w')
end
end Sv


set_option Elab.async false
set_option linter.all false
set_option maxRecDepth 100000
set_option maxHeartbeats 4000000
namespace Sv
open PySem PySem.Spec PyProof.Rows L2 Sw
local macro_rules | `(tactic| walk_at "go1") => `(tactic| first
  | ((with_reducible refine' g_var ?hv ?_); (case hv => rfl))
  | with_reducible refine g_c ?_
  | with_reducible refine g_op ?_
  | with_reducible refine g_un ?_
  | with_reducible refine g_seq ?_
  | with_reducible refine g_next ?_
  | with_reducible refine g_asg ?_
  | with_reducible refine g_name ?_
  | with_reducible refine g_drop ?_
  | with_reducible refine g_sub ?_
  | with_reducible refine g_ret ?_
  | with_reducible refine g_retN ?_
  | with_reducible refine g_ifS ?_
  | with_reducible refine g_if ?_
  | with_reducible refine g_test ?_
  | with_reducible refine g_bl ?_
  | with_reducible refine g_cons ?_
  | with_reducible refine g_nil ?_
  | with_reducible refine g_and ?_
  | with_reducible refine g_or ?_
  | with_reducible refine g_not ?_
  | with_reducible refine g_callB ?_
  | with_reducible refine g_addI ?_
  | with_reducible refine g_I0 ?_
  | with_reducible refine g_calG ?_
  | with_reducible refine g_mkG ?_
  | with_reducible refine g_tup ?_
  | with_reducible refine g_pairs1 ?_
  | with_reducible refine g_pairs0 ?_
  | with_reducible refine g_dget ?_
  | with_reducible refine g_lvals ?_
  | with_reducible refine g_forT ?_
  | with_reducible refine g_lcT ?_
  | with_reducible refine g_dput ?_
  | with_reducible refine g_lc2L ?_
  | with_reducible refine g_iList ?_
  | with_reducible refine g_lcX ?_
  | with_reducible refine g_js1 ?_
  | with_reducible refine g_js0 ?_
  | with_reducible refine g_fmt ?_
  | with_reducible refine g_tLenSet ?_
  | with_reducible refine g_mkV ?_
  | with_reducible refine g_mkV1 ?_
  | with_reducible refine g_lst ?_
  | with_reducible refine g_forL ?_
  | with_reducible refine g_forR ?_
  | with_reducible refine g_forR2 ?_
  | with_reducible refine g_forS ?_
  | with_reducible refine g_forE ?_
  | with_reducible refine g_lcL ?_
  | with_reducible refine g_lcR ?_
  | with_reducible refine g_lcS ?_
  | with_reducible refine g_lcE ?_
  | with_reducible refine g_orT ?_
  | with_reducible refine g_slc ?_
  | with_reducible refine g_noPart ?_
  | with_reducible refine g_part ?_
  | with_reducible refine g_bm ?_
  | with_reducible refine g_par ?_
  | with_reducible refine g_yes ?_
  | with_reducible refine g_tupG ?_
  | with_reducible refine g_lstG ?_
  | with_reducible refine g_gcons ?_
  | with_reducible refine g_gnil ?_
  | with_reducible refine g_chain ?_
  | with_reducible refine g_truB ?_
  | with_reducible refine g_truN ?_
  | with_reducible refine g_truI ?_
  | with_reducible refine g_m1 ?_
  | with_reducible refine g_fld ?_
  | with_reducible refine g_con ?_
  | with_reducible refine g_tru ?_
  | with_reducible refine g_U ?_
  | with_reducible refine g_xg ?_
  | with_reducible refine g_andT ?_
  | with_reducible refine g_exI ?_
  | with_reducible refine g_dnew ?_
  | with_reducible refine g_intB ?_
  | with_reducible refine g_meth ?_
  | with_reducible refine g_prop ?_
  | with_reducible refine g_exc1 ?_
  | with_reducible refine g_setF ?_
  | with_reducible refine g_star ?_
  | with_reducible refine g_strM ?_
  | with_reducible refine iteT ?_
  | with_reducible refine iteF ?_
  | with_reducible refine iteNT ?_
  | with_reducible refine iteNF ?_)
local macro_rules | `(tactic| walk_at "go") => `(tactic| repeat (walk_at "go1"))
local macro_rules | `(tactic| walk_at "sz") => `(tactic| (first | (rw [sizeLine_eq]; simp only [List.length_cons, List.length_nil, List.length_map, List.length_append, List.length_take]; omega) | (rw [sizeLine_eq]; omega)))
section
variable {P : Program} {wo : World} {A : Ad} {K : PySem.W.Frag} {mg : Str → Option Value} {base : Heap}

def resv : List Str := ["key", "limit", "order", "self", "table"]
def letters : Str := "abcdefghijklmnopqrstuvwxyz"
def lowS (s : Str) : Bool := s.cps.toList.all fun c => decide (c ∈ letters.cps.toList)
def isNm (s : Str) : Bool := decide (1 ≤ s.length) && decide (s.length ≤ 8) && !inV (.str s) (resv.map V.str) && lowS s
/-- no text: isinstance(v, str) says False -/
def NotStr (K : PySem.W.Frag) (H : Hp) (v : V) : Prop := ∃ t, TyX K H v t ∧ PySem.W.kitOne K t (.type "str") = some false
theorem kit_str : PySem.W.kitOne K (.type "str") (.type "str") = some true := kit_ty (by decide +kernel)
def spIsName (K : PySem.W.Frag) : Sp := fun vs H Q _ => ∃ v, vs = [v] ∧ ((∃ s : Str, v = .str s ∧ s.length ≤ 1000000 ∧ ∀ H', Same H H' → Q (.bl (isNm s)) H') ∨ (NotStr K H v ∧ ∀ H', Same H H' → Q (.bl false) H'))
theorem sc_is_name : FnScope (["value", "letter"] : List Str) (["value"] : List Str) (defScope s_is_name) := ⟨rfl, rfl, rfl, by decide +kernel, rfl, by decide +kernel, by decide +kernel⟩
theorem ok_is_name {f : Addr} {fd : FuncData} (F : Fun K "is_name" "is_name" s_is_name f fd) (T : Txt K mg A) : FnOk P wo K mg base (L2.CX P wo) 1 f fd (["value"] : List Str) (spIsName K) := by
  refine okT F sc_is_name (fun vs H Q E h => ?_) (fun cdv Ar outer s H vs Q E hr tk po h => ?_)
  · obtain ⟨_, rfl, _⟩ := h
    rfl
  obtain ⟨v, rfl, h⟩ := h
  refine ⟨_, (pss_cons (ps_if (PW.pt (pw_or (pt_not (kt_truth K (pe_callB (ka_isi K) (by rfl) T.nb_isinstance (by decide +kernel) (pa_cons (pv 0) (pa_cons (pe_bltn (v := .ty "str") (u := .type "str") (by rfl) T.nb_str (by decide +kernel) rfl) pa_nil))) (by intro _; rfl))) (pw_or (pt_not (pt_chain op_le op_le pe_int (pe_callB (ka_len K) (by rfl) T.nb_len (by decide +kernel) (pa_cons (pv 0) pa_nil)) (pe_globE (by rfl) T.g_LONGEST_NAME))) (pw_or1 (pt_cmpR (ka_in K) (pv 0) (pe_globE (by rfl) T.g_RESERVED) (by first | exact nomark _ | rfl)))))) (pss_one (ps_ret pe_bl)) pss_nil)
      (pss_one (ps_ret (pe_callB (ka_all K rfl) (by rfl) T.nb_all (by decide +kernel) (pa_cons (pe_lc (own := [("letter", 1)]) (g := (gName 1)) (tt := tYes) rfl sc_is_name.nd (pi_str (pv 0)) (blkOk_by (N := (["value", "letter"] : List Str)) (sc := defScope s_is_name) (by decide +kernel)) (fun _ _ _ _ _ => (pg_name (i := 1) sc_is_name.nd rfl (by first | exact Or.inl rfl | exact Or.inr rfl))) (fun _ _ _ _ _ => pts_nil) (fun _ _ _ _ _ => (pe_cmpR (ka_in K) (pv 1) (pe_globE (by rfl) T.g_LETTERS) (by first | exact nomark _ | rfl)))) pa_nil))))), ?_⟩
  have w := Wd.r0 H
  rcases h with ⟨z, rfl, hz, k⟩ | ⟨⟨t, ht, hk⟩, k⟩
  · have hz' : z.length ≤ sizeLine := by rw [sizeLine_eq]; omega
    walk_at "go"
    refine g_isi (.ty _) (.base (.str z)) kit_str ?_
    walk_at "go"
    refine g_lenS hz' ?_
    walk_at "go"
    have res : isNm z = (decide (1 ≤ z.length) && decide (z.length ≤ 8) && !inV (.str z) (resv.map V.str) && lowS z) := rfl
    refine iteD (fun h1 => ?_) (fun h1 => ?_)
    · walk_at "go"
      refine iteN (fun h2 => ?_) (fun h2 => ?_)
      · walk_at "go"
        have e : isNm z = false := by
          rw [res, decide_eq_false (show ¬ z.length ≤ 8 by omega), Bool.and_false]
          rfl
        rw [← e]
        exact k H (Same.refl H)
      walk_at "go"
      refine g_inT w (T.t_RESERVED H) rfl rfl ?_
      walk_at "go"
      refine iteB (fun h3 => ?_) (fun h3 => ?_)
      · walk_at "go"
        have e : isNm z = false := by
          rw [res, show inV (.str z) (resv.map V.str) = true from h3, Bool.not_true, Bool.and_false]
          rfl
        rw [← e]
        exact k H (Same.refl H)
      walk_at "go"
      have e : isNm z = lowS z := by
        rw [res, decide_eq_true (show 1 ≤ z.length by omega), decide_eq_true (show z.length ≤ 8 by omega), show inV (.str z) (resv.map V.str) = false from h3]
        simp
      rw [e] at k
      refine ⟨z, rfl, ?_⟩
      refine lc_it itf_str w (fun _ _ => True.intro) (by rw [sizeLine_eq]; have : z.cps.size = z.length := rfl; omega) (fun i _ acc => acc = ((z.cps.toList.take i).map fun c => decide (c ∈ letters.cps.toList)).map V.bl) rfl ?_ ?_
      · rintro i x Gi acc D H2 H2' hi e nD ha hl2 w2 ⟨rfl, c, hc, rfl⟩
        walk_at "go"
        refine ⟨rfl, ?_⟩
        walk_at "go"
        refine g_inSg ?_
        refine lc_keep (Pv := fun i _ acc => acc = ((z.cps.toList.take i).map fun c => decide (c ∈ letters.cps.toList)).map V.bl) w2 e nD hl2 hi (by rw [sizeLine_eq]; have : z.cps.size = z.length := rfl; omega) ?_
        have hc' : z.cps.toList[i]? = some c := by simpa using hc
        rw [ha, List.take_add_one, hc']
        simp
        rfl
      · rintro D Gn acc H2 e nD rfl hl2 w2
        walk_at "go"
        have hlen : z.cps.size = z.cps.toList.length := by simp
        rw [hlen, List.take_length] at w2
        refine g_all w2 (SqL.of upd_same) ?_
        rw [List.all_map]
        exact k _ (Same.trans (Same.trans e (Same.newG nD)) w2.sub)
    · walk_at "go"
      have e : isNm z = false := by
        rw [res, decide_eq_false (show ¬ 1 ≤ z.length by omega)]
        rfl
      rw [← e]
      exact k H (Same.refl H)
  · walk_at "go"
    refine g_isi (.ty _) ht hk ?_
    walk_at "go"
    exact k H (Same.refl H)
end
end Sv


set_option Elab.async false
set_option linter.all false
set_option maxRecDepth 100000
set_option maxHeartbeats 4000000
namespace Sv
open PySem PySem.Spec PyProof.Rows L2 Sw
local macro_rules | `(tactic| walk_at "go1") => `(tactic| first
  | ((with_reducible refine' g_var ?hv ?_); (case hv => rfl))
  | with_reducible refine g_c ?_
  | with_reducible refine g_op ?_
  | with_reducible refine g_un ?_
  | with_reducible refine g_seq ?_
  | with_reducible refine g_next ?_
  | with_reducible refine g_asg ?_
  | with_reducible refine g_name ?_
  | with_reducible refine g_drop ?_
  | with_reducible refine g_sub ?_
  | with_reducible refine g_ret ?_
  | with_reducible refine g_retN ?_
  | with_reducible refine g_ifS ?_
  | with_reducible refine g_if ?_
  | with_reducible refine g_test ?_
  | with_reducible refine g_bl ?_
  | with_reducible refine g_cons ?_
  | with_reducible refine g_nil ?_
  | with_reducible refine g_and ?_
  | with_reducible refine g_or ?_
  | with_reducible refine g_not ?_
  | with_reducible refine g_callB ?_
  | with_reducible refine g_addI ?_
  | with_reducible refine g_I0 ?_
  | with_reducible refine g_calG ?_
  | with_reducible refine g_mkG ?_
  | with_reducible refine g_tup ?_
  | with_reducible refine g_pairs1 ?_
  | with_reducible refine g_pairs0 ?_
  | with_reducible refine g_dget ?_
  | with_reducible refine g_lvals ?_
  | with_reducible refine g_forT ?_
  | with_reducible refine g_lcT ?_
  | with_reducible refine g_dput ?_
  | with_reducible refine g_lc2L ?_
  | with_reducible refine g_iList ?_
  | with_reducible refine g_lcX ?_
  | with_reducible refine g_js1 ?_
  | with_reducible refine g_js0 ?_
  | with_reducible refine g_fmt ?_
  | with_reducible refine g_tLenSet ?_
  | with_reducible refine g_mkV ?_
  | with_reducible refine g_mkV1 ?_
  | with_reducible refine g_lst ?_
  | with_reducible refine g_forL ?_
  | with_reducible refine g_forR ?_
  | with_reducible refine g_forR2 ?_
  | with_reducible refine g_forS ?_
  | with_reducible refine g_forE ?_
  | with_reducible refine g_lcL ?_
  | with_reducible refine g_lcR ?_
  | with_reducible refine g_lcS ?_
  | with_reducible refine g_lcE ?_
  | with_reducible refine g_orT ?_
  | with_reducible refine g_slc ?_
  | with_reducible refine g_noPart ?_
  | with_reducible refine g_part ?_
  | with_reducible refine g_bm ?_
  | with_reducible refine g_par ?_
  | with_reducible refine g_yes ?_
  | with_reducible refine g_tupG ?_
  | with_reducible refine g_lstG ?_
  | with_reducible refine g_gcons ?_
  | with_reducible refine g_gnil ?_
  | with_reducible refine g_chain ?_
  | with_reducible refine g_truB ?_
  | with_reducible refine g_truN ?_
  | with_reducible refine g_truI ?_
  | with_reducible refine g_m1 ?_
  | with_reducible refine g_fld ?_
  | with_reducible refine g_con ?_
  | with_reducible refine g_tru ?_
  | with_reducible refine g_U ?_
  | with_reducible refine g_xg ?_
  | with_reducible refine g_andT ?_
  | with_reducible refine g_exI ?_
  | with_reducible refine g_dnew ?_
  | with_reducible refine g_intB ?_
  | with_reducible refine g_meth ?_
  | with_reducible refine g_prop ?_
  | with_reducible refine g_exc1 ?_
  | with_reducible refine g_setF ?_
  | with_reducible refine g_star ?_
  | with_reducible refine g_strM ?_
  | with_reducible refine iteT ?_
  | with_reducible refine iteF ?_
  | with_reducible refine iteNT ?_
  | with_reducible refine iteNF ?_)
local macro_rules | `(tactic| walk_at "go") => `(tactic| repeat (walk_at "go1"))
local macro_rules | `(tactic| walk_at "sz") => `(tactic| (first | (rw [sizeLine_eq]; simp only [List.length_cons, List.length_nil, List.length_map, List.length_append, List.length_take]; omega) | (rw [sizeLine_eq]; omega)))
/-! ### columns -/
inductive Kd where
  | int | text | ref
  deriving DecidableEq
def kcls (A : Ad) : Kd → Addr
  | .int => A.IntColumn
  | .text => A.TextColumn
  | .ref => A.RefColumn
def kstr : Kd → Str
  | .int => "int"
  | .text => "text"
  | .ref => "ref"
structure Col where
  k : Kd
  name : Str
  opt : Bool
  target : Str
  rule : Str
def optW (b : Bool) : List Str := if b = true then ["optional"] else []
def Col.words0 (c : Col) : List Str := [kstr c.k, c.name] ++ optW c.opt
def Col.words (c : Col) : List Str := if c.k = .ref then [kstr c.k, c.name, c.target] ++ optW c.opt ++ [c.rule] else c.words0
def Col.text (c : Col) : Str := Txt.join " " c.words
def Col.fs0 (c : Col) : List (Str × V) := [("name", .str c.name), ("optional", .bl c.opt)]
def Col.fs (c : Col) : List (Str × V) := if c.k = .ref then c.fs0 ++ ([("target", .str c.target), ("rule", .str c.rule)] : List (Str × V)) else c.fs0
theorem lk_ne {f g : Str} {x : V} {r : List (Str × V)} (h : (f == g) = false) : List.lookup f ((g, x) :: r) = List.lookup f r := by
  rw [List.lookup_cons, h]
theorem lk_eq {f : Str} {x : V} {r : List (Str × V)} : List.lookup f ((f, x) :: r) = some x := by
  rw [List.lookup_cons, beq_self_eq_true]
theorem Col.l_kind (c : Col) : c.fs.lookup ("KIND" : Str) = none := by
  unfold Col.fs Col.fs0
  split
  · rw [List.cons_append, List.cons_append, List.nil_append, lk_ne (by decide +kernel), lk_ne (by decide +kernel), lk_ne (by decide +kernel), lk_ne (by decide +kernel)]; rfl
  · rw [lk_ne (by decide +kernel), lk_ne (by decide +kernel)]; rfl
theorem Col.l_words (c : Col) : c.fs.lookup ("words" : Str) = none := by
  unfold Col.fs Col.fs0
  split
  · rw [List.cons_append, List.cons_append, List.nil_append, lk_ne (by decide +kernel), lk_ne (by decide +kernel), lk_ne (by decide +kernel), lk_ne (by decide +kernel)]; rfl
  · rw [lk_ne (by decide +kernel), lk_ne (by decide +kernel)]; rfl
theorem Col.l_name (c : Col) : c.fs.lookup ("name" : Str) = some (.str c.name) := by
  unfold Col.fs Col.fs0
  split <;> exact lk_eq
theorem Col.l_opt (c : Col) : c.fs.lookup ("optional" : Str) = some (.bl c.opt) := by
  unfold Col.fs Col.fs0
  split
  · rw [List.cons_append, List.cons_append, List.nil_append, lk_ne (by decide +kernel), lk_eq]
  · rw [lk_ne (by decide +kernel), lk_eq]
theorem Col.l_target (c : Col) (h : c.k = .ref) : c.fs.lookup ("target" : Str) = some (.str c.target) := by
  unfold Col.fs Col.fs0
  rw [if_pos h, List.cons_append, List.cons_append, List.nil_append, lk_ne (by decide +kernel), lk_ne (by decide +kernel), lk_eq]
theorem Col.l_rule (c : Col) (h : c.k = .ref) : c.fs.lookup ("rule" : Str) = some (.str c.rule) := by
  unfold Col.fs Col.fs0
  rw [if_pos h, List.cons_append, List.cons_append, List.nil_append, lk_ne (by decide +kernel), lk_ne (by decide +kernel), lk_ne (by decide +kernel), lk_eq]
def rules : List Str := ["restrict", "clear", "cascade"]
def ruleOk (r : Str) (o : Bool) : Bool := inV (.str r) (rules.map V.str) && !(decide (r = "clear") && !o)
def Col.ok (c : Col) : Prop := isNm c.name = true ∧ (c.k = .ref → isNm c.target = true ∧ ruleOk c.rule c.opt = true)
def ColAt (A : Ad) (G : Hp) (a : Addr) (c : Col) : Prop := ∃ dx, G a = some (.ins (kcls A c.k) dx c.fs)
theorem putF_ne {f g : Str} {v x : V} {r : List (Str × V)} (h : decide (g = f) = false) : putF f v ((g, x) :: r) = (g, x) :: putF f v r := by
  show (if g = f then (g, v) :: r else (g, x) :: putF f v r) = _
  rw [if_neg (of_decide_eq_false h)]
theorem ColAt.same {A : Ad} {G G' : Hp} {a : Addr} {c : Col} (h : ColAt A G a c) (e : Same G G') : ColAt A G' a c := ⟨_, e _ _ h.choose_spec⟩
/-- what the text says of the three classes -/
structure ColF (K : PySem.W.Frag) (A : Ad) : Prop where
  cls : ∀ k, Cls K (kcls A k)
  na : ∀ k, NoAttr K (kcls A k) "name"
  no : ∀ k, NoAttr K (kcls A k) "optional"
  nt : NoAttr K A.RefColumn "target"
  nr : NoAttr K A.RefColumn "rule"
  kd : ∀ k, ∃ u, Con K (kcls A k) "KIND" (.str (kstr k)) u
/-- a name or no text -/
def Nmb (K : PySem.W.Frag) (H : Hp) (v : V) (b : Bool) : Prop := (∃ s : Str, v = .str s ∧ s.length ≤ 1000000 ∧ b = isNm s) ∨ (NotStr K H v ∧ b = false)
theorem Nmb.same {K : PySem.W.Frag} {G H : Hp} {v : V} {b : Bool} (h : Nmb K G v b) (e : Same G H) : Nmb K H v b := by
  rcases h with ⟨s, h⟩ | ⟨⟨t, h1, h2⟩, h3⟩
  · exact .inl ⟨s, h⟩
  · exact .inr ⟨⟨t, tyX_same e h1, h2⟩, h3⟩
theorem Nmb.ins {K : PySem.W.Frag} {G : Hp} {v : V} {b : Bool} {x C dx : Addr} {fs fs' : List (Str × V)} (h : Nmb K G v b) (hx : G x = some (.ins C dx fs)) : Nmb K (upd G x (.ins C dx fs')) v b := by
  rcases h with ⟨s, h⟩ | ⟨⟨t, h1, h2⟩, h3⟩
  · exact .inl ⟨s, h⟩
  · exact .inr ⟨⟨t, tyX_ins hx h1, h2⟩, h3⟩
theorem Nmb.is {K : PySem.W.Frag} {H : Hp} {v : V} {b : Bool} {Q : VK} {E : XK} (h : Nmb K H v b) (k : ∀ H', Same H H' → Q (.bl b) H') : spIsName K [v] H Q E := by
  rcases h with ⟨s, rfl, hs, rfl⟩ | ⟨h, rfl⟩
  · exact ⟨_, rfl, .inl ⟨s, rfl, hs, k⟩⟩
  · exact ⟨_, rfl, .inr ⟨h, k⟩⟩
section
variable {P : Program} {wo : World} {A : Ad} {K : PySem.W.Frag} {mg : Str → Option Value} {base : Heap}

/-- Column.__init__: a name, or InvalidName -/
def spColInit (K : PySem.W.Frag) (A : Ad) : Sp := fun vs H Q E => ∃ G R x C dx v o b, vs = [.ref x, v, .bl o] ∧ Wd G R H ∧ G x = some (.ins C dx []) ∧ Cls K C ∧ NoAttr K C "name" ∧ NoAttr K C "optional" ∧ Nmb K G v b ∧
  (b = true → ∀ H', Wd (upd G x (.ins C dx [("name", v), ("optional", .bl o)])) R H' → Q .non H') ∧
  (b = false → ∀ d H', G d = none → Wd (upd G d (.xd [("name", v)])) R H' → E (.ref A.InvalidName) (some d) H')
theorem sc_Column___init__ : FnScope (["self", "name", "optional"] : List Str) (["self", "name", "optional"] : List Str) (defScope s_Column___init__) := ⟨rfl, rfl, rfl, by decide +kernel, rfl, by decide +kernel, by decide +kernel⟩
theorem ok_col_init {f : Addr} {fd : FuncData} (F : FunD K "__init__" "Column.__init__" (defArgs s_Column___init__) (defBody s_Column___init__) (defScope s_Column___init__) [] [("optional", .bl false)] f fd) (T : Txt K mg A)
    (Gn : GFn P wo K mg base 1 "is_name" 1 [] (fun vs _ => spIsName K vs)) (XN : Exc1 P wo K mg base "InvalidName" A.InvalidName "name") : FnOk P wo K mg base (L2.CX P wo) 3 f fd (["self", "name", "optional"] : List Str) (spColInit K A) := by
  refine okTD F sc_Column___init__ (fun vs H Q E h => ?_) (fun cdv Ar outer s H vs Q E hr tk po h => ?_)
  · obtain ⟨_, _, _, _, _, _, _, _, rfl, _⟩ := h
    rfl
  obtain ⟨G, R, x, C, dx, v, o, b, rfl, w, hx, hC, h1, h2, hn, k1, k2⟩ := h
  refine ⟨_, (pss_cons (ps_if (pt_not (kt_truth K (pe_callG Gn (hr.mono (by decide)) tk (pa_cons (pv 1) pa_nil) pk_nil) (by intro _; rfl))) (pss_one (ps_raise rfl tk (pmk_exc1 XN (hr.mono (by decide)) (pa_cons (pv 1) pa_nil)))) pss_nil)
      (pss_cons (ps_fld (pv 0) (pv 1) rfl)
      (pss_one (ps_fld (pv 0) (pv 2) rfl)))), ?_⟩
  walk_at "go"
  refine ⟨rfl, rfl, (hn.same w.sub).is fun H1 e1 => ?_⟩
  have w1 := w.same e1
  walk_at "go"
  refine iteBN (fun e => ?_) (fun e => ?_)
  · subst e
    walk_at "go"
    exact ⟨v, rfl, fun d hd => k2 rfl d _ (w1.free hd) (w1.new hd)⟩
  · subst e
    walk_at "go"
    refine g_sf w1 hx hC h1 (show 0 < 1000 by decide) fun H2 w2 => ?_
    rw [putF_nil] at w2
    walk_at "go"
    refine g_sf w2 upd_same hC h2 (show 1 < 1000 by decide) fun H3 w3 => ?_
    rw [upd_upd, putF_ne (by decide +kernel), putF_nil] at w3
    exact k1 rfl _ w3

def spWords0 (A : Ad) : Sp := fun vs H Q _ => ∃ G R x c, vs = [.ref x] ∧ Wd G R H ∧ ColAt A G x c ∧ ∀ p H', G p = none → Wd (upd G p (.lst (c.words0.map V.str))) R H' → Q (.ref p) H'
theorem sc_Column_words : FnScope (["self"] : List Str) (["self"] : List Str) (defScope s_Column_words) := ⟨rfl, rfl, rfl, by decide +kernel, rfl, by decide +kernel, by decide +kernel⟩
theorem ok_words0 {f : Addr} {fd : FuncData} (F : Fun K "words" "Column.words" s_Column_words f fd) (T : Txt K mg A) (CF : ColF K A) : FnOk P wo K mg base (L2.CX P wo) 1 f fd (["self"] : List Str) (spWords0 A) := by
  refine okT F sc_Column_words (fun vs H Q E h => ?_) (fun cdv Ar outer s H vs Q E hr tk po h => ?_)
  · obtain ⟨_, _, _, _, rfl, _⟩ := h
    rfl
  obtain ⟨G, R, x, c, rfl, w, ⟨dx, hx⟩, k⟩ := h
  obtain ⟨u, hu⟩ := CF.kd c.k
  have l0 := c.l_kind
  have l1 := c.l_name
  have l2 := c.l_opt
  refine ⟨_, (pss_one (ps_ret (pe_op (ka_add K) (pe_lst (pa_cons (ke_con K (pv 0) rfl) (pa_cons (ke_fld K (pv 0) rfl) pa_nil))) (pe_ifExp (kt_truth K (ke_fld K (pv 0) rfl) (by intro _; rfl)) (pe_lst (pa_cons pe_str pa_nil)) (pe_lst pa_nil))))), ?_⟩
  walk_at "go"
  refine g_gc w hx (CF.cls _) hu l0 ?_
  walk_at "go"
  refine g_gf w hx (CF.cls _) (CF.na _) l1 ?_
  walk_at "go"
  refine g_newL w (by walk_at "sz") fun p1 H1 n1 w1 => ?_
  walk_at "go"
  refine g_gf w1 (upd_old hx n1) (CF.cls _) (CF.no _) l2 ?_
  walk_at "go"
  refine iteB (fun e => ?_) (fun e => ?_)
  · walk_at "go"
    refine g_newL w1 (by walk_at "sz") fun p2 H2 n2 w2 => ?_
    refine g_addL w2 (upd_old upd_same n2) upd_same (by walk_at "sz") fun p3 H3 n3 w3 => ?_
    refine k p3 H3 (upd_nonne (upd_nonne n3).1).1 ?_
    have ew : c.words0.map V.str = [V.str (kstr c.k), V.str c.name] ++ [V.str "optional"] := by
      unfold Col.words0 optW
      rw [e]
      rfl
    rw [ew]
    exact w3.drop (Same.upd2 (Same.trans (Same.newG n1) (Same.newG n2)))
  · walk_at "go"
    refine g_newL w1 (by walk_at "sz") fun p2 H2 n2 w2 => ?_
    refine g_addL w2 (upd_old upd_same n2) upd_same (by walk_at "sz") fun p3 H3 n3 w3 => ?_
    refine k p3 H3 (upd_nonne (upd_nonne n3).1).1 ?_
    have ew : c.words0.map V.str = [V.str (kstr c.k), V.str c.name] ++ [] := by
      unfold Col.words0 optW
      rw [e]
      rfl
    rw [ew]
    exact w3.drop (Same.upd2 (Same.trans (Same.newG n1) (Same.newG n2)))
end
end Sv


set_option Elab.async false
set_option linter.all false
set_option maxRecDepth 100000
set_option maxHeartbeats 4000000
namespace Sv
open PySem PySem.Spec PyProof.Rows L2 Sw
local macro_rules | `(tactic| walk_at "go1") => `(tactic| first
  | ((with_reducible refine' g_var ?hv ?_); (case hv => rfl))
  | with_reducible refine g_c ?_
  | with_reducible refine g_op ?_
  | with_reducible refine g_un ?_
  | with_reducible refine g_seq ?_
  | with_reducible refine g_next ?_
  | with_reducible refine g_asg ?_
  | with_reducible refine g_name ?_
  | with_reducible refine g_drop ?_
  | with_reducible refine g_sub ?_
  | with_reducible refine g_ret ?_
  | with_reducible refine g_retN ?_
  | with_reducible refine g_ifS ?_
  | with_reducible refine g_if ?_
  | with_reducible refine g_test ?_
  | with_reducible refine g_bl ?_
  | with_reducible refine g_cons ?_
  | with_reducible refine g_nil ?_
  | with_reducible refine g_and ?_
  | with_reducible refine g_or ?_
  | with_reducible refine g_not ?_
  | with_reducible refine g_callB ?_
  | with_reducible refine g_addI ?_
  | with_reducible refine g_I0 ?_
  | with_reducible refine g_calG ?_
  | with_reducible refine g_mkG ?_
  | with_reducible refine g_tup ?_
  | with_reducible refine g_pairs1 ?_
  | with_reducible refine g_pairs0 ?_
  | with_reducible refine g_dget ?_
  | with_reducible refine g_lvals ?_
  | with_reducible refine g_forT ?_
  | with_reducible refine g_lcT ?_
  | with_reducible refine g_dput ?_
  | with_reducible refine g_lc2L ?_
  | with_reducible refine g_iList ?_
  | with_reducible refine g_lcX ?_
  | with_reducible refine g_js1 ?_
  | with_reducible refine g_js0 ?_
  | with_reducible refine g_fmt ?_
  | with_reducible refine g_tLenSet ?_
  | with_reducible refine g_mkV ?_
  | with_reducible refine g_mkV1 ?_
  | with_reducible refine g_lst ?_
  | with_reducible refine g_forL ?_
  | with_reducible refine g_forR ?_
  | with_reducible refine g_forR2 ?_
  | with_reducible refine g_forS ?_
  | with_reducible refine g_forE ?_
  | with_reducible refine g_lcL ?_
  | with_reducible refine g_lcR ?_
  | with_reducible refine g_lcS ?_
  | with_reducible refine g_lcE ?_
  | with_reducible refine g_orT ?_
  | with_reducible refine g_slc ?_
  | with_reducible refine g_noPart ?_
  | with_reducible refine g_part ?_
  | with_reducible refine g_bm ?_
  | with_reducible refine g_par ?_
  | with_reducible refine g_yes ?_
  | with_reducible refine g_tupG ?_
  | with_reducible refine g_lstG ?_
  | with_reducible refine g_gcons ?_
  | with_reducible refine g_gnil ?_
  | with_reducible refine g_chain ?_
  | with_reducible refine g_truB ?_
  | with_reducible refine g_truN ?_
  | with_reducible refine g_truI ?_
  | with_reducible refine g_m1 ?_
  | with_reducible refine g_fld ?_
  | with_reducible refine g_con ?_
  | with_reducible refine g_tru ?_
  | with_reducible refine g_U ?_
  | with_reducible refine g_xg ?_
  | with_reducible refine g_andT ?_
  | with_reducible refine g_exI ?_
  | with_reducible refine g_dnew ?_
  | with_reducible refine g_intB ?_
  | with_reducible refine g_meth ?_
  | with_reducible refine g_prop ?_
  | with_reducible refine g_exc1 ?_
  | with_reducible refine g_setF ?_
  | with_reducible refine g_star ?_
  | with_reducible refine g_strM ?_
  | with_reducible refine iteT ?_
  | with_reducible refine iteF ?_
  | with_reducible refine iteNT ?_
  | with_reducible refine iteNF ?_)
local macro_rules | `(tactic| walk_at "go") => `(tactic| repeat (walk_at "go1"))
local macro_rules | `(tactic| walk_at "sz") => `(tactic| (first | (rw [sizeLine_eq]; simp only [List.length_cons, List.length_nil, List.length_map, List.length_append, List.length_take]; omega) | (rw [sizeLine_eq]; omega)))
section
variable {P : Program} {wo : World} {A : Ad} {K : PySem.W.Frag} {mg : Str → Option Value} {base : Heap}

/-- is the rule accepted, whatever value it is -/
def Rmb (K : PySem.W.Frag) (H : Hp) (v : V) (o : Bool) (b : Bool) : Prop := (∃ s : Str, v = .str s ∧ b = ruleOk s o) ∨ (NotStr K H v ∧ b = false)
theorem Rmb.same {G H : Hp} {v : V} {o b : Bool} (h : Rmb K G v o b) (e : Same G H) : Rmb K H v o b := by
  rcases h with ⟨s, h⟩ | ⟨⟨t, h1, h2⟩, h3⟩
  · exact .inl ⟨s, h⟩
  · exact .inr ⟨⟨t, tyX_same e h1, h2⟩, h3⟩
theorem Rmb.ins {G : Hp} {v : V} {o b : Bool} {x C dx : Addr} {fs fs' : List (Str × V)} (h : Rmb K G v o b) (hx : G x = some (.ins C dx fs)) : Rmb K (upd G x (.ins C dx fs')) v o b := by
  rcases h with ⟨s, h⟩ | ⟨⟨t, h1, h2⟩, h3⟩
  · exact .inl ⟨s, h⟩
  · exact .inr ⟨⟨t, tyX_ins hx h1, h2⟩, h3⟩
/-- RefColumn.__init__ -/
def spRefInit (K : PySem.W.Frag) (A : Ad) : Sp := fun vs H Q E => ∃ G R x dx v t o r b1 b2 b3, vs = [.ref x, v, t, .bl o, r] ∧ Wd G R H ∧ G x = some (.ins A.RefColumn dx []) ∧ Nmb K G v b1 ∧ Nmb K G t b2 ∧ Rmb K G r o b3 ∧
  (b1 = true → b2 = true → b3 = true → ∀ H', Wd (upd G x (.ins A.RefColumn dx [("name", v), ("optional", .bl o), ("target", t), ("rule", r)])) R H' → Q .non H') ∧
  (b1 = false → ∀ d H', G d = none → Wd (upd G d (.xd [("name", v)])) R H' → E (.ref A.InvalidName) (some d) H') ∧
  (b1 = true → b2 = false → ∀ d H', G d = none → Wd (upd (upd G x (.ins A.RefColumn dx [("name", v), ("optional", .bl o)])) d (.xd [("name", t)])) R H' → E (.ref A.InvalidName) (some d) H') ∧
  (b1 = true → b2 = true → b3 = false → ∀ d H', G d = none → Wd (upd (upd G x (.ins A.RefColumn dx [("name", v), ("optional", .bl o)])) d (.xd [("name", v)])) R H' → E (.ref A.InvalidColumn) (some d) H')
theorem sc_RefColumn___init__ : Sw.SScope (["self", "name", "target", "optional", "rule"] : List Str) (["self", "name", "target", "optional", "rule"] : List Str) (defScope s_RefColumn___init__) := ⟨rfl, rfl, rfl, by decide +kernel, rfl, by decide +kernel, by decide +kernel, by decide +kernel⟩
theorem ok_ref_init {f cc cda : Addr} {fd : FuncData} (F : FunS P K "__init__" "RefColumn.__init__" s_RefColumn___init__ f cc A.RefColumn cda fd) (U : SupTop P mg) (T : Txt K mg A) (CF : ColF K A)
    (Gn : GFn P wo K mg base 1 "is_name" 1 [] (fun vs _ => spIsName K vs)) (XN : Exc1 P wo K mg base "InvalidName" A.InvalidName "name") (XC : Exc1 P wo K mg base "InvalidColumn" A.InvalidColumn "name")
    {g : Addr} (M_init : SupM K A.RefColumn A.RefColumn "__init__" g) (C_init : Cal P wo K mg base 3 g 2 ["optional"] (fun vs zs => spColInit K A (vs ++ zs))) : FnOk P wo K mg base (L2.CX P wo) 4 f fd (["self", "name", "target", "optional", "rule"] : List Str) (spRefInit K A) := by
  refine F.ok sc_RefColumn___init__ U rfl rfl ⟨_, rfl, rfl, rfl⟩ (fun vs H Q E h => ?_) (fun Ar outer s H vs Q E hr Z tk h => ?_)
  · obtain ⟨_, _, _, _, _, _, _, _, _, _, _, rfl, _⟩ := h
    rfl
  obtain ⟨G, R, x, dx, v, t, o, r, b1, b2, b3, rfl, w, hx, hv, ht, hrr, k1, k2, k3, k4⟩ := h
  refine ⟨_, (PSst.cons (pst_expr (pet_sup Z M_init C_init (hr.mono (by decide)) tk (pa_cons (pv 1) pa_nil) (pk_cons (pv 3) pk_nil)) rfl) (PSst.of (pss_cons (ps_if (pt_not (kt_truth K (pe_callG Gn (hr.mono (by decide)) tk (pa_cons (pv 2) pa_nil) pk_nil) (by intro _; rfl))) (pss_one (ps_raise rfl tk (pmk_exc1 XN (hr.mono (by decide)) (pa_cons (pv 2) pa_nil)))) pss_nil)
      (pss_cons (ps_if (PW.pt (pw_or (pt_not (kt_truth K (pe_callB (ka_isi K) (by rfl) T.nb_isinstance (by decide +kernel) (pa_cons (pv 4) (pa_cons (pe_bltn (v := .ty "str") (u := .type "str") (by rfl) T.nb_str (by decide +kernel) rfl) pa_nil))) (by intro _; rfl))) (pw_or (pt_cmpR (ka_ni K) (pv 4) (pe_globE (by rfl) T.g_RULES) (by first | exact nomark _ | rfl)) (pw_or1 (PW.pt (pw_and (pt_cmpR (ka_eq K hr.units) (pv 4) pe_str (nomark _)) (pw_and1 (pt_not (kt_truth K (pv 3) (by intro _; rfl)))))))))) (pss_one (ps_raise rfl tk (pmk_exc1 XC (hr.mono (by decide)) (pa_cons (pv 1) pa_nil)))) pss_nil)
      (pss_cons (ps_fld (pv 0) (pv 2) rfl)
      (pss_one (ps_fld (pv 0) (pv 4) rfl))))))), ?_⟩
  walk_at "go"
  refine ⟨x, dx, [], rfl, w.get hx, ?_⟩
  walk_at "go"
  refine ⟨rfl, rfl, G, R, x, _, dx, v, o, b1, rfl, w, hx, CF.cls .ref, CF.na .ref, CF.no .ref, hv, fun e1 H1 w1 => ?_, fun e1 d H1 n1 w1 => k2 e1 d H1 n1 w1⟩
  walk_at "go"
  refine ⟨rfl, rfl, ((ht.ins hx).same w1.sub).is fun H2 s2 => ?_⟩
  have w2 := w1.same s2
  walk_at "go"
  refine iteBN (fun e2 => ?_) (fun e2 => ?_)
  · walk_at "go"
    exact ⟨t, rfl, fun d hd => k3 e1 e2 d _ (upd_nonne (w2.free hd)).1 (w2.new (o := .xd [("name", t)]) hd)⟩
  have rr := (hrr.ins (fs' := [("name", v), ("optional", .bl o)]) hx).same w2.sub
  have bad : b3 = false → ∀ d, H2 d = none → E (.ref A.InvalidColumn) (some d) (upd H2 d (.xd [("name", v)])) := fun e3 d hd => k4 e1 e2 e3 d _ (upd_nonne (w2.free hd)).1 (w2.new hd)
  walk_at "go"
  rcases rr with ⟨z, rfl, e3⟩ | ⟨⟨ty, ht1, ht2⟩, e3⟩
  · refine g_isi (.ty _) (.base (.str z)) kit_str ?_
    walk_at "go"
    refine g_niT w2 (T.t_RULES _) rfl rfl ?_
    walk_at "go"
    refine iteBN (fun h3 => ?_) (fun h3 => ?_)
    · walk_at "go"
      refine ⟨v, rfl, fun d hd => bad ?_ d hd⟩
      rw [e3]
      unfold ruleOk
      rw [show inV (.str z) (rules.map V.str) = false from h3]
      rfl
    have h3' : inV (.str z) (rules.map V.str) = true := h3
    walk_at "go"
    refine g_eqS rfl ?_
    walk_at "go"
    refine iteD (fun h4 => ?_) (fun h4 => ?_)
    · walk_at "go"
      have h4' : z = "clear" := V.str.inj h4
      cases o with
      | false =>
        walk_at "go"
        refine ⟨v, rfl, fun d hd => bad ?_ d hd⟩
        rw [e3]
        unfold ruleOk
        rw [h3', decide_eq_true h4']
        rfl
      | true =>
        walk_at "go"
        refine g_sf w2 upd_same (CF.cls .ref) CF.nt (show 2 < 1000 by decide) fun H3 w3 => ?_
        rw [putF_ne (by decide +kernel), putF_ne (by decide +kernel), putF_nil, upd_upd] at w3
        walk_at "go"
        refine g_sf w3 upd_same (CF.cls .ref) CF.nr (show 3 < 1000 by decide) fun H4 w4 => ?_
        rw [putF_ne (by decide +kernel), putF_ne (by decide +kernel), putF_ne (by decide +kernel), putF_nil, upd_upd] at w4
        refine k1 e1 e2 ?_ _ w4
        rw [e3]
        unfold ruleOk
        rw [h3']
        simp
    · walk_at "go"
      refine g_sf w2 upd_same (CF.cls .ref) CF.nt (show 2 < 1000 by decide) fun H3 w3 => ?_
      rw [putF_ne (by decide +kernel), putF_ne (by decide +kernel), putF_nil, upd_upd] at w3
      walk_at "go"
      refine g_sf w3 upd_same (CF.cls .ref) CF.nr (show 3 < 1000 by decide) fun H4 w4 => ?_
      rw [putF_ne (by decide +kernel), putF_ne (by decide +kernel), putF_ne (by decide +kernel), putF_nil, upd_upd] at w4
      refine k1 e1 e2 ?_ _ w4
      rw [e3]
      unfold ruleOk
      rw [h3', decide_eq_false (fun q => h4 (congrArg V.str q))]
      rfl
  · refine g_isi (.ty _) ht1 ht2 ?_
    walk_at "go"
    exact ⟨v, rfl, fun d hd => bad e3 d hd⟩
end
end Sv


set_option Elab.async false
set_option linter.all false
set_option maxRecDepth 100000
set_option maxHeartbeats 4000000
namespace Sv
open PySem PySem.Spec PyProof.Rows L2 Sw
local macro_rules | `(tactic| walk_at "go1") => `(tactic| first
  | ((with_reducible refine' g_var ?hv ?_); (case hv => rfl))
  | with_reducible refine g_c ?_
  | with_reducible refine g_op ?_
  | with_reducible refine g_un ?_
  | with_reducible refine g_seq ?_
  | with_reducible refine g_next ?_
  | with_reducible refine g_asg ?_
  | with_reducible refine g_name ?_
  | with_reducible refine g_drop ?_
  | with_reducible refine g_sub ?_
  | with_reducible refine g_ret ?_
  | with_reducible refine g_retN ?_
  | with_reducible refine g_ifS ?_
  | with_reducible refine g_if ?_
  | with_reducible refine g_test ?_
  | with_reducible refine g_bl ?_
  | with_reducible refine g_cons ?_
  | with_reducible refine g_nil ?_
  | with_reducible refine g_and ?_
  | with_reducible refine g_or ?_
  | with_reducible refine g_not ?_
  | with_reducible refine g_callB ?_
  | with_reducible refine g_addI ?_
  | with_reducible refine g_I0 ?_
  | with_reducible refine g_calG ?_
  | with_reducible refine g_mkG ?_
  | with_reducible refine g_tup ?_
  | with_reducible refine g_pairs1 ?_
  | with_reducible refine g_pairs0 ?_
  | with_reducible refine g_dget ?_
  | with_reducible refine g_lvals ?_
  | with_reducible refine g_forT ?_
  | with_reducible refine g_lcT ?_
  | with_reducible refine g_dput ?_
  | with_reducible refine g_lc2L ?_
  | with_reducible refine g_iList ?_
  | with_reducible refine g_lcX ?_
  | with_reducible refine g_js1 ?_
  | with_reducible refine g_js0 ?_
  | with_reducible refine g_fmt ?_
  | with_reducible refine g_tLenSet ?_
  | with_reducible refine g_mkV ?_
  | with_reducible refine g_mkV1 ?_
  | with_reducible refine g_lst ?_
  | with_reducible refine g_forL ?_
  | with_reducible refine g_forR ?_
  | with_reducible refine g_forR2 ?_
  | with_reducible refine g_forS ?_
  | with_reducible refine g_forE ?_
  | with_reducible refine g_lcL ?_
  | with_reducible refine g_lcR ?_
  | with_reducible refine g_lcS ?_
  | with_reducible refine g_lcE ?_
  | with_reducible refine g_orT ?_
  | with_reducible refine g_slc ?_
  | with_reducible refine g_noPart ?_
  | with_reducible refine g_part ?_
  | with_reducible refine g_bm ?_
  | with_reducible refine g_par ?_
  | with_reducible refine g_yes ?_
  | with_reducible refine g_tupG ?_
  | with_reducible refine g_lstG ?_
  | with_reducible refine g_gcons ?_
  | with_reducible refine g_gnil ?_
  | with_reducible refine g_chain ?_
  | with_reducible refine g_truB ?_
  | with_reducible refine g_truN ?_
  | with_reducible refine g_truI ?_
  | with_reducible refine g_m1 ?_
  | with_reducible refine g_fld ?_
  | with_reducible refine g_con ?_
  | with_reducible refine g_tru ?_
  | with_reducible refine g_U ?_
  | with_reducible refine g_xg ?_
  | with_reducible refine g_andT ?_
  | with_reducible refine g_exI ?_
  | with_reducible refine g_dnew ?_
  | with_reducible refine g_intB ?_
  | with_reducible refine g_meth ?_
  | with_reducible refine g_prop ?_
  | with_reducible refine g_exc1 ?_
  | with_reducible refine g_setF ?_
  | with_reducible refine g_star ?_
  | with_reducible refine g_strM ?_
  | with_reducible refine iteT ?_
  | with_reducible refine iteF ?_
  | with_reducible refine iteNT ?_
  | with_reducible refine iteNF ?_)
local macro_rules | `(tactic| walk_at "go") => `(tactic| repeat (walk_at "go1"))
local macro_rules | `(tactic| walk_at "sz") => `(tactic| (first | (rw [sizeLine_eq]; simp only [List.length_cons, List.length_nil, List.length_map, List.length_append, List.length_take]; omega) | (rw [sizeLine_eq]; omega)))
section
variable {P : Program} {wo : World} {A : Ad} {K : PySem.W.Frag} {mg : Str → Option Value} {base : Heap}

def spWords (A : Ad) : Sp := fun vs H Q _ => ∃ G R x c, vs = [.ref x] ∧ Wd G R H ∧ ColAt A G x c ∧ ∀ p H', G p = none → Wd (upd G p (.lst (c.words.map V.str))) R H' → Q (.ref p) H'
theorem sc_RefColumn_words : Sw.SScope (["self", "first", "name", "rest"] : List Str) (["self"] : List Str) (defScope s_RefColumn_words) := ⟨rfl, rfl, rfl, by decide +kernel, rfl, by decide +kernel, by decide +kernel, by decide +kernel⟩
theorem ok_ref_words {f cc cda : Addr} {fd : FuncData} (F : FunS P K "words" "RefColumn.words" s_RefColumn_words f cc A.RefColumn cda fd) (U : SupTop P mg) (T : Txt K mg A) (CF : ColF K A)
    {g : Addr} (M_words : SupM K A.RefColumn A.RefColumn "words" g) (C_words : Cal P wo K mg base 1 g 1 [] (fun vs _ => spWords0 A vs)) : FnOk P wo K mg base (L2.CX P wo) 2 f fd (["self"] : List Str) (fun vs H Q E => (∃ G R x c, vs = [.ref x] ∧ Wd G R H ∧ ColAt A G x c ∧ c.k = .ref ∧ ∀ p H', G p = none → Wd (upd G p (.lst (c.words.map V.str))) R H' → Q (.ref p) H')) := by
  refine F.ok sc_RefColumn_words U rfl rfl ⟨_, rfl, rfl, rfl⟩ (fun vs H Q E h => ?_) (fun Ar outer s H vs Q E hr Z tk h => ?_)
  · obtain ⟨_, _, _, _, rfl, _⟩ := h
    rfl
  obtain ⟨G, R, x, c, rfl, w, ⟨dx, hx⟩, ck, k⟩ := h
  refine ⟨_, (PSst.cons (pst_asg (pet_sup0 Z M_words C_words (hr.mono (by decide)) tk pk_nil) (kg_starL (n := 3) (i := 2) K rfl (pgs_cons (pg_name (i := 1) sc_RefColumn_words.nd rfl (by first | exact Or.inl rfl | exact Or.inr rfl)) (pgs_cons (pg_name (i := 2) sc_RefColumn_words.nd rfl (by first | exact Or.inl rfl | exact Or.inr rfl)) (pgs_star (pg_name (i := 3) sc_RefColumn_words.nd rfl (by first | exact Or.inl rfl | exact Or.inr rfl)) pgs_nil))) (by decide))) (PSst.of (pss_one (ps_ret (pe_lst (pa_cons (pv 1) (pa_cons (pv 2) (pa_cons (ke_fld K (pv 0) rfl) (kp_star K (pv 3) (pa_cons (ke_fld K (pv 0) rfl) pa_nil)))))))))), ?_⟩
  have hx' : G x = some (.ins A.RefColumn dx c.fs) := by rw [hx, ck]; rfl
  have ew : c.words = [kstr c.k, c.name, c.target] ++ optW c.opt ++ [c.rule] := by
    unfold Col.words
    rw [if_pos ck]
  have l1 := c.l_target ck
  have l2 := c.l_rule ck
  walk_at "go"
  refine ⟨x, dx, c.fs, rfl, w.get hx', ?_⟩
  walk_at "go"
  refine ⟨rfl, rfl, G, R, x, c, rfl, w, ⟨dx, hx⟩, fun p H1 n1 w1 => ?_⟩
  have lw : (c.words0.map V.str).length = 2 + (optW c.opt).length := by
    unfold Col.words0
    rw [List.length_map, List.length_append]
    rfl
  have lo : (optW c.opt).length ≤ 1 := by
    unfold optW
    split <;> decide
  refine ⟨p, _, rfl, SqL.of (w1.get upd_same), by rw [lw]; omega, by rw [lw]; omega, fun q hq => ?_⟩
  have nq := w1.free hq
  have w2 := w1.new (o := .lst (((c.words0.map V.str).drop 2).take ((c.words0.map V.str).length + 1 - 3))) hq
  have e1 : (c.words0.map V.str).take 2 = [V.str (kstr c.k), V.str c.name] := rfl
  have e2 : (c.words0.map V.str).drop 2 = (optW c.opt).map V.str := rfl
  have e3 : ((optW c.opt).map V.str).take ((c.words0.map V.str).length + 1 - 3) = (optW c.opt).map V.str := List.take_of_length_le (by rw [List.length_map, lw]; omega)
  have e4 : ((optW c.opt).map V.str).drop ((c.words0.map V.str).length + 1 - 3) = [] := List.drop_of_length_le (by rw [List.length_map, lw]; omega)
  rw [e2, e3] at w2
  rw [e1, e2, e4, e3]
  show gCons _ _ [V.str (kstr c.k), V.str c.name, V.ref q] _ _ _
  generalize upd H1 q _ = H2 at *
  walk_at "go"
  refine g_gf w2 (upd_old (upd_old hx' n1) nq) (CF.cls .ref) CF.nt l1 ?_
  walk_at "go"
  refine ⟨q, _, rfl, .inr (SqL.of (w2.get upd_same)), ?_⟩
  walk_at "go"
  refine g_gf w2 (upd_old (upd_old hx' n1) nq) (CF.cls .ref) CF.nr l2 ?_
  walk_at "go"
  refine g_newL w2 (by rw [sizeLine_eq]; simp only [List.length_cons, List.length_append, List.length_map, List.length_nil]; omega) fun p3 H3 n3 w3 => ?_
  refine k p3 H3 (upd_nonne (upd_nonne n3).1).1 ?_
  have ev : c.words.map V.str = V.str (kstr c.k) :: V.str c.name :: V.str c.target :: ((optW c.opt).map V.str ++ [V.str c.rule]) := by
    rw [ew]
    simp
  rw [ev]
  exact w3.drop (Same.upd2 (Same.trans (Same.newG n1) (Same.newG nq)))

/-! ### column.text -/
theorem isNm_len {s : Str} (h : isNm s = true) : s.length ≤ 8 := by
  unfold isNm at h
  simp only [Bool.and_eq_true, decide_eq_true_eq] at h
  exact h.1.1.2
theorem eqV_str (a b : Str) : eqV (.str a) (.str b) = decide (a = b) := by
  show (a == b) = decide (a = b)
  exact Bool.eq_iff_iff.mpr (by rw [beq_iff_eq, decide_eq_true_eq])
theorem inV_str (s : Str) (l : List Str) : inV (.str s) (l.map V.str) = decide (s ∈ l) := by
  unfold inV
  induction l with
  | nil => rfl
  | cons y r ih =>
    rw [List.map_cons, List.any_cons, ih, eqV_str]
    by_cases h : y = s
    · subst h
      simp
    · have : ¬ s = y := fun z => h z.symm
      simp [h, this]
theorem ruleOk_mem {r : Str} {o : Bool} (h : ruleOk r o = true) : r = "restrict" ∨ r = "clear" ∨ r = "cascade" := by
  unfold ruleOk at h
  have := (Bool.and_eq_true_iff.mp h).1
  rw [inV_str, decide_eq_true_eq] at this
  simpa [rules] using this
theorem Col.text_len {c : Col} (h : c.ok) : (c.words.map (·.length)).sum + c.words.length * 1 ≤ 64 := by
  have hn := isNm_len h.1
  have hk : (kstr c.k).length ≤ 4 := by
    cases c.k <;> decide
  have ho : ((optW c.opt).map (·.length)).sum ≤ 8 := by
    unfold optW
    split <;> decide
  have ho2 : (optW c.opt).length ≤ 1 := by
    unfold optW
    split <;> decide
  unfold Col.words
  split
  · rename_i e
    obtain ⟨h2, h3⟩ := h.2 e
    have ht := isNm_len h2
    have hr : c.rule.length ≤ 8 := by
      rcases ruleOk_mem h3 with e | e | e <;> rw [e] <;> decide
    simp only [List.map_append, List.map_cons, List.map_nil, List.sum_append, List.sum_cons, List.sum_nil, List.length_append, List.length_cons, List.length_nil]
    omega
  · unfold Col.words0
    simp only [List.map_append, List.map_cons, List.map_nil, List.sum_append, List.sum_cons, List.sum_nil, List.length_append, List.length_cons, List.length_nil]
    omega
def spText (A : Ad) : Sp := fun vs H Q _ => ∃ G R x c, vs = [.ref x] ∧ Wd G R H ∧ ColAt A G x c ∧ c.ok ∧ ∀ H', Wd G R H' → Q (.str c.text) H'
theorem sc_Column_text : FnScope (["self"] : List Str) (["self"] : List Str) (defScope s_Column_text) := ⟨rfl, rfl, rfl, by decide +kernel, rfl, by decide +kernel, by decide +kernel⟩
theorem ok_text {f : Addr} {fd : FuncData} (F : Fun K "text" "Column.text" s_Column_text f fd) (T : Txt K mg A) (MW : ∀ k, GMt P wo K mg base 2 (kcls A k) "words" 0 [] (fun vs _ H Q E => ∃ G R x c, vs = [.ref x] ∧ Wd G R H ∧ ColAt A G x c ∧ c.k = k ∧ ∀ p H', G p = none → Wd (upd G p (.lst (c.words.map V.str))) R H' → Q (.ref p) H')) : FnOk P wo K mg base (L2.CX P wo) 3 f fd (["self"] : List Str) (spText A) := by
  refine okT F sc_Column_text (fun vs H Q E h => ?_) (fun cdv Ar outer s H vs Q E hr tk po h => ?_)
  · obtain ⟨_, _, _, _, rfl, _⟩ := h
    rfl
  obtain ⟨G, R, x, c, rfl, w, ⟨dx, hx⟩, ok, k⟩ := h
  refine ⟨_, (pss_one (ps_ret (ke_join K pe_str (kp_meth0 (k := 2) (n := 0) P wo K mg base (pv 0) (hr.mono (by decide)) tk pk_nil)))), ?_⟩
  walk_at "go"
  refine ⟨x, kcls A c.k, dx, c.fs, _, rfl, w.get hx, c.l_words, MW c.k, ?_⟩
  walk_at "go"
  refine ⟨rfl, rfl, G, R, x, c, rfl, w, ⟨dx, hx⟩, rfl, fun p H1 n1 w1 => ?_⟩
  have hz := Col.text_len ok
  refine g_join w1 (SqL.of upd_same) (Nat.le_trans (show _ ≤ 64 from hz) (by decide)) ?_
  exact k _ (w1.drop (Same.newG n1))
end
end Sv


set_option Elab.async false
set_option linter.all false
set_option maxRecDepth 100000
set_option maxHeartbeats 4000000
namespace Sv
open PySem PySem.Spec PyProof.Rows L2 Sw
local macro_rules | `(tactic| walk_at "go1") => `(tactic| first
  | ((with_reducible refine' g_var ?hv ?_); (case hv => rfl))
  | with_reducible refine g_c ?_
  | with_reducible refine g_op ?_
  | with_reducible refine g_un ?_
  | with_reducible refine g_seq ?_
  | with_reducible refine g_next ?_
  | with_reducible refine g_asg ?_
  | with_reducible refine g_name ?_
  | with_reducible refine g_drop ?_
  | with_reducible refine g_sub ?_
  | with_reducible refine g_ret ?_
  | with_reducible refine g_retN ?_
  | with_reducible refine g_ifS ?_
  | with_reducible refine g_if ?_
  | with_reducible refine g_test ?_
  | with_reducible refine g_bl ?_
  | with_reducible refine g_cons ?_
  | with_reducible refine g_nil ?_
  | with_reducible refine g_and ?_
  | with_reducible refine g_or ?_
  | with_reducible refine g_not ?_
  | with_reducible refine g_callB ?_
  | with_reducible refine g_addI ?_
  | with_reducible refine g_I0 ?_
  | with_reducible refine g_calG ?_
  | with_reducible refine g_mkG ?_
  | with_reducible refine g_tup ?_
  | with_reducible refine g_pairs1 ?_
  | with_reducible refine g_pairs0 ?_
  | with_reducible refine g_dget ?_
  | with_reducible refine g_lvals ?_
  | with_reducible refine g_forT ?_
  | with_reducible refine g_lcT ?_
  | with_reducible refine g_dput ?_
  | with_reducible refine g_lc2L ?_
  | with_reducible refine g_iList ?_
  | with_reducible refine g_lcX ?_
  | with_reducible refine g_js1 ?_
  | with_reducible refine g_js0 ?_
  | with_reducible refine g_fmt ?_
  | with_reducible refine g_tLenSet ?_
  | with_reducible refine g_mkV ?_
  | with_reducible refine g_mkV1 ?_
  | with_reducible refine g_lst ?_
  | with_reducible refine g_forL ?_
  | with_reducible refine g_forR ?_
  | with_reducible refine g_forR2 ?_
  | with_reducible refine g_forS ?_
  | with_reducible refine g_forE ?_
  | with_reducible refine g_lcL ?_
  | with_reducible refine g_lcR ?_
  | with_reducible refine g_lcS ?_
  | with_reducible refine g_lcE ?_
  | with_reducible refine g_orT ?_
  | with_reducible refine g_slc ?_
  | with_reducible refine g_noPart ?_
  | with_reducible refine g_part ?_
  | with_reducible refine g_bm ?_
  | with_reducible refine g_par ?_
  | with_reducible refine g_yes ?_
  | with_reducible refine g_tupG ?_
  | with_reducible refine g_lstG ?_
  | with_reducible refine g_gcons ?_
  | with_reducible refine g_gnil ?_
  | with_reducible refine g_chain ?_
  | with_reducible refine g_truB ?_
  | with_reducible refine g_truN ?_
  | with_reducible refine g_truI ?_
  | with_reducible refine g_m1 ?_
  | with_reducible refine g_fld ?_
  | with_reducible refine g_con ?_
  | with_reducible refine g_tru ?_
  | with_reducible refine g_U ?_
  | with_reducible refine g_xg ?_
  | with_reducible refine g_andT ?_
  | with_reducible refine g_exI ?_
  | with_reducible refine g_dnew ?_
  | with_reducible refine g_intB ?_
  | with_reducible refine g_meth ?_
  | with_reducible refine g_prop ?_
  | with_reducible refine g_exc1 ?_
  | with_reducible refine g_setF ?_
  | with_reducible refine g_star ?_
  | with_reducible refine g_strM ?_
  | with_reducible refine iteT ?_
  | with_reducible refine iteF ?_
  | with_reducible refine iteNT ?_
  | with_reducible refine iteNF ?_)
local macro_rules | `(tactic| walk_at "go") => `(tactic| repeat (walk_at "go1"))
local macro_rules | `(tactic| walk_at "sz") => `(tactic| (first | (rw [sizeLine_eq]; simp only [List.length_cons, List.length_nil, List.length_map, List.length_append, List.length_take]; omega) | (rw [sizeLine_eq]; omega)))
section
variable {P : Program} {wo : World} {A : Ad} {K : PySem.W.Frag} {mg : Str → Option Value} {base : Heap}

def wAt (ws : List Str) (i : Nat) : Str := ws.getD i ""
theorem atI_neg1 {xs : List V} {v : V} (h : xs[xs.length - 1]? = some v) : atI xs (-1) = some v := by
  have hj : xs.length - 1 < xs.length := (List.getElem?_eq_some_iff.mp h).1
  unfold atI ixN
  rw [if_neg (by decide), if_pos (by omega)]
  have e : ((-1 : Int) + (xs.length : Int)).toNat = xs.length - 1 := by omega
  rw [e]
  exact h
/-- the column that the words make -/
def mkCol (ws : List Str) : Option Col :=
  if wAt ws 0 = "ref" ∧ (ws.length = 4 ∨ ws.length = 5) then some ⟨.ref, wAt ws 1, decide (ws.length = 5), wAt ws 2, wAt ws (ws.length - 1)⟩
  else if wAt ws 0 = "int" ∧ (ws.length = 2 ∨ ws.length = 3) then some ⟨.int, wAt ws 1, decide (ws.length = 3), "", ""⟩
  else if wAt ws 0 = "text" ∧ (ws.length = 2 ∨ ws.length = 3) then some ⟨.text, wAt ws 1, decide (ws.length = 3), "", ""⟩
  else none
def Col.okB (c : Col) : Bool := isNm c.name && (match c.k with | .ref => isNm c.target && ruleOk c.rule c.opt | _ => true)
theorem Col.okB_iff {c : Col} : c.okB = true ↔ c.ok := by
  obtain ⟨k, n, o, t, r⟩ := c
  unfold Col.okB Col.ok
  cases k <;> simp
def parseW (ws : List Str) : Option Col := match mkCol ws with
  | some c => if c.okB = true then some c else none
  | none => none
theorem parseW_some {ws : List Str} {c : Col} (h : mkCol ws = some c) (ok : c.ok) : parseW ws = some c := by
  unfold parseW
  rw [h]
  exact if_pos (Col.okB_iff.mpr ok)
theorem parseW_bad {ws : List Str} {c : Col} (h : mkCol ws = some c) (bad : ¬ c.ok) : parseW ws = none := by
  unfold parseW
  rw [h]
  exact if_neg fun z => bad (Col.okB_iff.mp z)
theorem parseW_none {ws : List Str} (h : mkCol ws = none) : parseW ws = none := by
  unfold parseW
  rw [h]
theorem inV_two (n : Nat) (a b : Int) : inV (.int (n : Int)) [.int a, .int b] = decide ((n : Int) = a ∨ (n : Int) = b) := by
  unfold inV
  show ((a == (n : Int)) || ((b == (n : Int)) || false)) = _
  rw [Bool.or_false]
  apply Bool.eq_iff_iff.mpr
  rw [Bool.or_eq_true, beq_iff_eq, beq_iff_eq, decide_eq_true_eq]
  constructor
  · rintro (h | h)
    · exact .inl h.symm
    · exact .inr h.symm
  · rintro (h | h)
    · exact .inl h.symm
    · exact .inr h.symm
/-- what the text says of the errors caught here -/
structure ExF (K : PySem.W.Frag) (A : Ad) : Prop where
  en : PySem.W.exmAny K (.ref A.InvalidName) [.ref A.InvalidColumn, .ref A.InvalidName] = some true
  ec : PySem.W.exmAny K (.ref A.InvalidColumn) [.ref A.InvalidColumn, .ref A.InvalidName] = some true
def spParsed (K : PySem.W.Frag) (A : Ad) : Sp := fun vs H Q _ => ∃ G R p ws, vs = [.ref p] ∧ Wd G R H ∧ SqL K G p (ws.map V.str) ∧ ws ≠ [] ∧ (∀ w ∈ ws, w.length ≤ 1000000) ∧
  (∀ c, parseW ws = some c → ∀ x G' H', Same G G' → G x = none → ColAt A G' x c → Wd G' R H' → Q (.ref x) H') ∧ (parseW ws = none → ∀ H', Wd G R H' → Q .non H')
theorem sc_parsed_column : FnScope (["words", "found", "many"] : List Str) (["words"] : List Str) (defScope s_parsed_column) := ⟨rfl, rfl, rfl, by decide +kernel, rfl, by decide +kernel, by decide +kernel⟩
theorem ok_parsed {f : Addr} {fd : FuncData} (F : Fun K "parsed_column" "parsed_column" s_parsed_column f fd) (T : Txt K mg A) (CF : ColF K A) (EF : ExF K A)
    (MR : GMk P wo K mg base 4 "RefColumn" A.RefColumn 2 ["optional", "rule"] (fun vs zs => spRefInit K A (vs ++ zs)))
    (MI : GMk P wo K mg base 4 "IntColumn" A.IntColumn 1 ["optional"] (fun vs zs => spColInit K A (vs ++ zs)))
    (MT : GMk P wo K mg base 4 "TextColumn" A.TextColumn 1 ["optional"] (fun vs zs => spColInit K A (vs ++ zs))) : FnOk P wo K mg base (L2.CX P wo) 6 f fd (["words"] : List Str) (spParsed K A) := by
  refine okT F sc_parsed_column (fun vs H Q E h => ?_) (fun cdv Ar outer s H vs Q E hr tk po h => ?_)
  · obtain ⟨_, _, _, _, rfl, _⟩ := h
    rfl
  obtain ⟨G, R, p, ws, rfl, w, hs, hne, hl, k1, k2⟩ := h
  refine ⟨_, (pss_cons (ps_par (i := 1) (j := 2) rfl sc_parsed_column.nd rfl rfl (by decide) rfl rfl (pa_cons pe_non (pa_cons (pe_callB (ka_len K) (by rfl) T.nb_len (by decide +kernel) (pa_cons (pv 0) pa_nil)) pa_nil)) (by rfl))
      (pss_cons (ps_try_two rfl rfl (names_of rfl T.g_InvalidColumn) (names_of rfl T.g_InvalidName) tk (fun _ _ _ tk po => (pss_one (ps_if (PW.pt (pw_and (pt_cmpR (ka_eq K hr.units) (pe_ix (ka_ix K) (pv 0) pe_int (fun _ _ => rfl)) pe_str (nomark _)) (pw_and1 (pt_cmpR (ka_in K) (pv 2) (pe_tup (pa_cons pe_int (pa_cons pe_int pa_nil))) (by first | exact nomark _ | rfl))))) (pss_one (ps_set (i := 1) sc_parsed_column.nd rfl (by first | exact Or.inl rfl | exact Or.inr rfl) (pe_makeG MR (hr.mono (by decide)) tk (pa_cons (pe_ix (ka_ix K) (pv 0) pe_int (fun _ _ => rfl)) (pa_cons (pe_ix (ka_ix K) (pv 0) pe_int (fun _ _ => rfl)) pa_nil)) (pk_cons (pe_cmpR (ka_eq K hr.units) (pv 2) pe_int (nomark _)) (pk_cons (pe_ix (ka_ix K) (pv 0) (pe_un un_neg pe_int) (fun _ _ => rfl)) pk_nil))))) (pss_one (ps_if (PW.pt (pw_and (pt_cmpR (ka_eq K hr.units) (pe_ix (ka_ix K) (pv 0) pe_int (fun _ _ => rfl)) pe_str (nomark _)) (pw_and1 (pt_cmpR (ka_in K) (pv 2) (pe_tup (pa_cons pe_int (pa_cons pe_int pa_nil))) (by first | exact nomark _ | rfl))))) (pss_one (ps_set (i := 1) sc_parsed_column.nd rfl (by first | exact Or.inl rfl | exact Or.inr rfl) (pe_makeG MI (hr.mono (by decide)) tk (pa_cons (pe_ix (ka_ix K) (pv 0) pe_int (fun _ _ => rfl)) pa_nil) (pk_cons (pe_cmpR (ka_eq K hr.units) (pv 2) pe_int (nomark _)) pk_nil)))) (pss_one (ps_if (PW.pt (pw_and (pt_cmpR (ka_eq K hr.units) (pe_ix (ka_ix K) (pv 0) pe_int (fun _ _ => rfl)) pe_str (nomark _)) (pw_and1 (pt_cmpR (ka_in K) (pv 2) (pe_tup (pa_cons pe_int (pa_cons pe_int pa_nil))) (by first | exact nomark _ | rfl))))) (pss_one (ps_set (i := 1) sc_parsed_column.nd rfl (by first | exact Or.inl rfl | exact Or.inr rfl) (pe_makeG MT (hr.mono (by decide)) tk (pa_cons (pe_ix (ka_ix K) (pv 0) pe_int (fun _ _ => rfl)) pa_nil) (pk_cons (pe_cmpR (ka_eq K hr.units) (pv 2) pe_int (nomark _)) pk_nil)))) pss_nil))))))) (fun _ _ _ _ _ hz hf => (pss_one (ps_set (i := 1) sc_parsed_column.nd rfl (by first | exact Or.inl rfl | exact Or.inr rfl) pe_non))))
      (pss_one (ps_ret (pv 1))))), ?_⟩
  have n0 : 0 < ws.length := List.length_pos_iff.mpr hne
  have at_ : ∀ i : Nat, i < ws.length → atI (ws.map V.str) (i : Int) = some (.str (wAt ws i)) := fun i hi => atI_nat (by
    unfold wAt
    rw [List.getElem?_map, List.getElem?_eq_getElem hi, List.getD_eq_getElem?_getD, List.getElem?_eq_getElem hi]
    rfl)
  have lens : ∀ i, (wAt ws i).length ≤ 1000000 := fun i => by
    unfold wAt
    rw [List.getD_eq_getElem?_getD]
    cases q : ws[i]? with
    | none => show (0 : Nat) ≤ 1000000; decide
    | some z => exact hl z (List.mem_of_getElem? q)
  walk_at "go"
  refine g_lenL w hs ?_
  rw [List.length_map]
  refine ⟨_, _, rfl, ?_⟩
  walk_at "go"
  refine g_ixL w hs (at_ 0 n0) ?_
  walk_at "go"
  refine g_eqS rfl ?_
  walk_at "go"
  have txt : ∀ {a b : Str}, V.str a = V.str b → a = b := fun h => V.str.inj h
  refine iteD (fun h1 => ?ra) (fun h1 => ?rb)
  case' rb => have hnr : ¬ (wAt ws 0 = "ref" ∧ (ws.length = 4 ∨ ws.length = 5)) := fun z => h1 (congrArg V.str z.1)
  case' rb => have w2 := w
  case' ra =>
    walk_at "go"
    refine g_newL w (by walk_at "sz") fun p1 H1 n1 w1 => ?_
    refine g_inT w1 (SqT.of upd_same) rfl rfl ?_
    have w2 := w1.drop (Same.newG n1)
    rw [inV_two]
    walk_at "go"
    replace h1 := txt h1
    refine iteD (fun h2 => ?rc) (fun h2 => ?rd)
  case' rd => have hnr : ¬ (wAt ws 0 = "ref" ∧ (ws.length = 4 ∨ ws.length = 5)) := fun z => h2 (by rcases z.2 with e | e <;> rw [e] <;> decide)
  case' rc =>
    walk_at "go"
    refine g_ixL w2 hs (at_ 1 (by omega)) ?_
    walk_at "go"
    refine g_ixL w2 hs (at_ 2 (by omega)) ?_
    walk_at "go"
    refine g_eqS rfl ?_
    walk_at "go"
    have lst : atI (ws.map V.str) (-1) = some (.str (wAt ws (ws.length - 1))) := by
      have := atI_neg1 (xs := ws.map V.str) (v := .str (wAt ws (ws.length - 1))) (by
        rw [List.length_map, List.getElem?_map, List.getElem?_eq_getElem (by omega)]
        unfold wAt
        rw [List.getD_eq_getElem?_getD, List.getElem?_eq_getElem (by omega)]
        rfl)
      exact this
    refine g_ixL w2 hs lst ?_
    walk_at "go"
    refine ⟨rfl, rfl, fun x dx hx hdx hne => ?_⟩
    have nx := w2.free hx
    have ndx := w2.free hdx
    have w3 := (w2.new (o := .own x) hdx).new (o := .ins A.RefColumn dx []) (show upd _ dx _ x = none by rw [upd_ne (Ne.symm hne)]; exact hx)
    have eo : decide (V.int (ws.length : Int) = V.int 5) = decide (ws.length = 5) := decide_eq_decide.mpr ⟨fun h => by have := V.int.inj h; omega, fun h => by rw [h]; rfl⟩
    rw [eo]
    have mk : mkCol ws = some ⟨.ref, wAt ws 1, decide (ws.length = 5), wAt ws 2, wAt ws (ws.length - 1)⟩ := by
      unfold mkCol
      rw [if_pos ⟨h1, by omega⟩]
    have sm : Same G (upd (upd G dx (.own x)) x (.ins A.RefColumn dx [])) := Same.trans (Same.newG ndx) (Same.newG (by rw [upd_ne (Ne.symm hne)]; exact nx))
    have sm2 : ∀ fs, Same G (upd (upd (upd G dx (.own x)) x (.ins A.RefColumn dx [])) x (.ins A.RefColumn dx fs)) := fun fs => by
      rw [upd_upd]
      exact Same.trans (Same.newG ndx) (Same.newG (by rw [upd_ne (Ne.symm hne)]; exact nx))
    have caught : ∀ {G' d o H3}, parseW ws = none → Same G G' → G' d = none → Wd (upd G' d o) R H3 → Q .non H3 := fun hp sg nd w4 => k2 hp _ (w4.drop (Same.trans sg (Same.newG nd)))
    refine ⟨_, R, x, dx, .str (wAt ws 1), .str (wAt ws 2), decide (ws.length = 5), .str (wAt ws (ws.length - 1)), isNm (wAt ws 1), isNm (wAt ws 2), ruleOk (wAt ws (ws.length - 1)) (decide (ws.length = 5)), rfl, w3, upd_same, .inl ⟨_, rfl, lens 1, rfl⟩, .inl ⟨_, rfl, lens 2, rfl⟩, .inl ⟨_, rfl, rfl⟩, fun e1 e2 e3 H3 w4 => ?_, fun e1 d H3 nd w4 => ?_, fun e1 e2 d H3 nd w4 => ?_, fun e1 e2 e3 d H3 nd w4 => ?_⟩
    · refine ⟨rfl, ?_⟩
      walk_at "go"
      refine k1 _ (parseW_some mk ⟨e1, fun _ => ⟨e2, e3⟩⟩) x _ _ (sm2 _) nx ⟨dx, upd_same⟩ w4
    · refine ⟨true, EF.en, fun _ a ha => ?_, fun z => Bool.noConfusion z⟩
      walk_at "go"
      exact caught (parseW_bad mk fun z => by rw [z.1] at e1; cases e1) sm nd w4
    · refine ⟨true, EF.en, fun _ a ha => ?_, fun z => Bool.noConfusion z⟩
      walk_at "go"
      exact caught (parseW_bad mk fun z => by rw [(z.2 rfl).1] at e2; cases e2) (sm2 _) (by rw [upd_ne]; exact nd; rintro rfl; rw [upd_same] at nd; cases nd) w4
    · refine ⟨true, EF.ec, fun _ a ha => ?_, fun z => Bool.noConfusion z⟩
      walk_at "go"
      exact caught (parseW_bad mk fun z => by rw [(z.2 rfl).2] at e3; cases e3) (sm2 _) (by rw [upd_ne]; exact nd; rintro rfl; rw [upd_same] at nd; cases nd) w4
  all_goals (
    walk_at "go"
    refine g_ixL w2 hs (at_ 0 n0) ?_
    walk_at "go"
    refine g_eqS rfl ?_
    walk_at "go"
    refine iteD (fun h3 => ?_) (fun h3 => ?_)
    rotate_left
    have hni : ¬ (wAt ws 0 = "int" ∧ (ws.length = 2 ∨ ws.length = 3)) := fun z => h3 (congrArg V.str z.1)
    rotate_left
    walk_at "go"
    refine g_newL w2 (by walk_at "sz") fun p1 H1 n1 w1 => ?_
    refine g_inT w1 (SqT.of upd_same) rfl rfl ?_
    replace w2 := w1.drop (Same.newG n1)
    rw [inV_two]
    walk_at "go"
    replace h3 := txt h3
    refine iteD (fun h4 => ?_) (fun h4 => ?_)
    rotate_left
    have hni : ¬ (wAt ws 0 = "int" ∧ (ws.length = 2 ∨ ws.length = 3)) := fun z => h4 (by rcases z.2 with e | e <;> rw [e] <;> decide)
    rotate_left
    rotate_left
    · walk_at "go"
      refine g_ixL w2 hs (at_ 1 (by omega)) ?_
      walk_at "go"
      refine g_eqS rfl ?_
      walk_at "go"
      refine ⟨rfl, rfl, fun x dx hx hdx hne => ?_⟩
      have nx := w2.free hx
      have ndx := w2.free hdx
      have w3 := (w2.new (o := .own x) hdx).new (o := .ins A.IntColumn dx []) (show upd _ dx _ x = none by rw [upd_ne (Ne.symm hne)]; exact hx)
      have eo : decide (V.int (ws.length : Int) = V.int 3) = decide (ws.length = 3) := decide_eq_decide.mpr ⟨fun h => by have := V.int.inj h; omega, fun h => by rw [h]; rfl⟩
      rw [eo]
      have mk : mkCol ws = some ⟨.int, wAt ws 1, decide (ws.length = 3), "", ""⟩ := by
        unfold mkCol
        rw [if_neg hnr]
        rw [if_pos ⟨h3, by omega⟩]
      refine ⟨_, R, x, _, dx, .str (wAt ws 1), decide (ws.length = 3), isNm (wAt ws 1), rfl, w3, upd_same, CF.cls .int, CF.na .int, CF.no .int, .inl ⟨_, rfl, lens 1, rfl⟩, fun e1 H3 w4 => ?_, fun e1 d H3 nd w4 => ?_⟩
      · refine ⟨rfl, ?_⟩
        walk_at "go"
        rw [upd_upd] at w4
        refine k1 _ (parseW_some mk ⟨e1, fun z => nomatch z⟩) x _ _ (Same.trans (Same.newG ndx) (Same.newG ?_)) nx ⟨dx, upd_same⟩ w4
        rw [upd_ne (Ne.symm hne)]
        exact nx
      · refine ⟨true, EF.en, fun _ a ha => ?_, fun z => Bool.noConfusion z⟩
        walk_at "go"
        refine k2 (parseW_bad mk fun z => by rw [z.1] at e1; cases e1) _ (w4.drop ?_)
        refine Same.trans (Same.trans (Same.newG ndx) (Same.newG ?_)) (Same.newG nd)
        rw [upd_ne (Ne.symm hne)]
        exact nx
    all_goals (
      walk_at "go"
      refine g_ixL w2 hs (at_ 0 n0) ?_
      walk_at "go"
      refine g_eqS rfl ?_
      walk_at "go"
      refine iteD (fun h3 => ?_) (fun h3 => ?_)
      rotate_left
      have hnt : ¬ (wAt ws 0 = "text" ∧ (ws.length = 2 ∨ ws.length = 3)) := fun z => h3 (congrArg V.str z.1)
      rotate_left
      walk_at "go"
      refine g_newL w2 (by walk_at "sz") fun p1 H1 n1 w1 => ?_
      refine g_inT w1 (SqT.of upd_same) rfl rfl ?_
      replace w2 := w1.drop (Same.newG n1)
      rw [inV_two]
      walk_at "go"
      replace h3 := txt h3
      refine iteD (fun h4 => ?_) (fun h4 => ?_)
      rotate_left
      have hnt : ¬ (wAt ws 0 = "text" ∧ (ws.length = 2 ∨ ws.length = 3)) := fun z => h4 (by rcases z.2 with e | e <;> rw [e] <;> decide)
      rotate_left
      rotate_left
      · walk_at "go"
        refine g_ixL w2 hs (at_ 1 (by omega)) ?_
        walk_at "go"
        refine g_eqS rfl ?_
        walk_at "go"
        refine ⟨rfl, rfl, fun x dx hx hdx hne => ?_⟩
        have nx := w2.free hx
        have ndx := w2.free hdx
        have w3 := (w2.new (o := .own x) hdx).new (o := .ins A.TextColumn dx []) (show upd _ dx _ x = none by rw [upd_ne (Ne.symm hne)]; exact hx)
        have eo : decide (V.int (ws.length : Int) = V.int 3) = decide (ws.length = 3) := decide_eq_decide.mpr ⟨fun h => by have := V.int.inj h; omega, fun h => by rw [h]; rfl⟩
        rw [eo]
        have mk : mkCol ws = some ⟨.text, wAt ws 1, decide (ws.length = 3), "", ""⟩ := by
          unfold mkCol
          rw [if_neg hnr, if_neg hni]
          rw [if_pos ⟨h3, by omega⟩]
        refine ⟨_, R, x, _, dx, .str (wAt ws 1), decide (ws.length = 3), isNm (wAt ws 1), rfl, w3, upd_same, CF.cls .text, CF.na .text, CF.no .text, .inl ⟨_, rfl, lens 1, rfl⟩, fun e1 H3 w4 => ?_, fun e1 d H3 nd w4 => ?_⟩
        · refine ⟨rfl, ?_⟩
          walk_at "go"
          rw [upd_upd] at w4
          refine k1 _ (parseW_some mk ⟨e1, fun z => nomatch z⟩) x _ _ (Same.trans (Same.newG ndx) (Same.newG ?_)) nx ⟨dx, upd_same⟩ w4
          rw [upd_ne (Ne.symm hne)]
          exact nx
        · refine ⟨true, EF.en, fun _ a ha => ?_, fun z => Bool.noConfusion z⟩
          walk_at "go"
          refine k2 (parseW_bad mk fun z => by rw [z.1] at e1; cases e1) _ (w4.drop ?_)
          refine Same.trans (Same.trans (Same.newG ndx) (Same.newG ?_)) (Same.newG nd)
          rw [upd_ne (Ne.symm hne)]
          exact nx
      all_goals (
        walk_at "go"
        refine k2 (parseW_none ?_) _ w2
        unfold mkCol
        rw [if_neg hnr, if_neg hni, if_neg hnt])))
end
end Sv


set_option Elab.async false
set_option linter.all false
set_option maxRecDepth 100000
set_option maxHeartbeats 4000000
namespace Sv
open PySem PySem.Spec PyProof.Rows L2 Sw
local macro_rules | `(tactic| walk_at "go1") => `(tactic| first
  | ((with_reducible refine' g_var ?hv ?_); (case hv => rfl))
  | with_reducible refine g_c ?_
  | with_reducible refine g_op ?_
  | with_reducible refine g_un ?_
  | with_reducible refine g_seq ?_
  | with_reducible refine g_next ?_
  | with_reducible refine g_asg ?_
  | with_reducible refine g_name ?_
  | with_reducible refine g_drop ?_
  | with_reducible refine g_sub ?_
  | with_reducible refine g_ret ?_
  | with_reducible refine g_retN ?_
  | with_reducible refine g_ifS ?_
  | with_reducible refine g_if ?_
  | with_reducible refine g_test ?_
  | with_reducible refine g_bl ?_
  | with_reducible refine g_cons ?_
  | with_reducible refine g_nil ?_
  | with_reducible refine g_and ?_
  | with_reducible refine g_or ?_
  | with_reducible refine g_not ?_
  | with_reducible refine g_callB ?_
  | with_reducible refine g_addI ?_
  | with_reducible refine g_I0 ?_
  | with_reducible refine g_calG ?_
  | with_reducible refine g_mkG ?_
  | with_reducible refine g_tup ?_
  | with_reducible refine g_pairs1 ?_
  | with_reducible refine g_pairs0 ?_
  | with_reducible refine g_dget ?_
  | with_reducible refine g_lvals ?_
  | with_reducible refine g_forT ?_
  | with_reducible refine g_lcT ?_
  | with_reducible refine g_dput ?_
  | with_reducible refine g_lc2L ?_
  | with_reducible refine g_iList ?_
  | with_reducible refine g_lcX ?_
  | with_reducible refine g_js1 ?_
  | with_reducible refine g_js0 ?_
  | with_reducible refine g_fmt ?_
  | with_reducible refine g_tLenSet ?_
  | with_reducible refine g_mkV ?_
  | with_reducible refine g_mkV1 ?_
  | with_reducible refine g_lst ?_
  | with_reducible refine g_forL ?_
  | with_reducible refine g_forR ?_
  | with_reducible refine g_forR2 ?_
  | with_reducible refine g_forS ?_
  | with_reducible refine g_forE ?_
  | with_reducible refine g_lcL ?_
  | with_reducible refine g_lcR ?_
  | with_reducible refine g_lcS ?_
  | with_reducible refine g_lcE ?_
  | with_reducible refine g_orT ?_
  | with_reducible refine g_slc ?_
  | with_reducible refine g_noPart ?_
  | with_reducible refine g_part ?_
  | with_reducible refine g_bm ?_
  | with_reducible refine g_par ?_
  | with_reducible refine g_yes ?_
  | with_reducible refine g_tupG ?_
  | with_reducible refine g_lstG ?_
  | with_reducible refine g_gcons ?_
  | with_reducible refine g_gnil ?_
  | with_reducible refine g_chain ?_
  | with_reducible refine g_truB ?_
  | with_reducible refine g_truN ?_
  | with_reducible refine g_truI ?_
  | with_reducible refine g_m1 ?_
  | with_reducible refine g_fld ?_
  | with_reducible refine g_con ?_
  | with_reducible refine g_tru ?_
  | with_reducible refine g_U ?_
  | with_reducible refine g_xg ?_
  | with_reducible refine g_andT ?_
  | with_reducible refine g_exI ?_
  | with_reducible refine g_dnew ?_
  | with_reducible refine g_intB ?_
  | with_reducible refine g_meth ?_
  | with_reducible refine g_prop ?_
  | with_reducible refine g_exc1 ?_
  | with_reducible refine g_setF ?_
  | with_reducible refine g_star ?_
  | with_reducible refine g_strM ?_
  | with_reducible refine iteT ?_
  | with_reducible refine iteF ?_
  | with_reducible refine iteNT ?_
  | with_reducible refine iteNF ?_)
local macro_rules | `(tactic| walk_at "go") => `(tactic| repeat (walk_at "go1"))
local macro_rules | `(tactic| walk_at "sz") => `(tactic| (first | (rw [sizeLine_eq]; simp only [List.length_cons, List.length_nil, List.length_map, List.length_append, List.length_take]; omega) | (rw [sizeLine_eq]; omega)))
section
variable {P : Program} {wo : World} {A : Ad} {K : PySem.W.Frag} {mg : Str → Option Value} {base : Heap}

def parseT (s : Str) : Option Col := match parseW (Txt.split s " ") with
  | some c => if c.text = s then some c else none
  | none => none
theorem le_sum {l : List Nat} {n : Nat} (h : n ∈ l) : n ≤ l.sum := by
  induction l with
  | nil => cases h
  | cons a r ih =>
    rw [List.sum_cons]
    rcases List.mem_cons.mp h with rfl | h
    · omega
    · have := ih h
      omega
theorem split_ne (s : Str) : Txt.split s " " ≠ [] := fun h => by
  have := split_pos s " "
  rw [h] at this
  exact absurd this (by decide)
theorem word_len {s w : Str} (h : w ∈ Txt.split s " ") : w.length ≤ s.length := by
  have h1 := split_weight s " " (by decide)
  have h2 : w.length ≤ ((Txt.split s " ").map (·.length)).sum := le_sum (List.mem_map_of_mem h)
  have h3 := split_pos s " "
  omega
theorem parseW_ok {ws : List Str} {c : Col} (h : parseW ws = some c) : c.ok := by
  unfold parseW at h
  split at h
  · split at h
    · rename_i k
      cases h
      exact Col.okB_iff.mp k
    · cases h
  · cases h
/-- Column.parse -/
def spParse (K : PySem.W.Frag) (A : Ad) : Sp := fun vs H Q E => ∃ G R v, vs = [v] ∧ Wd G R H ∧
  ((∃ s : Str, v = .str s ∧ s.length ≤ 1000000 ∧ (∀ c, parseT s = some c → ∀ x G' H', Same G G' → G x = none → ColAt A G' x c → Wd G' R H' → Q (.ref x) H') ∧
    (parseT s = none → ∀ G' d H', Same G G' → G d = none → G' d = some (.xd [("line", .int 0)]) → Wd G' R H' → E (.ref A.InvalidText) (some d) H')) ∨
   (NotStr K G v ∧ ∀ G' d H', Same G G' → G d = none → G' d = some (.xd [("line", .int 0)]) → Wd G' R H' → E (.ref A.InvalidText) (some d) H'))
theorem sc_Column_parse : FnScope (["text", "found"] : List Str) (["text"] : List Str) (defScope s_Column_parse) := ⟨rfl, rfl, rfl, by decide +kernel, rfl, by decide +kernel, by decide +kernel⟩
theorem ok_parse {f : Addr} {fd : FuncData} (F : Fun K "parse" "Column.parse" s_Column_parse f fd) (T : Txt K mg A) (CF : ColF K A) (Gpc : GFn P wo K mg base 6 "parsed_column" 1 [] (fun vs _ => spParsed K A vs))
    (GT : ∀ k, GPr P wo K mg base 3 (kcls A k) "text" (fun vs _ => spText A vs)) (XT : Exc1 P wo K mg base "InvalidText" A.InvalidText "line") : FnOk P wo K mg base (L2.CX P wo) 7 f fd (["text"] : List Str) (spParse K A) := by
  refine okT F sc_Column_parse (fun vs H Q E h => ?_) (fun cdv Ar outer s H vs Q E hr tk po h => ?_)
  · obtain ⟨_, _, _, rfl, _⟩ := h
    rfl
  obtain ⟨G, R, v, rfl, w, h⟩ := h
  refine ⟨_, (pss_cons (ps_set (i := 1) sc_Column_parse.nd rfl (by first | exact Or.inl rfl | exact Or.inr rfl) (pe_ifExp (kt_truth K (pe_callB (ka_isi K) (by rfl) T.nb_isinstance (by decide +kernel) (pa_cons (pv 0) (pa_cons (pe_bltn (v := .ty "str") (u := .type "str") (by rfl) T.nb_str (by decide +kernel) rfl) pa_nil))) (by intro _; rfl)) (pe_callG Gpc (hr.mono (by decide)) tk (pa_cons (ke_split (pv 0) pe_str) pa_nil) pk_nil) pe_non))
      (pss_cons (ps_if (PW.pt (pw_or (pt_cmpR op_isN (pv 1) pe_non (nomark _)) (pw_or1 (pt_cmpR (ka_ne K hr.units) (kp_prop (k := 3) P wo K mg base (pv 1) (hr.mono (by decide))) (pv 0) (nomark _))))) (pss_one (ps_raise rfl tk (pmk_exc1 XT (hr.mono (by decide)) (pa_cons pe_int pa_nil)))) pss_nil)
      (pss_one (ps_ret (pv 1))))), ?_⟩
  walk_at "go"
  rcases h with ⟨z, rfl, hz, k1, k2⟩ | ⟨⟨t, ht1, ht2⟩, k2⟩
  · refine g_isi (.ty _) (.base (.str z)) kit_str ?_
    walk_at "go"
    refine g_split w (by decide) (by rw [sizeLine_eq]; omega) fun p H1 n1 w1 => ?_
    walk_at "go"
    refine ⟨rfl, rfl, _, R, p, Txt.split z " ", rfl, w1, SqL.of upd_same, split_ne z, fun y hy => Nat.le_trans (word_len hy) hz, fun c hc x G' H2 e2 nx hx w2 => ?_, fun hc H2 w2 => ?_⟩
    · walk_at "go"
      have n2 := upd_nonne nx
      have eG : Same G G' := Same.trans (Same.newG n1) e2
      obtain ⟨dx, hx'⟩ := hx
      refine ⟨rfl, _, rfl, ?_⟩
      rw [decide_eq_false (show ¬ (V.ref x = V.non) from fun z => nomatch z)]
      walk_at "go"
      refine ⟨x, kcls A c.k, dx, c.fs, _, rfl, w2.get hx', GT c.k, ?_⟩
      refine ⟨G', R, x, c, rfl, w2, ⟨dx, hx'⟩, parseW_ok hc, fun H3 w3 => ?_⟩
      walk_at "go"
      refine g_neS rfl ?_
      walk_at "go"
      refine iteN (fun h3 => ?_) (fun h3 => ?_)
      · walk_at "go"
        refine ⟨_, rfl, fun d hd => ?_⟩
        have nd := w3.free hd
        refine k2 ?_ (upd G' d (.xd [("line", .int 0)])) d _ (Same.trans eG (Same.newG nd)) (Same.free eG nd) upd_same (w3.new hd)
        unfold parseT
        rw [hc]
        exact if_neg fun q => h3 (congrArg V.str q)
      · walk_at "go"
        refine k1 c ?_ x G' _ eG n2.1 ⟨dx, hx'⟩ w3
        unfold parseT
        rw [hc]
        exact if_pos (V.str.inj h3)
    · walk_at "go"
      refine ⟨rfl, _, rfl, ?_⟩
      rw [decide_eq_true (show V.non = V.non from rfl)]
      walk_at "go"
      refine ⟨_, rfl, fun d hd => ?_⟩
      have nd := w2.free hd
      have nd1 := upd_nonne nd
      refine k2 ?_ _ d _ (Same.trans (Same.newG n1) (Same.newG nd)) nd1.1 upd_same (w2.new hd)
      unfold parseT
      rw [hc]
  · refine g_isi (.ty _) (tyX_same w.sub ht1) ht2 ?_
    walk_at "go"
    refine ⟨rfl, _, rfl, ?_⟩
    rw [decide_eq_true (show V.non = V.non from rfl)]
    walk_at "go"
    refine ⟨_, rfl, fun d hd => ?_⟩
    have nd := w.free hd
    exact k2 _ d _ (Same.newG nd) nd upd_same (w.new hd)
end
end Sv


set_option Elab.async false
set_option linter.all false
set_option maxRecDepth 100000
set_option maxHeartbeats 4000000
namespace Sv
open PySem PySem.Spec PyProof.Rows L2 Sw
local macro_rules | `(tactic| walk_at "go1") => `(tactic| first
  | ((with_reducible refine' g_var ?hv ?_); (case hv => rfl))
  | with_reducible refine g_c ?_
  | with_reducible refine g_op ?_
  | with_reducible refine g_un ?_
  | with_reducible refine g_seq ?_
  | with_reducible refine g_next ?_
  | with_reducible refine g_asg ?_
  | with_reducible refine g_name ?_
  | with_reducible refine g_drop ?_
  | with_reducible refine g_sub ?_
  | with_reducible refine g_ret ?_
  | with_reducible refine g_retN ?_
  | with_reducible refine g_ifS ?_
  | with_reducible refine g_if ?_
  | with_reducible refine g_test ?_
  | with_reducible refine g_bl ?_
  | with_reducible refine g_cons ?_
  | with_reducible refine g_nil ?_
  | with_reducible refine g_and ?_
  | with_reducible refine g_or ?_
  | with_reducible refine g_not ?_
  | with_reducible refine g_callB ?_
  | with_reducible refine g_addI ?_
  | with_reducible refine g_I0 ?_
  | with_reducible refine g_calG ?_
  | with_reducible refine g_mkG ?_
  | with_reducible refine g_tup ?_
  | with_reducible refine g_pairs1 ?_
  | with_reducible refine g_pairs0 ?_
  | with_reducible refine g_dget ?_
  | with_reducible refine g_lvals ?_
  | with_reducible refine g_forT ?_
  | with_reducible refine g_lcT ?_
  | with_reducible refine g_dput ?_
  | with_reducible refine g_lc2L ?_
  | with_reducible refine g_iList ?_
  | with_reducible refine g_lcX ?_
  | with_reducible refine g_js1 ?_
  | with_reducible refine g_js0 ?_
  | with_reducible refine g_fmt ?_
  | with_reducible refine g_tLenSet ?_
  | with_reducible refine g_mkV ?_
  | with_reducible refine g_mkV1 ?_
  | with_reducible refine g_lst ?_
  | with_reducible refine g_forL ?_
  | with_reducible refine g_forR ?_
  | with_reducible refine g_forR2 ?_
  | with_reducible refine g_forS ?_
  | with_reducible refine g_forE ?_
  | with_reducible refine g_lcL ?_
  | with_reducible refine g_lcR ?_
  | with_reducible refine g_lcS ?_
  | with_reducible refine g_lcE ?_
  | with_reducible refine g_orT ?_
  | with_reducible refine g_slc ?_
  | with_reducible refine g_noPart ?_
  | with_reducible refine g_part ?_
  | with_reducible refine g_bm ?_
  | with_reducible refine g_par ?_
  | with_reducible refine g_yes ?_
  | with_reducible refine g_tupG ?_
  | with_reducible refine g_lstG ?_
  | with_reducible refine g_gcons ?_
  | with_reducible refine g_gnil ?_
  | with_reducible refine g_chain ?_
  | with_reducible refine g_truB ?_
  | with_reducible refine g_truN ?_
  | with_reducible refine g_truI ?_
  | with_reducible refine g_m1 ?_
  | with_reducible refine g_fld ?_
  | with_reducible refine g_con ?_
  | with_reducible refine g_tru ?_
  | with_reducible refine g_U ?_
  | with_reducible refine g_xg ?_
  | with_reducible refine g_andT ?_
  | with_reducible refine g_exI ?_
  | with_reducible refine g_dnew ?_
  | with_reducible refine g_intB ?_
  | with_reducible refine g_meth ?_
  | with_reducible refine g_prop ?_
  | with_reducible refine g_exc1 ?_
  | with_reducible refine g_setF ?_
  | with_reducible refine g_star ?_
  | with_reducible refine g_strM ?_
  | with_reducible refine iteT ?_
  | with_reducible refine iteF ?_
  | with_reducible refine iteNT ?_
  | with_reducible refine iteNF ?_)
local macro_rules | `(tactic| walk_at "go") => `(tactic| repeat (walk_at "go1"))
local macro_rules | `(tactic| walk_at "sz") => `(tactic| (first | (rw [sizeLine_eq]; simp only [List.length_cons, List.length_nil, List.length_map, List.length_append, List.length_take]; omega) | (rw [sizeLine_eq]; omega)))
section
variable {P : Program} {wo : World} {A : Ad} {K : PySem.W.Frag} {mg : Str → Option Value} {base : Heap}

/-! ### words -/
/-- a word of small letters, of one to eight signs -/
def wordB (s : Str) : Bool := decide (1 ≤ s.length) && decide (s.length ≤ 8) && lowS s
theorem isNm_of {s : Str} (h : wordB s = true) (hr : s ∉ resv) : isNm s = true := by
  unfold wordB at h
  simp only [Bool.and_eq_true] at h
  unfold isNm
  rw [h.1.1, h.1.2, h.2, inV_str, decide_eq_false hr]
  rfl
def chS (c : Nat) : Str := ⟨#[c]⟩
theorem lowS_app (a b : Str) : lowS (a ++ b) = (lowS a && lowS b) := by
  unfold lowS
  have : (a ++ b).cps.toList = a.cps.toList ++ b.cps.toList := by
    show (a.cps ++ b.cps).toList = _
    simp
  rw [this, List.all_append]
theorem cut7 (s : Str) : (cutS s none (some 7)).cps.toList = s.cps.toList.take 7 := by
  unfold cutS
  have h1 : HT.sIx s.length 0 none = 0 := rfl
  have h2 : HT.sIx s.length s.length (some 7) = min 7 s.length := HT.sIx_nat _ _ 7
  rw [h1, h2]
  simp only [List.drop_zero, Nat.sub_zero]
  have hl : s.length = s.cps.toList.length := by simp [Str.length]
  rw [hl]
  by_cases h : 7 ≤ s.cps.toList.length
  · rw [Nat.min_eq_left h]
  · rw [Nat.min_eq_right (by omega), List.take_length, List.take_of_length_le (by omega)]
theorem str_len (s : Str) : s.length = s.cps.toList.length := by simp [Str.length]
/-- the words tried for a name -/
def cands (w : Str) : List Str := w :: letters.cps.toList.map fun c => cutS w none (some 7) ++ chS c
theorem cands_word {w s : Str} (hw : wordB w = true) (h : s ∈ cands w) : wordB s = true := by
  rcases List.mem_cons.mp h with rfl | h
  · exact hw
  · obtain ⟨c, hc, rfl⟩ := List.mem_map.mp h
    unfold wordB at hw ⊢
    simp only [Bool.and_eq_true, decide_eq_true_eq] at hw
    obtain ⟨⟨h1, h2⟩, h3⟩ := hw
    have hl : (cutS w none (some 7) ++ chS c).length = (cutS w none (some 7)).length + 1 := Str.length_append _ _
    have hl2 : (cutS w none (some 7)).length ≤ 7 := by
      rw [str_len, cut7, List.length_take]
      omega
    rw [lowS_app, hl, decide_eq_true (by omega), decide_eq_true (by omega)]
    have e1 : lowS (cutS w none (some 7)) = true := by
      unfold lowS at h3 ⊢
      rw [cut7]
      rw [List.all_eq_true] at h3 ⊢
      exact fun x hx => h3 x (List.mem_of_mem_take hx)
    have e2 : lowS (chS c) = true := by
      show (decide (c ∈ letters.cps.toList) && true) = true
      rw [decide_eq_true hc]
      rfl
    rw [e1, e2]
    rfl
theorem nodup_map_inj {α β : Type} {f : α → β} {l : List α} (hf : ∀ a b, f a = f b → a = b) (h : l.Nodup) : (l.map f).Nodup := by
  induction l with
  | nil => simp
  | cons a r ih =>
    rw [List.map_cons, List.nodup_cons]
    rw [List.nodup_cons] at h
    refine ⟨fun z => ?_, ih h.2⟩
    obtain ⟨b, hb, e⟩ := List.mem_map.mp z
    rw [← hf _ _ e.symm] at hb
    exact h.1 hb
theorem nodup_sub_len {α : Type} [DecidableEq α] : ∀ {l m : List α}, l.Nodup → (∀ a ∈ l, a ∈ m) → l.length ≤ m.length
  | [], m, _, _ => Nat.zero_le _
  | a :: r, m, h, hs => by
    rw [List.nodup_cons] at h
    have hm : a ∈ m := hs a (List.mem_cons_self ..)
    have := nodup_sub_len (l := r) (m := m.erase a) h.2 fun b hb => (List.mem_erase_of_ne (fun e => h.1 (by rw [← e]; exact hb))).mpr (hs b (List.mem_cons_of_mem _ hb))
    rw [List.length_erase_of_mem hm] at this
    have hp : 0 < m.length := List.length_pos_of_mem hm
    rw [List.length_cons]
    omega
theorem app_chS {x : Str} {a b : Nat} (h : x ++ chS a = x ++ chS b) : a = b := by
  have : (x ++ chS a).cps.toList = (x ++ chS b).cps.toList := by rw [h]
  have e : ∀ c, (x ++ chS c).cps.toList = x.cps.toList ++ [c] := fun c => by
    show (x.cps ++ #[c]).toList = _
    simp
  rw [e, e] at this
  simpa using this
theorem cands_free (w : Str) {found : List Str} (h : found.length ≤ 25) : (cands w).filter (fun s => decide (s ∉ found)) ≠ [] := by
  intro z
  rw [List.filter_eq_nil_iff] at z
  have := nodup_sub_len (l := letters.cps.toList.map fun c => cutS w none (some 7) ++ chS c) (m := found) (nodup_map_inj (fun a b e => app_chS e) (by decide +kernel)) fun s hs => by
    have := z s (List.mem_cons_of_mem _ hs)
    simpa using this
  rw [List.length_map, show letters.cps.toList.length = 26 from by decide +kernel] at this
  omega
theorem join_chS (cs : List Nat) : Txt.join "" (cs.map chS) = ⟨cs.toArray⟩ := by
  rw [TL.join_eq]
  refine TL.ext_tl ?_
  rw [TL.tl_join]
  induction cs with
  | nil => rfl
  | cons a r ih =>
    cases r with
    | nil => rfl
    | cons b r =>
      show TL.tl (chS a) ++ (TL.tl "" ++ TL.joinL (TL.tl "") ((b :: r).map chS |>.map TL.tl)) = _
      rw [ih]
      rfl
theorem word_of {cs : List Nat} (h1 : 1 ≤ cs.length) (h2 : cs.length ≤ 8) (h : ∀ c ∈ cs, c ∈ letters.cps.toList) : wordB ⟨cs.toArray⟩ = true := by
  unfold wordB
  have : (⟨cs.toArray⟩ : Str).length = cs.length := by simp [Str.length]
  rw [this, decide_eq_true h1, decide_eq_true h2]
  show lowS _ = true
  unfold lowS
  rw [List.all_eq_true]
  exact fun c hc => decide_eq_true (h c (by simpa using hc))

theorem wipe_ok : True := trivial
def ownW : List Str := ["a", "bo", "text", "int", "ref", "unique", "optional", "restrict", "clear", "none", "tables", "name"]
theorem ownW_ok : ∀ s ∈ ownW, wordB s = true := by decide +kernel
theorem getStr {l : List Str} {i : Nat} {x : V} (h : (l.map V.str)[i]? = some x) : ∃ s, x = .str s ∧ l[i]? = some s := by
  rw [List.getElem?_map] at h
  cases e : l[i]? with
  | none => rw [e] at h; cases h
  | some u => rw [e] at h; exact ⟨u, (Option.some.inj h).symm, rfl⟩
/-! ### _law_names -/
def spNames : Sp := fun vs H Q _ => ∃ G a c n, vs = [.ref a, .int n] ∧ 0 ≤ n ∧ n ≤ 20 ∧ Wd G (RD a c) H ∧ ∀ p H' (ns : List Str), ns.length = n.toNat → (∀ s ∈ ns, isNm s = true) → ns.Nodup → G p = none → Wd (upd G p (.lst (ns.map V.str))) (RD a c) H' → Q (.ref p) H'
theorem sc__law_names : FnScope (["_law_state", "_law_count", "_law_own", "_law_letters", "_law_found", "_law_turn", "_law_word", "_law_some", "_law_letter", "_law_one", "_law_sign"] : List Str) (["_law_state", "_law_count"] : List Str) (defScope s__law_names) := ⟨rfl, rfl, rfl, by decide +kernel, rfl, by decide +kernel, by decide +kernel⟩
theorem ok_names {f : Addr} {fd : FuncData} (F : Fun K "_law_names" "_law_names" s__law_names f fd) (T : Txt K mg A) (Gd : GFn P wo K mg base 1 "_law_draw" 2 [] (fun vs _ => spDraw vs)) (Gp : GFn P wo K mg base 2 "_law_pick" 2 [] (fun vs _ => spPick K vs)) : FnOk P wo K mg base (L2.CX P wo) 3 f fd (["_law_state", "_law_count"] : List Str) spNames := by
  refine okT F sc__law_names (fun vs H Q E h => ?_) (fun cdv Ar outer s H vs Q E hr tk po h => ?_)
  · obtain ⟨_, _, _, _, rfl, _⟩ := h
    rfl
  obtain ⟨G, a, c, n, rfl, n0, n1, w, k⟩ := h
  refine ⟨_, (pss_cons (ps_set (i := 2) sc__law_names.nd rfl (by first | exact Or.inl rfl | exact Or.inr rfl) (pe_lst (pa_cons pe_str (pa_cons pe_str (pa_cons pe_str (pa_cons pe_str (pa_cons pe_str (pa_cons pe_str (pa_cons pe_str (pa_cons pe_str (pa_cons pe_str (pa_cons pe_str (pa_cons pe_str (pa_cons pe_str pa_nil))))))))))))))
      (pss_cons (ps_asg (pe_tup (pa_cons pe_str (pa_cons (pe_lst (pa_cons pe_str (pa_cons pe_str (pa_cons pe_str (pa_cons pe_str (pa_cons pe_str pa_nil)))))) pa_nil))) (kg_tup (n := 2) K rfl (pgs_cons (pg_name (i := 3) sc__law_names.nd rfl (by first | exact Or.inl rfl | exact Or.inr rfl)) (pgs_cons (pg_name (i := 4) sc__law_names.nd rfl (by first | exact Or.inl rfl | exact Or.inr rfl)) pgs_nil))))
      (pss_cons (ps_for po rfl (pi_range1 (by rfl) T.nb_range (pa_cons (pv 1) pa_nil)) (pg_name (i := 5) sc__law_names.nd rfl (by first | exact Or.inl rfl | exact Or.inr rfl)) (pss_cons (ps_set (i := 6) sc__law_names.nd rfl (by first | exact Or.inl rfl | exact Or.inr rfl) (pe_callG Gp (hr.mono (by decide)) tk (pa_cons (pv 0) (pa_cons (pv 2) pa_nil)) pk_nil))
      (pss_cons (ps_if (pt_cmpR (ka_eq K hr.units) (pe_callG Gd (hr.mono (by decide)) tk (pa_cons (pv 0) (pa_cons pe_int pa_nil)) pk_nil) pe_int (nomark _)) (pss_one (ps_set (i := 6) sc__law_names.nd rfl (by first | exact Or.inl rfl | exact Or.inr rfl) (ke_join K pe_str (pe_lc (own := [("_law_sign", 10)]) (g := (gName 10)) (tt := tYes) rfl sc__law_names.nd (pi_range1 (by rfl) T.nb_range (pa_cons (pe_op (ka_add K) pe_int (pe_callG Gd (hr.mono (by decide)) tk (pa_cons (pv 0) (pa_cons pe_int pa_nil)) pk_nil)) pa_nil)) (blkOk_by (N := (["_law_state", "_law_count", "_law_own", "_law_letters", "_law_found", "_law_turn", "_law_word", "_law_some", "_law_letter", "_law_one", "_law_sign"] : List Str)) (sc := defScope s__law_names) (by decide +kernel)) (fun _ _ _ _ _ => (pg_name (i := 10) sc__law_names.nd rfl (by first | exact Or.inl rfl | exact Or.inr rfl))) (fun _ _ _ _ _ => pts_nil) (fun _ _ _ _ _ => (pe_callG Gp (hr.mono (by decide)) takes0 (pa_cons (pv 0) (pa_cons (pv 3) pa_nil)) pk_nil)))))) pss_nil)
      (pss_cons (ps_set (i := 7) sc__law_names.nd rfl (by first | exact Or.inl rfl | exact Or.inr rfl) (pe_op (ka_add K) (pe_lst (pa_cons (pv 6) pa_nil)) (pe_lc (own := [("_law_letter", 8)]) (g := (gName 8)) (tt := tYes) rfl sc__law_names.nd (pi_str (pv 3)) (blkOk_by (N := (["_law_state", "_law_count", "_law_own", "_law_letters", "_law_found", "_law_turn", "_law_word", "_law_some", "_law_letter", "_law_one", "_law_sign"] : List Str)) (sc := defScope s__law_names) (by decide +kernel)) (fun _ _ _ _ _ => (pg_name (i := 8) sc__law_names.nd rfl (by first | exact Or.inl rfl | exact Or.inr rfl))) (fun _ _ _ _ _ => pts_nil) (fun _ _ _ _ _ => (pe_op (ka_add K) (pe_slice (ka_sl K) (pv 6) po_none (po_some pe_int)) (pv 8))))))
      (pss_one (ps_expr (pe_bm PySem.F.plainAttrs_list PySem.F.slot_list_append PySem.F.type_list_append mt_append (pv 4) (pa_cons (pe_ix (ka_ix K) (pe_lc (own := [("_law_one", 9)]) (g := (gName 9)) (tt := _) rfl sc__law_names.nd (ki_list K (pv 7)) (blkOk_by (N := (["_law_state", "_law_count", "_law_own", "_law_letters", "_law_found", "_law_turn", "_law_word", "_law_some", "_law_letter", "_law_one", "_law_sign"] : List Str)) (sc := defScope s__law_names) (by decide +kernel)) (fun _ _ _ _ _ => (pg_name (i := 9) sc__law_names.nd rfl (by first | exact Or.inl rfl | exact Or.inr rfl))) (fun _ _ _ _ _ => (pts_one (pt_cmpR (ka_ni K) (pv 9) (pv 4) (by first | exact nomark _ | rfl)))) (fun _ _ _ _ _ => (pv 9))) pe_int (fun _ _ => rfl)) pa_nil))))))))
      (pss_one (ps_ret (pe_slice (ka_sl K) (pv 4) (po_some pe_int) po_none)))))), ?_⟩
  walk_at "go"
  refine g_newL w (by walk_at "sz") fun o H1 no w1 => ?_
  walk_at "go"
  refine g_newL w1 (by walk_at "sz") fun fo H2 nf w2 => ?_
  walk_at "go"
  refine g_newL w2 (by walk_at "sz") fun tp H3 nt w3 => ?_
  refine ⟨tp, _, rfl, SqT.of (w3.get upd_same), rfl, ?_⟩
  replace w2 := w3.drop (Same.newG nt)
  walk_at "go"
  refine ⟨n, rfl, by omega, by omega, ?_⟩
  have hfo : fo ≠ o := fun z => by
    subst z
    rw [upd_same] at nf
    cases nf
  have nfG : G fo = none := (upd_nonne nf).1
  refine for_it itf_range (fun i σ' H' => ∃ t5 t6 t7, ∃ ns : List Str, σ' = [some (.ref a), some (.int n), some (.ref o), some (.str letters), some (.ref fo), t5, t6, t7, none, none, none] ∧ Wd (upd (upd G o (.lst (ownW.map V.str))) fo (.lst ((resv ++ ns).map V.str))) (RD a c) H' ∧ ns.length = i ∧ (∀ s ∈ ns, isNm s = true) ∧ (resv ++ ns).Nodup)
    ⟨none, none, none, [], rfl, w2, rfl, by simp, by decide +kernel⟩ (fun _ _ _ _ _ => True.intro) ?_ ?_
  · rintro i x σ' H' H'' hi ⟨t5, t6, t7, ns, rfl, w, hl, hn, hd⟩ ⟨rfl, rfl⟩
    have nfo : upd G o (.lst (ownW.map V.str)) fo = none := by
      rw [upd_ne hfo]
      exact nfG
    have ho : upd (upd G o (.lst (ownW.map V.str))) fo (.lst ((resv ++ ns).map V.str)) o = some (.lst (ownW.map V.str)) := upd_old upd_same nfo
    have hf : upd (upd G o (.lst (ownW.map V.str))) fo (.lst ((resv ++ ns).map V.str)) fo = some (.lst ((resv ++ ns).map V.str)) := upd_same
    have fin : ∀ s, s ∉ resv ++ ns → wordB s = true → ∀ Gx H3, Same (upd (upd G o (.lst (ownW.map V.str))) fo (.lst ((resv ++ ns).map V.str))) Gx → Wd (upd Gx fo (.lst ((resv ++ ns).map V.str ++ [.str s]))) (RD a c) H3 →
        ∃ ns' : List Str, Wd (upd (upd G o (.lst (ownW.map V.str))) fo (.lst ((resv ++ ns').map V.str))) (RD a c) H3 ∧ ns'.length = i + 1 ∧ (∀ s ∈ ns', isNm s = true) ∧ (resv ++ ns').Nodup := fun s hs hw Gx H3 e w3 => by
      refine ⟨ns ++ [s], ?_, by rw [List.length_append, hl]; rfl, fun z hz => ?_, ?_⟩
      · have : (resv ++ (ns ++ [s])).map V.str = (resv ++ ns).map V.str ++ [.str s] := by simp
        rw [this]
        have e2 := Same.upd2 (p := fo) (o := .lst ((resv ++ ns).map V.str ++ [.str s])) e
        rw [upd_upd] at e2
        exact w3.drop e2
      · rcases List.mem_append.mp hz with h | h
        · exact hn z h
        · rw [List.mem_singleton] at h
          subst h
          exact isNm_of hw fun q => hs (List.mem_append_left _ q)
      · rw [← List.append_assoc, List.nodup_append]
        refine ⟨hd, by simp, fun x hx y hy => ?_⟩
        rw [List.mem_singleton] at hy
        subst hy
        rintro rfl
        exact hs hx
    have hlen : (resv ++ ns).length ≤ 25 := by
      rw [List.length_append]
      show 5 + ns.length ≤ 25
      omega
    generalize resv ++ ns = found at *
    generalize upd (upd G o (.lst (ownW.map V.str))) fo (.lst (found.map V.str)) = G' at *
    walk_at "go"
    refine ⟨rfl, rfl, _, a, c, w, .inl ⟨o, ownW.map V.str, rfl, .inl (SqL.of ho), by decide, by decide, fun x H1 hx w1 => ?_⟩⟩
    obtain ⟨w0, hw0, rfl⟩ := List.mem_map.mp hx
    have hwd := ownW_ok w0 hw0
    walk_at "go"
    refine ⟨rfl, rfl, _, a, c, 3, rfl, w1, by decide, by decide, fun r H2 r0 r1 w2 => ?_⟩
    walk_at "go"
    refine g_eqS rfl ?_
    walk_at "go"
    refine iteD (fun h1 => ?_) (fun h1 => ?_)
    · walk_at "go"
      refine ⟨rfl, rfl, _, a, c, 8, rfl, w2, by decide, by decide, fun q H4 q0 q1 w4 => ?_⟩
      walk_at "go"
      refine ⟨1 + q, rfl, by omega, by omega, ?_⟩
      refine lc_it itf_range w4 (fun _ _ => True.intro) (by rw [sizeLine_eq]; omega) (fun i _ acc => ∃ cs : List Nat, acc = (cs.map chS).map V.str ∧ cs.length = i ∧ ∀ c ∈ cs, c ∈ letters.cps.toList) ⟨[], rfl, rfl, by simp⟩ ?_ ?_
      · rintro j x Gi acc D H5 H5' hj e nD ⟨cs, rfl, hcl, hcs⟩ hl2 w5 ⟨rfl, rfl⟩
        walk_at "go"
        refine ⟨rfl, ?_⟩
        walk_at "go"
        refine ⟨rfl, rfl, _, a, c, w5, .inr ⟨letters, rfl, by decide, by decide, fun ch H6 hch w6 => ?_⟩⟩
        exact lc_keep (Pv := fun i _ acc => ∃ cs : List Nat, acc = (cs.map chS).map V.str ∧ cs.length = i ∧ ∀ c ∈ cs, c ∈ letters.cps.toList) w6 e nD hl2 hj (by rw [sizeLine_eq]; omega) ⟨cs ++ [ch], by simp [chS], by simp [hcl], fun z hz => by
          rcases List.mem_append.mp hz with h | h
          · exact hcs z h
          · rw [List.mem_singleton] at h
            rw [h]
            exact hch⟩
      rintro D Gn acc H5 e nD ⟨cs, rfl, hcl, hcs⟩ hl2 w5
      have hb : (((cs.map chS).map (·.length)).sum + (cs.map chS).length * (Str.length "")) ≤ 16777216 := by
        have : (cs.map chS).map (·.length) = cs.map fun _ => 1 := by
          rw [List.map_map]
          rfl
        rw [this, List.length_map]
        have e0 : Str.length "" = 0 := rfl
        rw [e0, Nat.mul_zero, Nat.add_zero]
        have : ∀ l : List Nat, (l.map fun _ => 1).sum = l.length := fun l => by
          induction l with
          | nil => rfl
          | cons a r ih => rw [List.map_cons, List.sum_cons, ih, List.length_cons]; omega
        rw [this]
        omega
      refine g_join w5 (SqL.of upd_same) hb ?_
      rw [join_chS]
      have hwd := word_of (cs := cs) (by omega) (by omega) hcs
      generalize (⟨cs.toArray⟩ : Str) = w0 at *
      have w2 := w5.drop (Same.trans e (Same.newG nD))
      walk_at "go"
      refine g_newL w2 (by walk_at "sz") fun p1 H6 n1 w6 => ?_
      walk_at "go"
      refine ⟨letters, rfl, ?_⟩
      refine lc_it itf_str w6 (fun _ _ => True.intro) (by rw [sizeLine_eq]; decide) (fun i _ acc => acc = ((letters.cps.toList.take i).map fun c => cutS w0 none (some 7) ++ chS c).map V.str) rfl ?_ ?_
      · rintro j x Gi acc D H7 H7' hj e nD ha hl2 w7 ⟨rfl, ch, hc, rfl⟩
        have hlw : w0.length ≤ 8 := by
          unfold wordB at hwd
          simp only [Bool.and_eq_true, decide_eq_true_eq] at hwd
          exact hwd.1.2
        walk_at "go"
        refine ⟨rfl, ?_⟩
        walk_at "go"
        refine g_slS (by rw [sizeLine_eq]; exact Nat.le_trans hlw (by decide)) ?_
        walk_at "go"
        refine g_addS (by have := cutS_length w0 none (some 7); have h1 : (⟨#[ch]⟩ : Str).length = 1 := rfl; rw [sizeLine_eq, h1]; omega) ?_
        refine lc_keep (Pv := fun i _ acc => acc = ((letters.cps.toList.take i).map fun c => cutS w0 none (some 7) ++ chS c).map V.str) w7 e nD hl2 hj (by rw [sizeLine_eq]; decide) ?_
        have hc' : letters.cps.toList[j]? = some ch := by simpa using hc
        rw [ha, List.take_add_one, hc']
        simp [chS]
      rintro D7 G7 acc7 H7 e7 nD7 rfl hl7 w7
      rw [show letters.cps.size = letters.cps.toList.length by simp, List.take_length] at w7
      refine g_addL w7 (upd_old (e7 _ _ upd_same) nD7) upd_same (by rw [sizeLine_eq, List.length_map, List.length_map]; show 1 + letters.cps.toList.length ≤ _; rw [show letters.cps.toList.length = 26 from by decide +kernel]; decide) fun p2 H8 n8 w8 => ?_
      have ecd : [V.str w0] ++ ((letters.cps.toList.map fun c => cutS w0 none (some 7) ++ chS c).map V.str) = (cands w0).map V.str := rfl
      rw [ecd] at w8
      have hlc : (cands w0).length = 27 := by
        unfold cands
        rw [List.length_cons, List.length_map]
        rfl
      have s8 : Same G' (upd (upd G7 D7 (.lst ((letters.cps.toList.map fun c => cutS w0 none (some 7) ++ chS c).map V.str))) p2 (.lst ((cands w0).map V.str))) := Same.trans (Same.trans (Same.trans (Same.newG n1) e7) (Same.newG nD7)) (Same.newG n8)
      have hp2 : (upd (upd G7 D7 (.lst ((letters.cps.toList.map fun c => cutS w0 none (some 7) ++ chS c).map V.str))) p2 (.lst ((cands w0).map V.str))) p2 = some (.lst ((cands w0).map V.str)) := upd_same
      generalize (upd (upd G7 D7 (.lst ((letters.cps.toList.map fun c => cutS w0 none (some 7) ++ chS c).map V.str))) p2 (.lst ((cands w0).map V.str))) = G8 at *
      walk_at "go"
      refine ⟨.inl ⟨rfl, _, SqL.of (w8.get (s8 _ _ hf))⟩, ?_⟩
      walk_at "go"
      refine ⟨p2, rfl, ⟨_, SqL.of (w8.get hp2)⟩, ?_⟩
      refine lc_it (itf_list (xs := (cands w0).map V.str)) w8 (fun H' e => SqL.of (e _ _ hp2)) (by rw [sizeLine_eq, List.length_map, hlc]; decide) (fun i _ acc => acc = (((cands w0).take i).filter fun s => decide (s ∉ found)).map V.str) rfl ?_ ?_
      · rintro j x Gi acc D H9 H9' hj e nD ha hl2 w9 ⟨rfl, hx⟩
        obtain ⟨s, rfl, hs⟩ := getStr hx
        walk_at "go"
        refine ⟨rfl, ?_⟩
        walk_at "go"
        refine g_niL w9 (SqL.of (upd_old (e _ _ (s8 _ _ hf)) nD)) rfl (by rw [List.all_map]; exact List.all_eq_true.mpr fun _ _ => rfl) ?_
        rw [inV_str]
        have ht : ((cands w0).take (j + 1)).filter (fun s => decide (s ∉ found)) = ((cands w0).take j).filter (fun s => decide (s ∉ found)) ++ (if s ∉ found then [s] else []) := by
          rw [List.take_add_one, hs, List.filter_append]
          congr 1
          by_cases q : s ∈ found <;> simp [q]
        walk_at "go"
        refine iteN (fun h3 => ?_) (fun h3 => ?_)
        · walk_at "go"
          refine lc_keep (Pv := fun i _ acc => acc = (((cands w0).take i).filter fun s => decide (s ∉ found)).map V.str) w9 e nD hl2 hj (by rw [sizeLine_eq, List.length_map, hlc]; decide) ?_
          rw [ht, if_pos h3, ha, List.map_append]
          rfl
        · refine lc_drop (Pv := fun i _ acc => acc = (((cands w0).take i).filter fun s => decide (s ∉ found)).map V.str) w9 e nD hl2 ?_
          rw [ht, if_neg (fun q => q h3), ha, List.append_nil]
      rintro D9 G9 acc9 H9 e9 nD9 rfl hl9 w9
      rw [List.length_map, List.take_length] at w9
      cases hfil : (cands w0).filter (fun s => decide (s ∉ found)) with
      | nil => exact absurd hfil (cands_free w0 hlen)
      | cons s r =>
        have hsm : s ∈ (cands w0).filter (fun s => decide (s ∉ found)) := by rw [hfil]; exact List.mem_cons_self
        rw [List.mem_filter, decide_eq_true_eq] at hsm
        rw [hfil] at w9
        walk_at "go"
        refine g_ixL w9 (SqL.of upd_same) (v := .str s) (L2.atI_nat (j := 0) rfl) ?_
        walk_at "go"
        refine g_app w9 (upd_old (e9 _ _ (s8 _ _ hf)) nD9) (by rw [sizeLine_eq, List.length_map]; omega) fun H10 w10 => ?_
        obtain ⟨ns', q1, q2, q3, q4⟩ := fin s hsm.2 (cands_word hwd hsm.1) _ H10 (Same.trans (Same.trans s8 e9) (Same.newG nD9)) w10
        walk_at "go"
        exact ⟨_, _, _, ns', rfl, q1, q2, q3, q4⟩
    · walk_at "go"
      refine g_newL w2 (by walk_at "sz") fun p1 H6 n1 w6 => ?_
      walk_at "go"
      refine ⟨letters, rfl, ?_⟩
      refine lc_it itf_str w6 (fun _ _ => True.intro) (by rw [sizeLine_eq]; decide) (fun i _ acc => acc = ((letters.cps.toList.take i).map fun c => cutS w0 none (some 7) ++ chS c).map V.str) rfl ?_ ?_
      · rintro j x Gi acc D H7 H7' hj e nD ha hl2 w7 ⟨rfl, ch, hc, rfl⟩
        have hlw : w0.length ≤ 8 := by
          unfold wordB at hwd
          simp only [Bool.and_eq_true, decide_eq_true_eq] at hwd
          exact hwd.1.2
        walk_at "go"
        refine ⟨rfl, ?_⟩
        walk_at "go"
        refine g_slS (by rw [sizeLine_eq]; exact Nat.le_trans hlw (by decide)) ?_
        walk_at "go"
        refine g_addS (by have := cutS_length w0 none (some 7); have h1 : (⟨#[ch]⟩ : Str).length = 1 := rfl; rw [sizeLine_eq, h1]; omega) ?_
        refine lc_keep (Pv := fun i _ acc => acc = ((letters.cps.toList.take i).map fun c => cutS w0 none (some 7) ++ chS c).map V.str) w7 e nD hl2 hj (by rw [sizeLine_eq]; decide) ?_
        have hc' : letters.cps.toList[j]? = some ch := by simpa using hc
        rw [ha, List.take_add_one, hc']
        simp [chS]
      rintro D7 G7 acc7 H7 e7 nD7 rfl hl7 w7
      rw [show letters.cps.size = letters.cps.toList.length by simp, List.take_length] at w7
      refine g_addL w7 (upd_old (e7 _ _ upd_same) nD7) upd_same (by rw [sizeLine_eq, List.length_map, List.length_map]; show 1 + letters.cps.toList.length ≤ _; rw [show letters.cps.toList.length = 26 from by decide +kernel]; decide) fun p2 H8 n8 w8 => ?_
      have ecd : [V.str w0] ++ ((letters.cps.toList.map fun c => cutS w0 none (some 7) ++ chS c).map V.str) = (cands w0).map V.str := rfl
      rw [ecd] at w8
      have hlc : (cands w0).length = 27 := by
        unfold cands
        rw [List.length_cons, List.length_map]
        rfl
      have s8 : Same G' (upd (upd G7 D7 (.lst ((letters.cps.toList.map fun c => cutS w0 none (some 7) ++ chS c).map V.str))) p2 (.lst ((cands w0).map V.str))) := Same.trans (Same.trans (Same.trans (Same.newG n1) e7) (Same.newG nD7)) (Same.newG n8)
      have hp2 : (upd (upd G7 D7 (.lst ((letters.cps.toList.map fun c => cutS w0 none (some 7) ++ chS c).map V.str))) p2 (.lst ((cands w0).map V.str))) p2 = some (.lst ((cands w0).map V.str)) := upd_same
      generalize (upd (upd G7 D7 (.lst ((letters.cps.toList.map fun c => cutS w0 none (some 7) ++ chS c).map V.str))) p2 (.lst ((cands w0).map V.str))) = G8 at *
      walk_at "go"
      refine ⟨.inl ⟨rfl, _, SqL.of (w8.get (s8 _ _ hf))⟩, ?_⟩
      walk_at "go"
      refine ⟨p2, rfl, ⟨_, SqL.of (w8.get hp2)⟩, ?_⟩
      refine lc_it (itf_list (xs := (cands w0).map V.str)) w8 (fun H' e => SqL.of (e _ _ hp2)) (by rw [sizeLine_eq, List.length_map, hlc]; decide) (fun i _ acc => acc = (((cands w0).take i).filter fun s => decide (s ∉ found)).map V.str) rfl ?_ ?_
      · rintro j x Gi acc D H9 H9' hj e nD ha hl2 w9 ⟨rfl, hx⟩
        obtain ⟨s, rfl, hs⟩ := getStr hx
        walk_at "go"
        refine ⟨rfl, ?_⟩
        walk_at "go"
        refine g_niL w9 (SqL.of (upd_old (e _ _ (s8 _ _ hf)) nD)) rfl (by rw [List.all_map]; exact List.all_eq_true.mpr fun _ _ => rfl) ?_
        rw [inV_str]
        have ht : ((cands w0).take (j + 1)).filter (fun s => decide (s ∉ found)) = ((cands w0).take j).filter (fun s => decide (s ∉ found)) ++ (if s ∉ found then [s] else []) := by
          rw [List.take_add_one, hs, List.filter_append]
          congr 1
          by_cases q : s ∈ found <;> simp [q]
        walk_at "go"
        refine iteN (fun h3 => ?_) (fun h3 => ?_)
        · walk_at "go"
          refine lc_keep (Pv := fun i _ acc => acc = (((cands w0).take i).filter fun s => decide (s ∉ found)).map V.str) w9 e nD hl2 hj (by rw [sizeLine_eq, List.length_map, hlc]; decide) ?_
          rw [ht, if_pos h3, ha, List.map_append]
          rfl
        · refine lc_drop (Pv := fun i _ acc => acc = (((cands w0).take i).filter fun s => decide (s ∉ found)).map V.str) w9 e nD hl2 ?_
          rw [ht, if_neg (fun q => q h3), ha, List.append_nil]
      rintro D9 G9 acc9 H9 e9 nD9 rfl hl9 w9
      rw [List.length_map, List.take_length] at w9
      cases hfil : (cands w0).filter (fun s => decide (s ∉ found)) with
      | nil => exact absurd hfil (cands_free w0 hlen)
      | cons s r =>
        have hsm : s ∈ (cands w0).filter (fun s => decide (s ∉ found)) := by rw [hfil]; exact List.mem_cons_self
        rw [List.mem_filter, decide_eq_true_eq] at hsm
        rw [hfil] at w9
        walk_at "go"
        refine g_ixL w9 (SqL.of upd_same) (v := .str s) (L2.atI_nat (j := 0) rfl) ?_
        walk_at "go"
        refine g_app w9 (upd_old (e9 _ _ (s8 _ _ hf)) nD9) (by rw [sizeLine_eq, List.length_map]; omega) fun H10 w10 => ?_
        obtain ⟨ns', q1, q2, q3, q4⟩ := fin s hsm.2 (cands_word hwd hsm.1) _ H10 (Same.trans (Same.trans s8 e9) (Same.newG nD9)) w10
        walk_at "go"
        exact ⟨_, _, _, ns', rfl, q1, q2, q3, q4⟩
  · rintro σ' H' ⟨t5, t6, t7, ns, rfl, w, hl, hn, hd⟩
    walk_at "go"
    have hf : upd (upd G o (.lst (ownW.map V.str))) fo (.lst ((resv ++ ns).map V.str)) fo = some (.lst ((resv ++ ns).map V.str)) := upd_same
    refine g_slL w (SqL.of hf) fun p H1 np w1 => ?_
    have ec : cutV ((resv ++ ns).map V.str) (some 5) none = ns.map V.str := by
      unfold cutV
      have h1 : HT.sIx ((resv ++ ns).map V.str).length 0 (some 5) = min 5 ((resv ++ ns).map V.str).length := HT.sIx_nat _ _ 5
      have h2 : HT.sIx ((resv ++ ns).map V.str).length ((resv ++ ns).map V.str).length none = ((resv ++ ns).map V.str).length := rfl
      have hl5 : ((resv ++ ns).map V.str).length = 5 + ns.length := by
        rw [List.length_map, List.length_append]
        rfl
      rw [h1, h2, hl5, Nat.min_eq_left (by omega), List.map_append]
      show (ns.map V.str).take _ = _
      rw [List.take_of_length_le (by rw [List.length_map]; omega)]
    rw [ec] at w1
    have np1 := upd_nonne np
    refine k p H1 ns hl hn (List.nodup_append.mp hd).2.1 (upd_nonne np1.1).1 (w1.drop (Same.upd2 (Same.trans (Same.newG no) (Same.newG nf))))
end
end Sv


set_option Elab.async false
set_option linter.all false
set_option maxRecDepth 100000
set_option maxHeartbeats 4000000
namespace Sv
open PySem PySem.Spec PyProof.Rows L2 Sw
local macro_rules | `(tactic| walk_at "go1") => `(tactic| first
  | ((with_reducible refine' g_var ?hv ?_); (case hv => rfl))
  | with_reducible refine g_c ?_
  | with_reducible refine g_op ?_
  | with_reducible refine g_un ?_
  | with_reducible refine g_seq ?_
  | with_reducible refine g_next ?_
  | with_reducible refine g_asg ?_
  | with_reducible refine g_name ?_
  | with_reducible refine g_drop ?_
  | with_reducible refine g_sub ?_
  | with_reducible refine g_ret ?_
  | with_reducible refine g_retN ?_
  | with_reducible refine g_ifS ?_
  | with_reducible refine g_if ?_
  | with_reducible refine g_test ?_
  | with_reducible refine g_bl ?_
  | with_reducible refine g_cons ?_
  | with_reducible refine g_nil ?_
  | with_reducible refine g_and ?_
  | with_reducible refine g_or ?_
  | with_reducible refine g_not ?_
  | with_reducible refine g_callB ?_
  | with_reducible refine g_addI ?_
  | with_reducible refine g_I0 ?_
  | with_reducible refine g_calG ?_
  | with_reducible refine g_mkG ?_
  | with_reducible refine g_tup ?_
  | with_reducible refine g_pairs1 ?_
  | with_reducible refine g_pairs0 ?_
  | with_reducible refine g_dget ?_
  | with_reducible refine g_lvals ?_
  | with_reducible refine g_forT ?_
  | with_reducible refine g_lcT ?_
  | with_reducible refine g_dput ?_
  | with_reducible refine g_lc2L ?_
  | with_reducible refine g_iList ?_
  | with_reducible refine g_lcX ?_
  | with_reducible refine g_js1 ?_
  | with_reducible refine g_js0 ?_
  | with_reducible refine g_fmt ?_
  | with_reducible refine g_tLenSet ?_
  | with_reducible refine g_mkV ?_
  | with_reducible refine g_mkV1 ?_
  | with_reducible refine g_lst ?_
  | with_reducible refine g_forL ?_
  | with_reducible refine g_forR ?_
  | with_reducible refine g_forR2 ?_
  | with_reducible refine g_forS ?_
  | with_reducible refine g_forE ?_
  | with_reducible refine g_lcL ?_
  | with_reducible refine g_lcR ?_
  | with_reducible refine g_lcS ?_
  | with_reducible refine g_lcE ?_
  | with_reducible refine g_orT ?_
  | with_reducible refine g_slc ?_
  | with_reducible refine g_noPart ?_
  | with_reducible refine g_part ?_
  | with_reducible refine g_bm ?_
  | with_reducible refine g_par ?_
  | with_reducible refine g_yes ?_
  | with_reducible refine g_tupG ?_
  | with_reducible refine g_lstG ?_
  | with_reducible refine g_gcons ?_
  | with_reducible refine g_gnil ?_
  | with_reducible refine g_chain ?_
  | with_reducible refine g_truB ?_
  | with_reducible refine g_truN ?_
  | with_reducible refine g_truI ?_
  | with_reducible refine g_m1 ?_
  | with_reducible refine g_fld ?_
  | with_reducible refine g_con ?_
  | with_reducible refine g_tru ?_
  | with_reducible refine g_U ?_
  | with_reducible refine g_xg ?_
  | with_reducible refine g_andT ?_
  | with_reducible refine g_exI ?_
  | with_reducible refine g_dnew ?_
  | with_reducible refine g_intB ?_
  | with_reducible refine g_meth ?_
  | with_reducible refine g_prop ?_
  | with_reducible refine g_exc1 ?_
  | with_reducible refine g_setF ?_
  | with_reducible refine g_star ?_
  | with_reducible refine g_strM ?_
  | with_reducible refine iteT ?_
  | with_reducible refine iteF ?_
  | with_reducible refine iteNT ?_
  | with_reducible refine iteNF ?_)
local macro_rules | `(tactic| walk_at "go") => `(tactic| repeat (walk_at "go1"))
local macro_rules | `(tactic| walk_at "sz") => `(tactic| (first | (rw [sizeLine_eq]; simp only [List.length_cons, List.length_nil, List.length_map, List.length_append, List.length_take]; omega) | (rw [sizeLine_eq]; omega)))
section
variable {P : Program} {wo : World} {A : Ad} {K : PySem.W.Frag} {mg : Str → Option Value} {base : Heap}

theorem eqVs_nil (l : List Str) : eqVs (l.map V.str) [] = decide (l = []) := by
  cases l <;> rfl
theorem iteAnd {b1 b2 : Bool} {A B : Prop} (h1 : b1 = true → b2 = true → A) (h2 : ¬ (b1 = true ∧ b2 = true) → B) : if (b1 && b2) = true then A else B := by
  cases b1 <;> cases b2
  · exact iteF (h2 (fun z => by cases z.1))
  · exact iteF (h2 (fun z => by cases z.1))
  · exact iteF (h2 (fun z => by cases z.2))
  · exact iteT (h1 rfl rfl)
theorem filter_one {α : Type} {p : α → Prop} [DecidablePred p] (c : α) : [c].filter (fun c => decide (p c)) = if p c then [c] else [] := by
  by_cases h : p c
  · rw [if_pos h, List.filter_cons_of_pos (by exact decide_eq_true h)]
    rfl
  · rw [if_neg h, List.filter_cons_of_neg (by rw [decide_eq_false h]; exact Bool.false_ne_true)]
    rfl
theorem bad_nil (l L : List Nat) : decide (((l.filter fun c => decide (c ∉ L)).map chS) = []) = l.all fun c => decide (c ∈ L) := by
  apply Bool.eq_iff_iff.mpr
  rw [decide_eq_true_eq, List.map_eq_nil_iff, List.filter_eq_nil_iff, List.all_eq_true]
  constructor
  · intro h x hx
    have := h x hx
    rw [decide_eq_true_eq] at this
    exact decide_eq_true (Classical.not_not.mp this)
  · intro h x hx
    rw [decide_eq_true_eq]
    exact Classical.not_not.mpr (of_decide_eq_true (h x hx))
end
end Sv


set_option Elab.async false
set_option linter.all false
set_option maxRecDepth 100000
set_option maxHeartbeats 4000000
namespace Sv
open PySem PySem.Spec PyProof.Rows L2 Sw
local macro_rules | `(tactic| walk_at "go1") => `(tactic| first
  | ((with_reducible refine' g_var ?hv ?_); (case hv => rfl))
  | with_reducible refine g_c ?_
  | with_reducible refine g_op ?_
  | with_reducible refine g_un ?_
  | with_reducible refine g_seq ?_
  | with_reducible refine g_next ?_
  | with_reducible refine g_asg ?_
  | with_reducible refine g_name ?_
  | with_reducible refine g_drop ?_
  | with_reducible refine g_sub ?_
  | with_reducible refine g_ret ?_
  | with_reducible refine g_retN ?_
  | with_reducible refine g_ifS ?_
  | with_reducible refine g_if ?_
  | with_reducible refine g_test ?_
  | with_reducible refine g_bl ?_
  | with_reducible refine g_cons ?_
  | with_reducible refine g_nil ?_
  | with_reducible refine g_and ?_
  | with_reducible refine g_or ?_
  | with_reducible refine g_not ?_
  | with_reducible refine g_callB ?_
  | with_reducible refine g_addI ?_
  | with_reducible refine g_I0 ?_
  | with_reducible refine g_calG ?_
  | with_reducible refine g_mkG ?_
  | with_reducible refine g_tup ?_
  | with_reducible refine g_pairs1 ?_
  | with_reducible refine g_pairs0 ?_
  | with_reducible refine g_dget ?_
  | with_reducible refine g_lvals ?_
  | with_reducible refine g_forT ?_
  | with_reducible refine g_lcT ?_
  | with_reducible refine g_dput ?_
  | with_reducible refine g_lc2L ?_
  | with_reducible refine g_iList ?_
  | with_reducible refine g_lcX ?_
  | with_reducible refine g_js1 ?_
  | with_reducible refine g_js0 ?_
  | with_reducible refine g_fmt ?_
  | with_reducible refine g_tLenSet ?_
  | with_reducible refine g_mkV ?_
  | with_reducible refine g_mkV1 ?_
  | with_reducible refine g_lst ?_
  | with_reducible refine g_forL ?_
  | with_reducible refine g_forR ?_
  | with_reducible refine g_forR2 ?_
  | with_reducible refine g_forS ?_
  | with_reducible refine g_forE ?_
  | with_reducible refine g_lcL ?_
  | with_reducible refine g_lcR ?_
  | with_reducible refine g_lcS ?_
  | with_reducible refine g_lcE ?_
  | with_reducible refine g_orT ?_
  | with_reducible refine g_slc ?_
  | with_reducible refine g_noPart ?_
  | with_reducible refine g_part ?_
  | with_reducible refine g_bm ?_
  | with_reducible refine g_par ?_
  | with_reducible refine g_yes ?_
  | with_reducible refine g_tupG ?_
  | with_reducible refine g_lstG ?_
  | with_reducible refine g_gcons ?_
  | with_reducible refine g_gnil ?_
  | with_reducible refine g_chain ?_
  | with_reducible refine g_truB ?_
  | with_reducible refine g_truN ?_
  | with_reducible refine g_truI ?_
  | with_reducible refine g_m1 ?_
  | with_reducible refine g_fld ?_
  | with_reducible refine g_con ?_
  | with_reducible refine g_tru ?_
  | with_reducible refine g_U ?_
  | with_reducible refine g_xg ?_
  | with_reducible refine g_andT ?_
  | with_reducible refine g_exI ?_
  | with_reducible refine g_dnew ?_
  | with_reducible refine g_intB ?_
  | with_reducible refine g_meth ?_
  | with_reducible refine g_prop ?_
  | with_reducible refine g_exc1 ?_
  | with_reducible refine g_setF ?_
  | with_reducible refine g_star ?_
  | with_reducible refine g_strM ?_
  | with_reducible refine iteT ?_
  | with_reducible refine iteF ?_
  | with_reducible refine iteNT ?_
  | with_reducible refine iteNF ?_)
local macro_rules | `(tactic| walk_at "go") => `(tactic| repeat (walk_at "go1"))
local macro_rules | `(tactic| walk_at "sz") => `(tactic| (first | (rw [sizeLine_eq]; simp only [List.length_cons, List.length_nil, List.length_map, List.length_append, List.length_take]; omega) | (rw [sizeLine_eq]; omega)))
section
variable {P : Program} {wo : World} {A : Ad} {K : PySem.W.Frag} {mg : Str → Option Value} {base : Heap}

/-! ### _law_column -/
def colTup (c : Col) : List V := [.str (kstr c.k), .str c.name, if c.k = .ref then .str c.target else .non, .bl c.opt, if c.k = .ref then .str c.rule else .non]
/-- no target, no rule but of a reference -/
def Col.nrm (c : Col) : Prop := c.k ≠ .ref → c.target = "" ∧ c.rule = ""
def spColumn (K : PySem.W.Frag) : Sp := fun vs H Q _ => ∃ G a c t nm, ∃ ts : List Str, vs = [.ref a, .ref t, .str nm] ∧ Wd G (RD a c) H ∧ G t = some (.lst (ts.map V.str)) ∧ 0 < ts.length ∧ ts.length ≤ 1000 ∧
  ∀ co p H', co.name = nm → co.nrm → (co.k = .ref → co.target ∈ ts ∧ ruleOk co.rule co.opt = true) → G p = none → Wd (upd G p (.tup (colTup co))) (RD a c) H' → Q (.ref p) H'
theorem sc__law_column : FnScope (["_law_state", "_law_tables", "_law_name", "_law_kind", "_law_empty", "_law_rules"] : List Str) (["_law_state", "_law_tables", "_law_name"] : List Str) (defScope s__law_column) := ⟨rfl, rfl, rfl, by decide +kernel, rfl, by decide +kernel, by decide +kernel⟩
theorem ok_column {f : Addr} {fd : FuncData} (F : Fun K "_law_column" "_law_column" s__law_column f fd) (T : Txt K mg A) (Gd : GFn P wo K mg base 1 "_law_draw" 2 [] (fun vs _ => spDraw vs)) (Gp : GFn P wo K mg base 2 "_law_pick" 2 [] (fun vs _ => spPick K vs)) : FnOk P wo K mg base (L2.CX P wo) 3 f fd (["_law_state", "_law_tables", "_law_name"] : List Str) (spColumn K) := by
  refine okT F sc__law_column (fun vs H Q E h => ?_) (fun cdv Ar outer s H vs Q E hr tk po h => ?_)
  · obtain ⟨_, _, _, _, _, _, rfl, _⟩ := h
    rfl
  obtain ⟨G, a, c, t, nm, ts, rfl, w, ht, t0, t1, k⟩ := h
  refine ⟨_, (pss_cons (ps_par (i := 3) (j := 4) rfl sc__law_column.nd rfl rfl (by decide) rfl rfl (pa_cons (pe_callG Gp (hr.mono (by decide)) tk (pa_cons (pv 0) (pa_cons (pe_lst (pa_cons pe_str (pa_cons pe_str (pa_cons pe_str (pa_cons pe_str pa_nil))))) pa_nil)) pk_nil) (pa_cons (pe_cmpR (ka_eq K hr.units) (pe_callG Gd (hr.mono (by decide)) tk (pa_cons (pv 0) (pa_cons pe_int pa_nil)) pk_nil) pe_int (nomark _)) pa_nil)) (by rfl))
      (pss_cons (ps_if (pt_cmpR (ka_ne K hr.units) (pv 3) pe_str (nomark _)) (pss_one (ps_ret (pe_tup (pa_cons (pv 3) (pa_cons (pv 2) (pa_cons pe_non (pa_cons (pv 4) (pa_cons pe_non pa_nil)))))))) pss_nil)
      (pss_cons (ps_set (i := 5) sc__law_column.nd rfl (by first | exact Or.inl rfl | exact Or.inr rfl) (pe_op (ka_add K) (pe_lst (pa_cons pe_str (pa_cons pe_str pa_nil))) (pe_op (ka_mul K) (pe_lst (pa_cons pe_str pa_nil)) (pe_callTy ka_int (by rfl) T.nb_int (by decide +kernel) (pa_cons (pv 4) pa_nil)))))
      (pss_one (ps_ret (pe_tup (pa_cons (pv 3) (pa_cons (pv 2) (pa_cons (pe_callG Gp (hr.mono (by decide)) tk (pa_cons (pv 0) (pa_cons (pv 1) pa_nil)) pk_nil) (pa_cons (pv 4) (pa_cons (pe_callG Gp (hr.mono (by decide)) tk (pa_cons (pv 0) (pa_cons (pv 5) pa_nil)) pk_nil) pa_nil))))))))))), ?_⟩
  walk_at "go"
  refine g_newL w (by walk_at "sz") fun p1 H1 n1 w1 => ?_
  walk_at "go"
  refine ⟨rfl, rfl, _, a, c, w1, .inl ⟨p1, _, rfl, .inl (SqL.of upd_same), by decide, by decide, fun x H2 hx w2 => ?_⟩⟩
  replace w2 := w2.drop (Same.newG n1)
  walk_at "go"
  refine ⟨rfl, rfl, G, a, c, 2, rfl, w2, by decide, by decide, fun r H3 r0 r1 w3 => ?_⟩
  walk_at "go"
  refine g_eqS rfl ?_
  walk_at "go"
  refine ⟨_, _, rfl, ?_⟩
  have hk : ∃ kd : Kd, x = .str (kstr kd) := by
    simp only [List.mem_cons, List.not_mem_nil, or_false] at hx
    rcases hx with rfl | rfl | rfl | rfl
    · exact ⟨.int, rfl⟩
    · exact ⟨.text, rfl⟩
    · exact ⟨.ref, rfl⟩
    · exact ⟨.ref, rfl⟩
  obtain ⟨kd, rfl⟩ := hk
  generalize decide (V.int r = V.int 0) = e
  walk_at "go"
  refine g_neS rfl ?_
  walk_at "go"
  refine iteN (fun h1 => ?_) (fun h1 => ?_)
  · walk_at "go"
    have hkr : kd ≠ .ref := fun z => h1 (by rw [z]; rfl)
    refine g_newL w3 (by walk_at "sz") fun p H4 n4 w4 => ?_
    refine k ⟨kd, nm, e, "", ""⟩ p H4 rfl (fun _ => ⟨rfl, rfl⟩) (fun z => absurd z hkr) n4 ?_
    have : colTup ⟨kd, nm, e, "", ""⟩ = [.str (kstr kd), .str nm, .non, .bl e, .non] := by
      unfold colTup
      simp only [if_neg hkr]
    rw [this]
    exact w4
  · have hkr : kd = .ref := by
      cases kd with
      | ref => rfl
      | int => exact absurd (V.str.inj h1) (by decide)
      | text => exact absurd (V.str.inj h1) (by decide)
    subst hkr
    walk_at "go"
    refine g_newL w3 (by walk_at "sz") fun p4 H4 n4 w4 => ?_
    walk_at "go"
    refine g_newL w4 (by walk_at "sz") fun p5 H5 n5 w5 => ?_
    walk_at "go"
    refine g_mulL w5 upd_same (by cases e <;> decide) (by cases e <;> decide) (by rw [sizeLine_eq]; cases e <;> decide) fun p6 H6 n6 w6 => ?_
    have er : (List.replicate ((if e = true then (1 : Int) else 0)).toNat [V.str "clear"]).flatten = (if e = true then [V.str "clear"] else []) := by
      cases e <;> rfl
    rw [er] at w6
    refine g_addL w6 (upd_old (upd_old upd_same n5) n6) upd_same (by rw [sizeLine_eq]; cases e <;> decide) fun p7 H7 n7 w7 => ?_
    have s7 := fun o => Same.trans (Same.trans (Same.trans (Same.newG n4) (Same.newG n5)) (Same.newG n6)) (Same.newG (o := o) n7)
    walk_at "go"
    refine ⟨rfl, rfl, _, a, c, w7, .inl ⟨t, _, rfl, .inl (SqL.of (s7 _ _ _ ht)), by rw [List.length_map]; exact t0, by rw [List.length_map]; omega, fun x H8 hx8 w8 => ?_⟩⟩
    obtain ⟨tg, htg, rfl⟩ := List.mem_map.mp hx8
    walk_at "go"
    refine ⟨rfl, rfl, _, a, c, w8, .inl ⟨p7, _, rfl, .inl (SqL.of upd_same), by cases e <;> decide, by cases e <;> decide, fun x H9 hx9 w9 => ?_⟩⟩
    obtain ⟨ru, rfl, hru⟩ : ∃ ru : Str, x = .str ru ∧ ruleOk ru e = true := by
      cases e with
      | true =>
        simp only [if_true, List.mem_append, List.mem_cons, List.not_mem_nil, or_false] at hx9
        rcases hx9 with (rfl | rfl) | rfl
        · exact ⟨_, rfl, by decide +kernel⟩
        · exact ⟨_, rfl, by decide +kernel⟩
        · exact ⟨_, rfl, by decide +kernel⟩
      | false =>
        simp only [Bool.false_eq_true, if_false, List.append_nil, List.mem_cons, List.not_mem_nil, or_false] at hx9
        rcases hx9 with rfl | rfl
        · exact ⟨_, rfl, by decide +kernel⟩
        · exact ⟨_, rfl, by decide +kernel⟩
    walk_at "go"
    replace w9 := w9.drop (s7 _)
    refine g_newL w9 (by walk_at "sz") fun p H10 n10 w10 => ?_
    exact k ⟨.ref, nm, e, tg, ru⟩ p H10 rfl (fun z => absurd rfl z) (fun _ => ⟨htg, hru⟩) n10 w10

/-! ### _law_column_text -/
def spColText (K : PySem.W.Frag) : Sp := fun vs H Q _ => ∃ G R p c, vs = [.ref p] ∧ Wd G R H ∧ SqT K G p (colTup c) ∧ c.ok ∧ ∀ H', Wd G R H' → Q (.str c.text) H'
theorem sc__law_column_text : FnScope (["_law_column_here", "_law_kind", "_law_name", "_law_target", "_law_empty", "_law_law_rule", "_law_words"] : List Str) (["_law_column_here"] : List Str) (defScope s__law_column_text) := ⟨rfl, rfl, rfl, by decide +kernel, rfl, by decide +kernel, by decide +kernel⟩
theorem ok_column_text {f : Addr} {fd : FuncData} (F : Fun K "_law_column_text" "_law_column_text" s__law_column_text f fd) (T : Txt K mg A) : FnOk P wo K mg base (L2.CX P wo) 1 f fd (["_law_column_here"] : List Str) (spColText K) := by
  refine okT F sc__law_column_text (fun vs H Q E h => ?_) (fun cdv Ar outer s H vs Q E hr tk po h => ?_)
  · obtain ⟨_, _, _, _, rfl, _⟩ := h
    rfl
  obtain ⟨G, R, p, c, rfl, w, hp, ok, k⟩ := h
  refine ⟨_, (pss_cons (ps_asg (pv 0) (kg_tup (n := 5) K rfl (pgs_cons (pg_name (i := 1) sc__law_column_text.nd rfl (by first | exact Or.inl rfl | exact Or.inr rfl)) (pgs_cons (pg_name (i := 2) sc__law_column_text.nd rfl (by first | exact Or.inl rfl | exact Or.inr rfl)) (pgs_cons (pg_name (i := 3) sc__law_column_text.nd rfl (by first | exact Or.inl rfl | exact Or.inr rfl)) (pgs_cons (pg_name (i := 4) sc__law_column_text.nd rfl (by first | exact Or.inl rfl | exact Or.inr rfl)) (pgs_cons (pg_name (i := 5) sc__law_column_text.nd rfl (by first | exact Or.inl rfl | exact Or.inr rfl)) pgs_nil)))))))
      (pss_cons (ps_set (i := 6) sc__law_column_text.nd rfl (by first | exact Or.inl rfl | exact Or.inr rfl) (pe_op (ka_add K) (pe_op (ka_add K) (pe_lst (pa_cons (pv 1) (pa_cons (pv 2) pa_nil))) (pe_op (ka_mul K) (pe_lst (pa_cons (pv 3) pa_nil)) (pe_callTy ka_int (by rfl) T.nb_int (by decide +kernel) (pa_cons (pe_cmpR (ka_eq K hr.units) (pv 1) pe_str (nomark _)) pa_nil)))) (pe_op (ka_mul K) (pe_lst (pa_cons pe_str pa_nil)) (pe_callTy ka_int (by rfl) T.nb_int (by decide +kernel) (pa_cons (pv 4) pa_nil)))))
      (pss_one (ps_ret (ke_join K pe_str (pe_op (ka_add K) (pv 6) (pe_op (ka_mul K) (pe_lst (pa_cons (pv 5) pa_nil)) (pe_callTy ka_int (by rfl) T.nb_int (by decide +kernel) (pa_cons (pe_cmpR (ka_eq K hr.units) (pv 1) pe_str (nomark _)) pa_nil))))))))), ?_⟩
  have hz := Col.text_len ok
  walk_at "go"
  refine ⟨p, _, rfl, Evl.ex_t w.sub hp, rfl, ?_⟩
  unfold colTup
  walk_at "go"
  refine g_newL w (by walk_at "sz") fun p1 H1 n1 w1 => ?_
  walk_at "go"
  refine g_newL w1 (by walk_at "sz") fun p2 H2 n2 w2 => ?_
  walk_at "go"
  refine g_eqS rfl ?_
  walk_at "go"
  have eb : decide (V.str (kstr c.k) = V.str "ref") = decide (c.k = .ref) := by
    cases c.k <;> decide
  have ew : ∀ b : Bool, b = decide (c.k = .ref) → (([V.str (kstr c.k), V.str c.name] ++ (if b = true then [if c.k = .ref then V.str c.target else .non] else [])) ++ (if c.opt = true then [V.str "optional"] else [])) ++ (if b = true then [if c.k = .ref then V.str c.rule else .non] else []) = c.words.map V.str := fun b hb => by
    subst hb
    by_cases hr : c.k = .ref
    · rw [if_pos hr, if_pos hr, if_pos (decide_eq_true hr), if_pos (decide_eq_true hr)]
      unfold Col.words optW
      rw [if_pos hr]
      cases c.opt <;> rfl
    · have hd : ¬ (decide (c.k = .ref) = true) := fun z => hr (of_decide_eq_true z)
      rw [if_neg hd, if_neg hd]
      unfold Col.words Col.words0 optW
      rw [if_neg hr]
      cases c.opt <;> rfl
  have rep : ∀ (b : Bool) (x : V), (List.replicate ((if b = true then (1 : Int) else 0)).toNat [x]).flatten = (if b = true then [x] else []) := fun b x => by
    cases b <;> rfl
  have fits : ∀ b : Bool, -(2 ^ 63) ≤ (if b = true then (1 : Int) else 0) ∧ (if b = true then (1 : Int) else 0) < 2 ^ 63 ∧ 1 * (if b = true then (1 : Int) else 0).toNat ≤ sizeLine := fun b => by
    rw [sizeLine_eq]
    cases b <;> decide
  have l1 : ∀ (b : Bool) (x : V), (if b = true then [x] else []).length ≤ 1 := fun b x => by
    cases b <;> simp
  rw [eb]
  replace ew := ew _ rfl
  generalize decide (c.k = .ref) = b at *
  generalize (if c.k = .ref then V.str c.target else .non) = tv at *
  generalize (if c.k = .ref then V.str c.rule else .non) = rv at *
  refine g_mulL w2 upd_same (fits b).1 (fits b).2.1 (fits b).2.2 fun p3 H3 n3 w3 => ?_
  rw [rep] at w3
  refine g_addL w3 (upd_old (upd_old upd_same n2) n3) upd_same (by have := l1 b tv; rw [sizeLine_eq]; show 2 + _ ≤ _; omega) fun p4 H4 n4 w4 => ?_
  walk_at "go"
  refine g_newL w4 (by walk_at "sz") fun p5 H5 n5 w5 => ?_
  walk_at "go"
  refine g_mulL w5 upd_same (fits _).1 (fits _).2.1 (fits _).2.2 fun p6 H6 n6 w6 => ?_
  rw [rep] at w6
  refine g_addL w6 (upd_old (upd_old upd_same n5) n6) upd_same (by have := l1 b tv; have := l1 c.opt (.str "optional"); rw [sizeLine_eq]; simp only [List.length_append, List.length_cons, List.length_nil]; omega) fun p7 H7 n7 w7 => ?_
  walk_at "go"
  refine g_newL w7 (by walk_at "sz") fun p8 H8 n8 w8 => ?_
  walk_at "go"
  refine g_eqS rfl ?_
  walk_at "go"
  rw [eb]
  refine g_mulL w8 upd_same (fits b).1 (fits b).2.1 (fits b).2.2 fun p9 H9 n9 w9 => ?_
  rw [rep] at w9
  refine g_addL w9 (upd_old (upd_old upd_same n8) n9) upd_same (by have := l1 b tv; have := l1 b rv; have := l1 c.opt (.str "optional"); rw [sizeLine_eq]; simp only [List.length_append, List.length_cons, List.length_nil]; omega) fun p10 H10 n10 w10 => ?_
  walk_at "go"
  rw [ew] at w10
  refine g_join w10 (SqL.of upd_same) (Nat.le_trans (show _ ≤ 64 from hz) (by decide)) ?_
  refine k _ (w10.drop ?_)
  exact Same.trans (Same.trans (Same.trans (Same.trans (Same.trans (Same.trans (Same.trans (Same.trans (Same.trans (Same.newG n1) (Same.newG n2)) (Same.newG n3)) (Same.newG n4)) (Same.newG n5)) (Same.newG n6)) (Same.newG n7)) (Same.newG n8)) (Same.newG n9)) (Same.newG n10)
end
end Sv


set_option Elab.async false
set_option linter.all false
set_option maxRecDepth 100000
set_option maxHeartbeats 4000000
namespace Sv
open PySem PySem.Spec PyProof.Rows L2 Sw
theorem low_nospace {s : Str} (h : lowS s = true) : 32 ∉ TL.tl s := fun z => by
  unfold lowS at h
  have := List.all_eq_true.mp h 32 z
  rw [decide_eq_true_eq] at this
  revert this
  decide +kernel
theorem isNm_low {s : Str} (h : isNm s = true) : lowS s = true := by
  unfold isNm at h
  exact (Bool.and_eq_true_iff.mp h).2
theorem words_nospace {c : Col} (h : c.ok) : ∀ w ∈ c.words, 32 ∉ TL.tl w := by
  have hk : 32 ∉ TL.tl (kstr c.k) := by
    cases c.k <;> decide +kernel
  have hn := low_nospace (isNm_low h.1)
  have ho : ∀ w ∈ optW c.opt, 32 ∉ TL.tl w := by
    unfold optW
    split
    · decide +kernel
    · intro w hw
      cases hw
  intro w hw
  unfold Col.words at hw
  split at hw
  · rename_i e
    obtain ⟨h2, h3⟩ := h.2 e
    simp only [List.mem_append, List.mem_cons, List.not_mem_nil, or_false] at hw
    rcases hw with ((rfl | rfl | rfl) | hw) | rfl
    · exact hk
    · exact hn
    · exact low_nospace (isNm_low h2)
    · exact ho w hw
    · rcases ruleOk_mem h3 with q | q | q <;> rw [q] <;> decide +kernel
  · unfold Col.words0 at hw
    simp only [List.mem_append, List.mem_cons, List.not_mem_nil, or_false] at hw
    rcases hw with (rfl | rfl) | hw
    · exact hk
    · exact hn
    · exact ho w hw
theorem words_ne (c : Col) : c.words ≠ [] := by
  unfold Col.words Col.words0
  split <;> exact fun z => nomatch z
theorem split_text {c : Col} (h : c.ok) : Txt.split c.text " " = c.words :=
  TL.split_join (s := 32) (S := []) rfl (by decide +kernel) (words_ne c) (words_nospace h)
theorem mkCol_words {c : Col} (n : c.nrm) : mkCol c.words = some c := by
  obtain ⟨k, nm, o, t, r⟩ := c
  cases k with
  | ref =>
    cases o
    · exact if_pos ⟨rfl, .inl rfl⟩
    · exact if_pos ⟨rfl, .inr rfl⟩
  | int =>
    obtain ⟨e1, e2⟩ := n (fun z => nomatch z)
    have e1 : t = "" := e1
    have e2 : r = "" := e2
    subst e1 e2
    cases o
    · exact (if_neg (fun z => absurd (show ("int" : Str) = "ref" from z.1) (by decide +kernel))).trans (if_pos ⟨rfl, .inl rfl⟩)
    · exact (if_neg (fun z => absurd (show ("int" : Str) = "ref" from z.1) (by decide +kernel))).trans (if_pos ⟨rfl, .inr rfl⟩)
  | text =>
    obtain ⟨e1, e2⟩ := n (fun z => nomatch z)
    have e1 : t = "" := e1
    have e2 : r = "" := e2
    subst e1 e2
    cases o
    · exact (if_neg (fun z => absurd (show ("text" : Str) = "ref" from z.1) (by decide +kernel))).trans ((if_neg (fun z => absurd (show ("text" : Str) = "int" from z.1) (by decide +kernel))).trans (if_pos ⟨rfl, .inl rfl⟩))
    · exact (if_neg (fun z => absurd (show ("text" : Str) = "ref" from z.1) (by decide +kernel))).trans ((if_neg (fun z => absurd (show ("text" : Str) = "int" from z.1) (by decide +kernel))).trans (if_pos ⟨rfl, .inr rfl⟩))
theorem parseT_text {c : Col} (h : c.ok) (n : c.nrm) : parseT c.text = some c := by
  unfold parseT
  rw [split_text h, parseW_some (mkCol_words n) h]
  exact if_pos rfl
theorem text_col {c d : Col} (h : c.ok) (n : c.nrm) (h' : d.ok) (n' : d.nrm) : c.text = d.text ↔ c = d := by
  constructor
  · intro e
    have e1 := parseT_text h n
    rw [e, parseT_text h' n'] at e1
    exact (Option.some.inj e1).symm
  · rintro rfl
    rfl
end Sv

set_option Elab.async false
set_option linter.all false
set_option maxRecDepth 100000
set_option maxHeartbeats 4000000
namespace Sw
open PySem PySem.Spec PyProof.Rows L2
/-! ### e or super().m(..) -/
section
variable {X : Cx} {body : List Stmt} {a b : Expr} {rest : List Expr} {ta tb : TE} {pos : Pos}
theorem pet_one {op : BoolOp} (h : PEt X body a ta) : PEt X body (.BoolOp op [a] pos) ta := ⟨fun pins s σ H Q I hw => h.run pins s σ H Q I hw⟩
theorem pet_orT (K : PySem.W.Frag) (ha : PE X a ta) (hb : PEt X body (.BoolOp .Or (b :: rest) pos) tb) (hK : X.K = K := by rfl) : PEt X body (.BoolOp .Or (a :: b :: rest) pos) (tOrT K ta tb) := by
  subst hK
  refine ⟨fun pins s σ H Q I h => ?_⟩
  show _root_.PySem.wpAt _ _ _ (do
    let v ← eval a X.env
    standAt pos
    let c ← holding [v] (truthy v)
    match BoolOp.Or, c with
    | .And, false | .Or, true => pure v
    | _, _ => boolOp pos .Or (eval b X.env :: evalEach rest X.env)) _ _ s
  refine PySem.wpAt_bind (wpAt_of_wpAny (thn (ha.run pins s σ H _ I h) ?_))
  rintro v s1 ⟨x, H1, I1, r1, k, e, q1⟩
  refine PySem.wpAt_bind (wpAt_of_wpAny (wpAny_standAt ?_))
  refine PySem.wpAt_bind (wpAt_of_wpAny (wpAny_holding (thn (tru_ok pins s1 σ H1 x v (fun c H2 => c = k ∧ H2 = H1) I1 r1 ⟨k, e, rfl, rfl⟩) ?_)))
  rintro c s2 ⟨H2, I2, e1, e2⟩
  rw [e2] at I2
  rw [← e1] at q1
  cases c with
  | true => exact wpAt_of_wpAny (wpAny_pure ⟨x, H1, I2, r1, q1⟩)
  | false => exact hb.run pins s2 σ H1 Q I2 q1
end
theorem ke_cval {X : Cx} {e : Expr} {f : Str} {ta : TE} {pos : Pos} (K : PySem.W.Frag) (he : PE X e ta) (hb : attributeBase e f X.env (eval e X.env) = eval e X.env := by rfl) (hK : X.K = K := by rfl) : PE X (.Attribute e f pos) (ClX.tCVal K ta f) := by
  subst hK
  exact ClX.pe_cval he hb
end Sw

set_option Elab.async false
set_option linter.all false
set_option maxRecDepth 100000
set_option maxHeartbeats 4000000
namespace Sw
open PySem PySem.Spec PyProof.Rows L2
/-! ### x == y by an own __eq__ that gives a truth value -/
def rEqO (P : Program) (w : World) (K : PySem.W.Frag) (mg : Str → Option Value) (base : Heap) (k : Nat) : R2 := fun x y H Q => ∃ a C dx fs sp tb, x = .ref a ∧ H a = some (.ins C dx fs) ∧ GMt P w K mg base k C "__eq__" 1 [] sp ∧ TyX K H y tb ∧ PySem.W.notFirst K C tb = true ∧
  sp [.ref a, y] [] H (fun v H' => ∃ b, v = .bl b ∧ Q (.bl b) H') E0
theorem oo_eq {X : Cx} {k : Nat} (hr : Room k X.A) : OpR X (compareOp .Eq) (rEqO X.prog X.w X.K X.mg X.base k) := by
  intro pins s σ H x y v u Q I rx ry h
  obtain ⟨a, C, dx, fs, sp, tb, rfl, ha, G, ty, hn, hs⟩ := h
  obtain rfl : v = Value.ref a := rx
  obtain ⟨f, M, F⟩ := G.ex
  obtain ⟨mA, J, _⟩ := ins_get I.hok ha
  obtain ⟨od, J, _⟩ := J.look
  obtain ⟨Pk, kx, hp, _⟩ := kit_of I ry ty
  obtain ⟨m, hF⟩ := I.fr
  show wpAny (model X.prog X.w) X.A (richCompare .Eq (.ref a) u) (EP X pins σ Q) X.xe s
  refine PySem.W.cmp_K (op := .Eq) hr.units0 hF I.ok.mod.kin J (kx.ty _ _ I.kIn hp) hn M.at_ M.fn ?_
  refine wpAny_call (codeAny_mono (F X.A X.stack s H [.ref a, u] [] [.ref a, y] [] _ E0 hr I.env0 (.cons rfl (.cons ry .nil)) .nil rfl rfl hs) ?_)
  intro r s' hq
  match r, hq with
  | .error er, hq => exact False.elim (passL (X := X.nox) pins σ H s er s' (I.wish _) hq)
  | .ok (.ret z), hq =>
    obtain ⟨v, H', I3, rv, b, eb, q3⟩ := I.after hq
    subst eb
    obtain rfl : z = Value.bool b := rv
    exact ⟨.bl b, H', I3, rfl, q3⟩
  | .ok .next, hq => exact False.elim hq
  | .ok .brk, hq => exact False.elim hq
  | .ok .cont, hq => exact False.elim hq
theorem ko_eq {X : Cx} {k : Nat} (P : Program) (w : World) (K : PySem.W.Frag) (mg : Str → Option Value) (base : Heap) (hr : Room k X.A) (h1 : X.prog = P := by rfl) (h2 : X.w = w := by rfl) (h3 : X.K = K := by rfl) (h4 : X.mg = mg := by rfl) (h5 : X.base = base := by rfl) : OpR X (compareOp .Eq) (rEqO P w K mg base k) := by
  subst h1 h2 h3 h4 h5
  exact oo_eq hr
end Sw

set_option Elab.async false
set_option linter.all false
set_option maxRecDepth 100000
set_option maxHeartbeats 4000000
namespace Sv
open PySem PySem.Spec PyProof.Rows L2 Sw
local macro_rules | `(tactic| walk_at "go1") => `(tactic| first
  | ((with_reducible refine' g_var ?hv ?_); (case hv => rfl))
  | with_reducible refine g_c ?_
  | with_reducible refine g_op ?_
  | with_reducible refine g_un ?_
  | with_reducible refine g_seq ?_
  | with_reducible refine g_next ?_
  | with_reducible refine g_asg ?_
  | with_reducible refine g_name ?_
  | with_reducible refine g_drop ?_
  | with_reducible refine g_sub ?_
  | with_reducible refine g_ret ?_
  | with_reducible refine g_retN ?_
  | with_reducible refine g_ifS ?_
  | with_reducible refine g_if ?_
  | with_reducible refine g_test ?_
  | with_reducible refine g_bl ?_
  | with_reducible refine g_cons ?_
  | with_reducible refine g_nil ?_
  | with_reducible refine g_and ?_
  | with_reducible refine g_or ?_
  | with_reducible refine g_not ?_
  | with_reducible refine g_callB ?_
  | with_reducible refine g_addI ?_
  | with_reducible refine g_I0 ?_
  | with_reducible refine g_calG ?_
  | with_reducible refine g_mkG ?_
  | with_reducible refine g_tup ?_
  | with_reducible refine g_pairs1 ?_
  | with_reducible refine g_pairs0 ?_
  | with_reducible refine g_dget ?_
  | with_reducible refine g_lvals ?_
  | with_reducible refine g_forT ?_
  | with_reducible refine g_lcT ?_
  | with_reducible refine g_dput ?_
  | with_reducible refine g_lc2L ?_
  | with_reducible refine g_iList ?_
  | with_reducible refine g_lcX ?_
  | with_reducible refine g_js1 ?_
  | with_reducible refine g_js0 ?_
  | with_reducible refine g_fmt ?_
  | with_reducible refine g_tLenSet ?_
  | with_reducible refine g_mkV ?_
  | with_reducible refine g_mkV1 ?_
  | with_reducible refine g_lst ?_
  | with_reducible refine g_forL ?_
  | with_reducible refine g_forR ?_
  | with_reducible refine g_forR2 ?_
  | with_reducible refine g_forS ?_
  | with_reducible refine g_forE ?_
  | with_reducible refine g_lcL ?_
  | with_reducible refine g_lcR ?_
  | with_reducible refine g_lcS ?_
  | with_reducible refine g_lcE ?_
  | with_reducible refine g_orT ?_
  | with_reducible refine g_slc ?_
  | with_reducible refine g_noPart ?_
  | with_reducible refine g_part ?_
  | with_reducible refine g_bm ?_
  | with_reducible refine g_par ?_
  | with_reducible refine g_yes ?_
  | with_reducible refine g_tupG ?_
  | with_reducible refine g_lstG ?_
  | with_reducible refine g_gcons ?_
  | with_reducible refine g_gnil ?_
  | with_reducible refine g_chain ?_
  | with_reducible refine g_truB ?_
  | with_reducible refine g_truN ?_
  | with_reducible refine g_truI ?_
  | with_reducible refine g_m1 ?_
  | with_reducible refine g_fld ?_
  | with_reducible refine g_con ?_
  | with_reducible refine g_tru ?_
  | with_reducible refine g_U ?_
  | with_reducible refine g_xg ?_
  | with_reducible refine g_andT ?_
  | with_reducible refine g_exI ?_
  | with_reducible refine g_dnew ?_
  | with_reducible refine g_intB ?_
  | with_reducible refine g_meth ?_
  | with_reducible refine g_prop ?_
  | with_reducible refine g_exc1 ?_
  | with_reducible refine g_setF ?_
  | with_reducible refine g_star ?_
  | with_reducible refine g_strM ?_
  | with_reducible refine iteT ?_
  | with_reducible refine iteF ?_
  | with_reducible refine iteNT ?_
  | with_reducible refine iteNF ?_)
local macro_rules | `(tactic| walk_at "go") => `(tactic| repeat (walk_at "go1"))
local macro_rules | `(tactic| walk_at "sz") => `(tactic| (first | (rw [sizeLine_eq]; simp only [List.length_cons, List.length_nil, List.length_map, List.length_append, List.length_take]; omega) | (rw [sizeLine_eq]; omega)))
/-! ### values of every kind -/
inductive VD where
  | non | int (i : Int) | bl (b : Bool) | str (s : Str) | oth
inductive VAt (K : PySem.W.Frag) (G : Hp) : V → VD → Prop
  | non : VAt K G .non .non
  | int (i : Int) : VAt K G (.int i) (.int i)
  | bl (b : Bool) : VAt K G (.bl b) (.bl b)
  | str (s : Str) (h : s.length ≤ 1000000) : VAt K G (.str s) (.str s)
  | oth {a : Addr} {t : Value} (h : TyX K G (.ref a) t) (h1 : PySem.W.kitOne K t (.type "int") = some false) (h2 : PySem.W.kitOne K t (.type "str") = some false) : VAt K G (.ref a) .oth
theorem VAt.same {K : PySem.W.Frag} {G H : Hp} {v : V} {d : VD} (h : VAt K G v d) (e : Same G H) : VAt K H v d := by
  cases h with
  | non => exact .non
  | int i => exact .int i
  | bl b => exact .bl b
  | str s h => exact .str s h
  | oth h h1 h2 => exact .oth (tyX_same e h) h1 h2
structure TyF (K : PySem.W.Frag) : Prop where
  ni : PySem.W.kitOne K (.type "NoneType") (.type "int") = some false
  ns : PySem.W.kitOne K (.type "NoneType") (.type "str") = some false
  ii : PySem.W.kitOne K (.type "int") (.type "int") = some true
  ib : PySem.W.kitOne K (.type "int") (.type "bool") = some false
  is : PySem.W.kitOne K (.type "int") (.type "str") = some false
  bi : PySem.W.kitOne K (.type "bool") (.type "int") = some true
  bb : PySem.W.kitOne K (.type "bool") (.type "bool") = some true
  bs : PySem.W.kitOne K (.type "bool") (.type "str") = some false
  si : PySem.W.kitOne K (.type "str") (.type "int") = some false
def isI : VD → Bool
  | .int _ => true
  | _ => false
def isK : VD → Bool
  | .int i => decide (0 ≤ i)
  | _ => false
def isT : VD → Bool
  | .str s => !decide (10 ∈ s.cps.toList)
  | _ => false
def isN : VD → Bool
  | .non => true
  | _ => false
theorem VAt.isN {K : PySem.W.Frag} {G : Hp} {v : V} {d : VD} (h : VAt K G v d) : decide (v = .non) = Sv.isN d := by
  cases h <;> rfl
section
variable {P : Program} {wo : World} {A : Ad} {K : PySem.W.Frag} {mg : Str → Option Value} {base : Heap}
theorem g_notT {σ : L2.St} {H : Hp} {Q : VK} {ta : TE} (k : ta σ H fun x H1 => ∃ b, TruV K x H1 b ∧ Q (.bl (!b)) H1) : tNotT K ta σ H Q := k
def spVal (K : PySem.W.Frag) (f : VD → Bool) : Sp := fun vs H Q _ => ∃ v d, vs = [v] ∧ VAt K H v d ∧ Q (.bl (f d)) H
theorem sc_is_integer : FnScope (["value"] : List Str) (["value"] : List Str) (defScope s_is_integer) := ⟨rfl, rfl, rfl, by decide +kernel, rfl, by decide +kernel, by decide +kernel⟩
theorem ok_is_int {f : Addr} {fd : FuncData} (F : Fun K "is_integer" "is_integer" s_is_integer f fd) (T : Txt K mg A) (TY : TyF K) : FnOk P wo K mg base (L2.CX P wo) 1 f fd (["value"] : List Str) (spVal K isI) := by
  refine okT F sc_is_integer (fun vs H Q E h => ?_) (fun cdv Ar outer s H vs Q E hr tk po h => ?_)
  · obtain ⟨_, _, rfl, _⟩ := h
    rfl
  obtain ⟨v, d, rfl, hv, k⟩ := h
  refine ⟨_, (pss_one (ps_ret (ke_andT K (pe_callB (ka_isi K) (by rfl) T.nb_isinstance (by decide +kernel) (pa_cons (pv 0) (pa_cons (pe_bltn (v := .ty "int") (u := .type "int") (by rfl) T.nb_int (by decide +kernel) rfl) pa_nil))) (pe_one (pe_notT (pe_callB (ka_isi K) (by rfl) T.nb_isinstance (by decide +kernel) (pa_cons (pv 0) (pa_cons (pe_bltn (v := .ty "bool") (u := .type "bool") (by rfl) T.nb_bool (by decide +kernel) rfl) pa_nil)))))))), ?_⟩
  walk_at "go"
  cases hv with
  | non =>
    refine g_isi (.ty _) (.base .non) TY.ni ?_
    walk_at "go"
    exact k
  | int i =>
    refine g_isi (.ty _) (.base (.int i)) TY.ii ?_
    walk_at "go"
    refine g_notT ?_
    walk_at "go"
    refine g_isi (.ty _) (.base (.int i)) TY.ib ?_
    walk_at "go"
    exact k
  | bl b =>
    refine g_isi (.ty _) (.base (.bl b)) TY.bi ?_
    walk_at "go"
    refine g_notT ?_
    walk_at "go"
    refine g_isi (.ty _) (.base (.bl b)) TY.bb ?_
    walk_at "go"
    exact k
  | str s h =>
    refine g_isi (.ty _) (.base (.str s)) TY.si ?_
    walk_at "go"
    exact k
  | oth h h1 h2 =>
    refine g_isi (.ty _) h h1 ?_
    walk_at "go"
    exact k
theorem sc_is_key : FnScope (["value"] : List Str) (["value"] : List Str) (defScope s_is_key) := ⟨rfl, rfl, rfl, by decide +kernel, rfl, by decide +kernel, by decide +kernel⟩
theorem ok_is_key {f : Addr} {fd : FuncData} (F : Fun K "is_key" "is_key" s_is_key f fd) (T : Txt K mg A) (Gii : GFn P wo K mg base 1 "is_integer" 1 [] (fun vs _ => spVal K isI vs)) : FnOk P wo K mg base (L2.CX P wo) 2 f fd (["value"] : List Str) (spVal K isK) := by
  refine okT F sc_is_key (fun vs H Q E h => ?_) (fun cdv Ar outer s H vs Q E hr tk po h => ?_)
  · obtain ⟨_, _, rfl, _⟩ := h
    rfl
  obtain ⟨v, d, rfl, hv, k⟩ := h
  refine ⟨_, (pss_one (ps_ret (ke_andT K (pe_callG Gii (hr.mono (by decide)) tk (pa_cons (pv 0) pa_nil) pk_nil) (pe_one (pe_cmpR op_ge (pv 0) pe_int (nomark _)))))), ?_⟩
  walk_at "go"
  refine ⟨rfl, rfl, v, d, rfl, hv, ?_⟩
  cases hv with
  | int i =>
    rw [show isI (VD.int i) = true from rfl]
    walk_at "go"
    exact k
  | non =>
    rw [show isI VD.non = false from rfl]
    walk_at "go"
    exact k
  | bl b =>
    rw [show isI (VD.bl b) = false from rfl]
    walk_at "go"
    exact k
  | str z hz =>
    rw [show isI (VD.str z) = false from rfl]
    walk_at "go"
    exact k
  | oth h h1 h2 =>
    rw [show isI VD.oth = false from rfl]
    walk_at "go"
    exact k
theorem sc_is_text : FnScope (["value"] : List Str) (["value"] : List Str) (defScope s_is_text) := ⟨rfl, rfl, rfl, by decide +kernel, rfl, by decide +kernel, by decide +kernel⟩
theorem ok_is_text {f : Addr} {fd : FuncData} (F : Fun K "is_text" "is_text" s_is_text f fd) (T : Txt K mg A) (TY : TyF K) : FnOk P wo K mg base (L2.CX P wo) 1 f fd (["value"] : List Str) (spVal K isT) := by
  refine okT F sc_is_text (fun vs H Q E h => ?_) (fun cdv Ar outer s H vs Q E hr tk po h => ?_)
  · obtain ⟨_, _, rfl, _⟩ := h
    rfl
  obtain ⟨v, d, rfl, hv, k⟩ := h
  refine ⟨_, (pss_one (ps_ret (ke_andT K (pe_callB (ka_isi K) (by rfl) T.nb_isinstance (by decide +kernel) (pa_cons (pv 0) (pa_cons (pe_bltn (v := .ty "str") (u := .type "str") (by rfl) T.nb_str (by decide +kernel) rfl) pa_nil))) (pe_one (pe_cmpR (ka_ni K) pe_str (pv 0) (by first | exact nomark _ | rfl)))))), ?_⟩
  walk_at "go"
  cases hv with
  | non =>
    refine g_isi (.ty _) (.base .non) TY.ns ?_
    walk_at "go"
    exact k
  | int i =>
    refine g_isi (.ty _) (.base (.int i)) TY.is ?_
    walk_at "go"
    exact k
  | bl b =>
    refine g_isi (.ty _) (.base (.bl b)) TY.bs ?_
    walk_at "go"
    exact k
  | str s h =>
    refine g_isi (.ty _) (.base (.str s)) kit_str ?_
    walk_at "go"
    exact g_niSg (c := 10) k
  | oth h h1 h2 =>
    refine g_isi (.ty _) h h2 ?_
    walk_at "go"
    exact k
/-! ### accepts -/
def acc0 (c : Col) (d : VD) : Bool := c.opt && isN d
def accB (c : Col) (d : VD) : Bool := (match c.k with | .int => isI d | .text => isT d | .ref => isK d) || acc0 c d
def spAcc0 (K : PySem.W.Frag) (A : Ad) : Sp := fun vs H Q _ => ∃ G R x c v d, vs = [.ref x, v] ∧ Wd G R H ∧ ColAt A G x c ∧ VAt K G v d ∧ ∀ H', Wd G R H' → Q (.bl (acc0 c d)) H'
theorem sc_Column_accepts : FnScope (["self", "value"] : List Str) (["self", "value"] : List Str) (defScope s_Column_accepts) := ⟨rfl, rfl, rfl, by decide +kernel, rfl, by decide +kernel, by decide +kernel⟩
theorem ok_acc0 {f : Addr} {fd : FuncData} (F : Fun K "accepts" "Column.accepts" s_Column_accepts f fd) (T : Txt K mg A) (CF : ColF K A) : FnOk P wo K mg base (L2.CX P wo) 1 f fd (["self", "value"] : List Str) (spAcc0 K A) := by
  refine okT F sc_Column_accepts (fun vs H Q E h => ?_) (fun cdv Ar outer s H vs Q E hr tk po h => ?_)
  · obtain ⟨_, _, _, _, _, _, rfl, _⟩ := h
    rfl
  obtain ⟨G, R, x, c, v, d, rfl, w, ⟨dx, hx⟩, hv, k⟩ := h
  refine ⟨_, (pss_one (ps_ret (ke_andT K (ke_fld K (pv 0) rfl) (pe_one (pe_cmpR op_isN (pv 1) pe_non (nomark _)))))), ?_⟩
  walk_at "go"
  refine g_gf w hx (CF.cls _) (CF.no _) c.l_opt ?_
  cases ho : c.opt with
  | false =>
    walk_at "go"
    have := k _ w
    unfold acc0 at this
    rw [ho] at this
    exact this
  | true =>
    walk_at "go"
    have := k _ w
    unfold acc0 at this
    rw [ho, Bool.true_and, ← hv.isN] at this
    exact ⟨rfl, this⟩
def spAcc (K : PySem.W.Frag) (A : Ad) (kd : Kd) : Sp := fun vs H Q _ => ∃ G R x c v d, vs = [.ref x, v] ∧ Wd G R H ∧ ColAt A G x c ∧ c.k = kd ∧ VAt K G v d ∧ ∀ H', Wd G R H' → Q (.bl (accB c d)) H'
theorem sc_IntColumn_accepts : Sw.SScope (["self", "value"] : List Str) (["self", "value"] : List Str) (defScope s_IntColumn_accepts) := ⟨rfl, rfl, rfl, by decide +kernel, rfl, by decide +kernel, by decide +kernel, by decide +kernel⟩
theorem ok_iacc {f cc cda : Addr} {fd : FuncData} (F : FunS P K "accepts" "IntColumn.accepts" s_IntColumn_accepts f cc A.IntColumn cda fd) (U : SupTop P mg) (T : Txt K mg A) (Gii : GFn P wo K mg base 1 "is_integer" 1 [] (fun vs _ => spVal K isI vs))
    {g : Addr} (M_acc : SupM K A.IntColumn A.IntColumn "accepts" g) (C_acc : Cal P wo K mg base 1 g 2 [] (fun vs _ => spAcc0 K A vs)) : FnOk P wo K mg base (L2.CX P wo) 3 f fd (["self", "value"] : List Str) (spAcc K A .int) := by
  refine F.ok sc_IntColumn_accepts U rfl rfl ⟨_, rfl, rfl, rfl⟩ (fun vs H Q E h => ?_) (fun Ar outer s H vs Q E hr Z tk h => ?_)
  · obtain ⟨_, _, _, _, _, _, rfl, _⟩ := h
    rfl
  obtain ⟨G, R, x, c, v, d, rfl, w, ⟨dx, hx⟩, ck, hv, k⟩ := h
  refine ⟨_, (PSst.one (pst_ret (pet_orT K (pe_callG Gii (hr.mono (by decide)) tk (pa_cons (pv 1) pa_nil) pk_nil) (pet_one (pet_sup Z M_acc C_acc (hr.mono (by decide)) tk (pa_cons (pv 1) pa_nil) pk_nil))))), ?_⟩
  have hx' : G x = some (.ins A.IntColumn dx c.fs) := by rw [hx, ck]; rfl
  walk_at "go"
  refine ⟨rfl, rfl, v, d, rfl, hv.same w.sub, ?_⟩
  have k0 := k _ w
  unfold accB at k0 k
  rw [ck] at k0 k
  cases e : isI d with
  | true =>
    walk_at "go"
    rw [e] at k0
    exact k0
  | false =>
    rw [e] at k
    walk_at "go"
    refine ⟨x, dx, c.fs, rfl, w.get hx', ?_⟩
    walk_at "go"
    exact ⟨rfl, rfl, G, R, x, c, v, d, rfl, w, ⟨dx, hx⟩, hv, k⟩
theorem sc_TextColumn_accepts : Sw.SScope (["self", "value"] : List Str) (["self", "value"] : List Str) (defScope s_TextColumn_accepts) := ⟨rfl, rfl, rfl, by decide +kernel, rfl, by decide +kernel, by decide +kernel, by decide +kernel⟩
theorem ok_tacc {f cc cda : Addr} {fd : FuncData} (F : FunS P K "accepts" "TextColumn.accepts" s_TextColumn_accepts f cc A.TextColumn cda fd) (U : SupTop P mg) (T : Txt K mg A) (Git : GFn P wo K mg base 1 "is_text" 1 [] (fun vs _ => spVal K isT vs))
    {g : Addr} (M_acc : SupM K A.TextColumn A.TextColumn "accepts" g) (C_acc : Cal P wo K mg base 1 g 2 [] (fun vs _ => spAcc0 K A vs)) : FnOk P wo K mg base (L2.CX P wo) 3 f fd (["self", "value"] : List Str) (spAcc K A .text) := by
  refine F.ok sc_TextColumn_accepts U rfl rfl ⟨_, rfl, rfl, rfl⟩ (fun vs H Q E h => ?_) (fun Ar outer s H vs Q E hr Z tk h => ?_)
  · obtain ⟨_, _, _, _, _, _, rfl, _⟩ := h
    rfl
  obtain ⟨G, R, x, c, v, d, rfl, w, ⟨dx, hx⟩, ck, hv, k⟩ := h
  refine ⟨_, (PSst.one (pst_ret (pet_orT K (pe_callG Git (hr.mono (by decide)) tk (pa_cons (pv 1) pa_nil) pk_nil) (pet_one (pet_sup Z M_acc C_acc (hr.mono (by decide)) tk (pa_cons (pv 1) pa_nil) pk_nil))))), ?_⟩
  have hx' : G x = some (.ins A.TextColumn dx c.fs) := by rw [hx, ck]; rfl
  walk_at "go"
  refine ⟨rfl, rfl, v, d, rfl, hv.same w.sub, ?_⟩
  have k0 := k _ w
  unfold accB at k0 k
  rw [ck] at k0 k
  cases e : isT d with
  | true =>
    walk_at "go"
    rw [e] at k0
    exact k0
  | false =>
    rw [e] at k
    walk_at "go"
    refine ⟨x, dx, c.fs, rfl, w.get hx', ?_⟩
    walk_at "go"
    exact ⟨rfl, rfl, G, R, x, c, v, d, rfl, w, ⟨dx, hx⟩, hv, k⟩
theorem sc_RefColumn_accepts : Sw.SScope (["self", "value"] : List Str) (["self", "value"] : List Str) (defScope s_RefColumn_accepts) := ⟨rfl, rfl, rfl, by decide +kernel, rfl, by decide +kernel, by decide +kernel, by decide +kernel⟩
theorem ok_racc {f cc cda : Addr} {fd : FuncData} (F : FunS P K "accepts" "RefColumn.accepts" s_RefColumn_accepts f cc A.RefColumn cda fd) (U : SupTop P mg) (T : Txt K mg A) (Gik : GFn P wo K mg base 2 "is_key" 1 [] (fun vs _ => spVal K isK vs))
    {g : Addr} (M_acc : SupM K A.RefColumn A.RefColumn "accepts" g) (C_acc : Cal P wo K mg base 1 g 2 [] (fun vs _ => spAcc0 K A vs)) : FnOk P wo K mg base (L2.CX P wo) 3 f fd (["self", "value"] : List Str) (spAcc K A .ref) := by
  refine F.ok sc_RefColumn_accepts U rfl rfl ⟨_, rfl, rfl, rfl⟩ (fun vs H Q E h => ?_) (fun Ar outer s H vs Q E hr Z tk h => ?_)
  · obtain ⟨_, _, _, _, _, _, rfl, _⟩ := h
    rfl
  obtain ⟨G, R, x, c, v, d, rfl, w, ⟨dx, hx⟩, ck, hv, k⟩ := h
  refine ⟨_, (PSst.one (pst_ret (pet_orT K (pe_callG Gik (hr.mono (by decide)) tk (pa_cons (pv 1) pa_nil) pk_nil) (pet_one (pet_sup Z M_acc C_acc (hr.mono (by decide)) tk (pa_cons (pv 1) pa_nil) pk_nil))))), ?_⟩
  have hx' : G x = some (.ins A.RefColumn dx c.fs) := by rw [hx, ck]; rfl
  walk_at "go"
  refine ⟨rfl, rfl, v, d, rfl, hv.same w.sub, ?_⟩
  have k0 := k _ w
  unfold accB at k0 k
  rw [ck] at k0 k
  cases e : isK d with
  | true =>
    walk_at "go"
    rw [e] at k0
    exact k0
  | false =>
    rw [e] at k
    walk_at "go"
    refine ⟨x, dx, c.fs, rfl, w.get hx', ?_⟩
    walk_at "go"
    exact ⟨rfl, rfl, G, R, x, c, v, d, rfl, w, ⟨dx, hx⟩, hv, k⟩
end
end Sv


set_option Elab.async false
set_option linter.all false
set_option maxRecDepth 100000
set_option maxHeartbeats 4000000
namespace Sv
open PySem PySem.Spec PyProof.Rows L2 Sw
local macro_rules | `(tactic| walk_at "go1") => `(tactic| first
  | ((with_reducible refine' g_var ?hv ?_); (case hv => rfl))
  | with_reducible refine g_c ?_
  | with_reducible refine g_op ?_
  | with_reducible refine g_un ?_
  | with_reducible refine g_seq ?_
  | with_reducible refine g_next ?_
  | with_reducible refine g_asg ?_
  | with_reducible refine g_name ?_
  | with_reducible refine g_drop ?_
  | with_reducible refine g_sub ?_
  | with_reducible refine g_ret ?_
  | with_reducible refine g_retN ?_
  | with_reducible refine g_ifS ?_
  | with_reducible refine g_if ?_
  | with_reducible refine g_test ?_
  | with_reducible refine g_bl ?_
  | with_reducible refine g_cons ?_
  | with_reducible refine g_nil ?_
  | with_reducible refine g_and ?_
  | with_reducible refine g_or ?_
  | with_reducible refine g_not ?_
  | with_reducible refine g_callB ?_
  | with_reducible refine g_addI ?_
  | with_reducible refine g_I0 ?_
  | with_reducible refine g_calG ?_
  | with_reducible refine g_mkG ?_
  | with_reducible refine g_tup ?_
  | with_reducible refine g_pairs1 ?_
  | with_reducible refine g_pairs0 ?_
  | with_reducible refine g_dget ?_
  | with_reducible refine g_lvals ?_
  | with_reducible refine g_forT ?_
  | with_reducible refine g_lcT ?_
  | with_reducible refine g_dput ?_
  | with_reducible refine g_lc2L ?_
  | with_reducible refine g_iList ?_
  | with_reducible refine g_lcX ?_
  | with_reducible refine g_js1 ?_
  | with_reducible refine g_js0 ?_
  | with_reducible refine g_fmt ?_
  | with_reducible refine g_tLenSet ?_
  | with_reducible refine g_mkV ?_
  | with_reducible refine g_mkV1 ?_
  | with_reducible refine g_lst ?_
  | with_reducible refine g_forL ?_
  | with_reducible refine g_forR ?_
  | with_reducible refine g_forR2 ?_
  | with_reducible refine g_forS ?_
  | with_reducible refine g_forE ?_
  | with_reducible refine g_lcL ?_
  | with_reducible refine g_lcR ?_
  | with_reducible refine g_lcS ?_
  | with_reducible refine g_lcE ?_
  | with_reducible refine g_orT ?_
  | with_reducible refine g_slc ?_
  | with_reducible refine g_noPart ?_
  | with_reducible refine g_part ?_
  | with_reducible refine g_bm ?_
  | with_reducible refine g_par ?_
  | with_reducible refine g_yes ?_
  | with_reducible refine g_tupG ?_
  | with_reducible refine g_lstG ?_
  | with_reducible refine g_gcons ?_
  | with_reducible refine g_gnil ?_
  | with_reducible refine g_chain ?_
  | with_reducible refine g_truB ?_
  | with_reducible refine g_truN ?_
  | with_reducible refine g_truI ?_
  | with_reducible refine g_m1 ?_
  | with_reducible refine g_fld ?_
  | with_reducible refine g_con ?_
  | with_reducible refine g_tru ?_
  | with_reducible refine g_U ?_
  | with_reducible refine g_xg ?_
  | with_reducible refine g_andT ?_
  | with_reducible refine g_exI ?_
  | with_reducible refine g_dnew ?_
  | with_reducible refine g_intB ?_
  | with_reducible refine g_meth ?_
  | with_reducible refine g_prop ?_
  | with_reducible refine g_exc1 ?_
  | with_reducible refine g_setF ?_
  | with_reducible refine g_star ?_
  | with_reducible refine g_strM ?_
  | with_reducible refine iteT ?_
  | with_reducible refine iteF ?_
  | with_reducible refine iteNT ?_
  | with_reducible refine iteNF ?_)
local macro_rules | `(tactic| walk_at "go") => `(tactic| repeat (walk_at "go1"))
local macro_rules | `(tactic| walk_at "sz") => `(tactic| (first | (rw [sizeLine_eq]; simp only [List.length_cons, List.length_nil, List.length_map, List.length_append, List.length_take]; omega) | (rw [sizeLine_eq]; omega)))
theorem Col.l_none (c : Col) {f : Str} (h : f ∉ (["name", "optional", "target", "rule"] : List Str)) : c.fs.lookup f = none := by
  simp only [List.mem_cons, List.not_mem_nil, or_false, not_or] at h
  obtain ⟨h1, h2, h3, h4⟩ := h
  have e : ∀ g : Str, ¬ f = g → (f == g) = false := fun g h => by simpa using h
  unfold Col.fs Col.fs0
  split
  · rw [List.cons_append, List.cons_append, List.nil_append, lk_ne (e _ h1), lk_ne (e _ h2), lk_ne (e _ h3), lk_ne (e _ h4)]
    rfl
  · rw [lk_ne (e _ h1), lk_ne (e _ h2)]
    rfl
def emptyV : Kd → V
  | .text => .str ""
  | _ => .int 0
def defV (c : Col) : V := if c.opt = true then .non else emptyV c.k
/-- what the text says of the three classes, more -/
structure ColG (K : PySem.W.Frag) (A : Ad) : Prop where
  em : ∀ k, ∃ u, Con K (kcls A k) "EMPTY" (emptyV k) u
  ha : ∀ k, PySem.W.findIn K (.ref (kcls A k)) "__class__" = some (some (.builtin "object.__class__"))
  hn : PySem.W.specialIn K (.builtin "object.__class__") "__get__" = some (some (.builtin "getset_descriptor.__get__"))
  ht : PySem.W.takesIn K (.builtin "object.__class__") = some true
  hm : ∀ k, PySem.W.mroIn K (kcls A k) (.type "object") = some true
  kc : ∀ k, PySem.W.kitOne K (.ref (kcls A k)) (.ref A.Column) = some true
  kk : ∀ k j, PySem.W.kitOne K (.ref (kcls A k)) (.ref (kcls A j)) = some (decide (k = j))
  nf : ∀ k j, PySem.W.notFirst K (kcls A k) (.ref (kcls A j)) = true
theorem ColG.ty {K : PySem.W.Frag} {A : Ad} {k : Kd} {a dx : Addr} {fs : List (Str × V)} {H : Hp} (I : ColG K A) (CF : ColF K A) (h : H a = some (.ins (kcls A k) dx fs)) : TyX K H (.ref a) (.ref (kcls A k)) := .base (.ins h (CF.cls k) (I.ha k) I.hn I.ht (I.hm k))
section
variable {P : Program} {wo : World} {A : Ad} {K : PySem.W.Frag} {mg : Str → Option Value} {base : Heap}
/-! ### Column.default -/
def spDefault (A : Ad) : Sp := fun vs H Q _ => ∃ G R x c, vs = [.ref x] ∧ Wd G R H ∧ ColAt A G x c ∧ ∀ H', Wd G R H' → Q (defV c) H'
theorem sc_Column_default : FnScope (["self"] : List Str) (["self"] : List Str) (defScope s_Column_default) := ⟨rfl, rfl, rfl, by decide +kernel, rfl, by decide +kernel, by decide +kernel⟩
theorem ok_default {f : Addr} {fd : FuncData} (F : Fun K "default" "Column.default" s_Column_default f fd) (T : Txt K mg A) (CF : ColF K A) (CG : ColG K A) : FnOk P wo K mg base (L2.CX P wo) 1 f fd (["self"] : List Str) (spDefault A) := by
  refine okT F sc_Column_default (fun vs H Q E h => ?_) (fun cdv Ar outer s H vs Q E hr tk po h => ?_)
  · obtain ⟨_, _, _, _, rfl, _⟩ := h
    rfl
  obtain ⟨G, R, x, c, rfl, w, ⟨dx, hx⟩, k⟩ := h
  obtain ⟨u, hu⟩ := CG.em c.k
  refine ⟨_, (pss_one (ps_ret (pe_ifExp (kt_truth K (ke_fld K (pv 0) rfl) (by intro _; rfl)) pe_non (ke_con K (pv 0) rfl)))), ?_⟩
  have k0 := k _ w
  unfold defV at k0
  walk_at "go"
  refine g_gf w hx (CF.cls _) (CF.no _) c.l_opt ?_
  cases ho : c.opt with
  | true =>
    walk_at "go"
    rw [ho, if_pos rfl] at k0
    exact k0
  | false =>
    walk_at "go"
    rw [ho, if_neg (by decide)] at k0
    exact g_gc w hx (CF.cls _) hu (c.l_none (by decide +kernel)) k0
theorem prop_default {G H : Hp} {R : Res} {a : Addr} {c : Col} {Q : VK} (GD : ∀ k, GPr P wo K mg base 1 (kcls A k) "default" (fun vs _ => spDefault A vs)) (w : Wd G R H) (h : ColAt A G a c) (k : ∀ H', Wd G R H' → Q (defV c) H') :
    ∃ a' C dx fs sp, V.ref a = .ref a' ∧ H a' = some (.ins C dx fs) ∧ GPr P wo K mg base 1 C "default" sp ∧ sp [.ref a'] [] H Q E0 := by
  obtain ⟨dx, hx⟩ := h
  exact ⟨a, _, dx, _, _, rfl, w.get hx, GD c.k, G, R, a, c, rfl, w, ⟨dx, hx⟩, k⟩
/-! ### Column.__eq__ -/
def spCEq (K : PySem.W.Frag) (A : Ad) : Sp := fun vs H Q _ => ∃ G R x y c, vs = [.ref x, y] ∧ Wd G R H ∧ ColAt A G x c ∧ c.ok ∧
  ((∃ y' d, y = .ref y' ∧ ColAt A G y' d ∧ d.ok ∧ ∀ H', Wd G R H' → Q (.bl (decide (c.text = d.text))) H') ∨ (∃ t, TyX K G y t ∧ PySem.W.kitOne K t (.ref A.Column) = some false ∧ ∀ H', Wd G R H' → Q (.bl false) H'))
theorem sc_Column___eq__ : FnScope (["self", "other"] : List Str) (["self", "other"] : List Str) (defScope s_Column___eq__) := ⟨rfl, rfl, rfl, by decide +kernel, rfl, by decide +kernel, by decide +kernel⟩
theorem ok_ceq {f : Addr} {fd : FuncData} (F : Fun K "__eq__" "Column.__eq__" s_Column___eq__ f fd) (T : Txt K mg A) (CF : ColF K A) (CG : ColG K A) (GT : ∀ k, GPr P wo K mg base 3 (kcls A k) "text" (fun vs _ => spText A vs)) : FnOk P wo K mg base (L2.CX P wo) 5 f fd (["self", "other"] : List Str) (spCEq K A) := by
  refine okT F sc_Column___eq__ (fun vs H Q E h => ?_) (fun cdv Ar outer s H vs Q E hr tk po h => ?_)
  · obtain ⟨_, _, _, _, _, rfl, _⟩ := h
    rfl
  obtain ⟨G, R, x, y, c, rfl, w, hx, ok, h⟩ := h
  refine ⟨_, (pss_one (ps_ret (ke_andT K (pe_callB (ka_isi K) (by rfl) T.nb_isinstance (by decide +kernel) (pa_cons (pv 1) (pa_cons (pe_globE (by rfl) T.g_Column) pa_nil))) (pe_one (pe_cmpR (ka_eq K hr.units) (kp_prop (k := 3) P wo K mg base (pv 0) (hr.mono (by decide))) (kp_prop (k := 3) P wo K mg base (pv 1) (hr.mono (by decide))) (nomark _)))))), ?_⟩
  have txt : ∀ {a : Addr} {c : Col} {Q : VK} {H : Hp}, Wd G R H → ColAt A G a c → c.ok → (∀ H', Wd G R H' → Q (.str c.text) H') → ∃ a' C dx fs sp, V.ref a = .ref a' ∧ H a' = some (.ins C dx fs) ∧ GPr P wo K mg base 3 C "text" sp ∧ sp [.ref a'] [] H Q E0 := fun {a c Q H} w h ok k => by
    obtain ⟨dx, hx⟩ := h
    exact ⟨a, _, dx, _, _, rfl, w.get hx, GT c.k, G, R, a, c, rfl, w, ⟨dx, hx⟩, ok, k⟩
  walk_at "go"
  rcases h with ⟨y', d, rfl, hy, ok2, k⟩ | ⟨t, ht, hk, k⟩
  · obtain ⟨dy, hy1⟩ := id hy
    refine g_isi (.own _) (tyX_same w.sub (CG.ty CF hy1)) (CG.kc _) ?_
    walk_at "go"
    refine txt w hx ok fun H1 w => ?_
    walk_at "go"
    refine txt w hy ok2 fun H2 w => ?_
    refine g_eqS rfl ?_
    have e : decide (V.str c.text = V.str d.text) = decide (c.text = d.text) := decide_eq_decide.mpr ⟨fun z => V.str.inj z, fun z => congrArg V.str z⟩
    rw [e]
    exact k _ w
  · refine g_isi (.own _) (tyX_same w.sub ht) hk ?_
    walk_at "go"
    exact k _ w
end
end Sv


set_option Elab.async false
set_option linter.all false
set_option maxRecDepth 100000
set_option maxHeartbeats 4000000
namespace Sv
open PySem PySem.Spec PyProof.Rows L2 Sw
local macro_rules | `(tactic| walk_at "go1") => `(tactic| first
  | ((with_reducible refine' g_var ?hv ?_); (case hv => rfl))
  | with_reducible refine g_c ?_
  | with_reducible refine g_op ?_
  | with_reducible refine g_un ?_
  | with_reducible refine g_seq ?_
  | with_reducible refine g_next ?_
  | with_reducible refine g_asg ?_
  | with_reducible refine g_name ?_
  | with_reducible refine g_drop ?_
  | with_reducible refine g_sub ?_
  | with_reducible refine g_ret ?_
  | with_reducible refine g_retN ?_
  | with_reducible refine g_ifS ?_
  | with_reducible refine g_if ?_
  | with_reducible refine g_test ?_
  | with_reducible refine g_bl ?_
  | with_reducible refine g_cons ?_
  | with_reducible refine g_nil ?_
  | with_reducible refine g_and ?_
  | with_reducible refine g_or ?_
  | with_reducible refine g_not ?_
  | with_reducible refine g_callB ?_
  | with_reducible refine g_addI ?_
  | with_reducible refine g_I0 ?_
  | with_reducible refine g_calG ?_
  | with_reducible refine g_mkG ?_
  | with_reducible refine g_tup ?_
  | with_reducible refine g_pairs1 ?_
  | with_reducible refine g_pairs0 ?_
  | with_reducible refine g_dget ?_
  | with_reducible refine g_lvals ?_
  | with_reducible refine g_forT ?_
  | with_reducible refine g_lcT ?_
  | with_reducible refine g_dput ?_
  | with_reducible refine g_lc2L ?_
  | with_reducible refine g_iList ?_
  | with_reducible refine g_lcX ?_
  | with_reducible refine g_js1 ?_
  | with_reducible refine g_js0 ?_
  | with_reducible refine g_fmt ?_
  | with_reducible refine g_tLenSet ?_
  | with_reducible refine g_mkV ?_
  | with_reducible refine g_mkV1 ?_
  | with_reducible refine g_lst ?_
  | with_reducible refine g_forL ?_
  | with_reducible refine g_forR ?_
  | with_reducible refine g_forR2 ?_
  | with_reducible refine g_forS ?_
  | with_reducible refine g_forE ?_
  | with_reducible refine g_lcL ?_
  | with_reducible refine g_lcR ?_
  | with_reducible refine g_lcS ?_
  | with_reducible refine g_lcE ?_
  | with_reducible refine g_orT ?_
  | with_reducible refine g_slc ?_
  | with_reducible refine g_noPart ?_
  | with_reducible refine g_part ?_
  | with_reducible refine g_bm ?_
  | with_reducible refine g_par ?_
  | with_reducible refine g_yes ?_
  | with_reducible refine g_tupG ?_
  | with_reducible refine g_lstG ?_
  | with_reducible refine g_gcons ?_
  | with_reducible refine g_gnil ?_
  | with_reducible refine g_chain ?_
  | with_reducible refine g_truB ?_
  | with_reducible refine g_truN ?_
  | with_reducible refine g_truI ?_
  | with_reducible refine g_m1 ?_
  | with_reducible refine g_fld ?_
  | with_reducible refine g_con ?_
  | with_reducible refine g_tru ?_
  | with_reducible refine g_U ?_
  | with_reducible refine g_xg ?_
  | with_reducible refine g_andT ?_
  | with_reducible refine g_exI ?_
  | with_reducible refine g_dnew ?_
  | with_reducible refine g_intB ?_
  | with_reducible refine g_meth ?_
  | with_reducible refine g_prop ?_
  | with_reducible refine g_exc1 ?_
  | with_reducible refine g_setF ?_
  | with_reducible refine g_star ?_
  | with_reducible refine g_strM ?_
  | with_reducible refine iteT ?_
  | with_reducible refine iteF ?_
  | with_reducible refine iteNT ?_
  | with_reducible refine iteNF ?_)
local macro_rules | `(tactic| walk_at "go") => `(tactic| repeat (walk_at "go1"))
local macro_rules | `(tactic| walk_at "sz") => `(tactic| (first | (rw [sizeLine_eq]; simp only [List.length_cons, List.length_nil, List.length_map, List.length_append, List.length_take]; omega) | (rw [sizeLine_eq]; omega)))
theorem allow_ok (s : Str) (o : Bool) : inV (.str s) ([V.str "restrict", V.str "cascade"] ++ (if o = true then [V.str "clear"] else [])) = ruleOk s o := by
  have e : ∀ l : List Str, inV (.str s) (l.map V.str) = decide (s ∈ l) := fun l => inV_str s l
  unfold ruleOk
  rw [e]
  cases o with
  | true =>
    rw [if_pos rfl, show ([V.str "restrict", V.str "cascade"] ++ [V.str "clear"]) = (["restrict", "cascade", "clear"] : List Str).map V.str from rfl, e, Bool.not_true, Bool.and_false, Bool.not_false, Bool.and_true]
    refine decide_eq_decide.mpr ?_
    simp only [rules, List.mem_cons, List.not_mem_nil, or_false]
    constructor <;> (intro h; rcases h with h | h | h <;> simp [h])
  | false =>
    rw [if_neg (by decide), List.append_nil, show ([V.str "restrict", V.str "cascade"]) = (["restrict", "cascade"] : List Str).map V.str from rfl, e, Bool.not_false, Bool.and_true]
    by_cases h : s = "clear"
    · subst h
      decide +kernel
    · rw [decide_eq_false h, Bool.not_false, Bool.and_true]
      refine decide_eq_decide.mpr ?_
      simp only [rules, List.mem_cons, List.not_mem_nil, or_false]
      simp [h]
theorem accB_non (c : Col) : accB c .non = c.opt := by
  unfold accB acc0
  cases c.k <;> simp [isI, isT, isK, isN]
theorem accB_of (c : Col) {d : VD} (h : Sv.isN d = false) : accB c d = match c.k with | .int => isI d | .text => isT d | .ref => isK d := by
  unfold accB acc0
  rw [h, Bool.and_false, Bool.or_false]
  all_goals (cases c.k <;> rfl)
def nmV : VD → Bool
  | .str s => isNm s
  | _ => false
def ruV (d : VD) (o : Bool) : Bool := match d with
  | .str s => ruleOk s o
  | _ => false
def dueG {α : Type} (n t : α) (b1 b2 b3 : Bool) : Option (Nat × α) := if b1 = true then (if b2 = true then (if b3 = true then none else some (1, n)) else some (0, t)) else some (0, n)
def dueC (n t : V) (dn dt dr : VD) (o : Bool) : Option (Nat × V) := dueG n t (nmV dn) (nmV dt) (ruV dr o)
def w2 (i : Nat) : Str := if i = 0 then "name" else "column"
/-- the error as a tuple, or None -/
def ResV (G : Hp) (v : V) (e : Option (Nat × V)) : Prop := (e = none ∧ v = .non) ∨ (∃ i u p, e = some (i, u) ∧ v = .ref p ∧ G p = some (.tup [.str (w2 i), u]))
theorem VAt.ty {K : PySem.W.Frag} (TY : TyF K) {G : Hp} {v : V} {d : VD} (h : VAt K G v d) : (∃ s, v = .str s ∧ d = .str s ∧ s.length ≤ 1000000) ∨ ((∀ s, d ≠ .str s) ∧ ∃ t, TyX K G v t ∧ PySem.W.kitOne K t (.type "str") = some false) := by
  cases h with
  | non => exact .inr ⟨fun _ z => (nomatch z), _, .base .non, TY.ns⟩
  | int i => exact .inr ⟨fun _ z => (nomatch z), _, .base (.int i), TY.is⟩
  | bl b => exact .inr ⟨fun _ z => (nomatch z), _, .base (.bl b), TY.bs⟩
  | str s h => exact .inl ⟨s, rfl, rfl, h⟩
  | oth h h1 h2 => exact .inr ⟨fun _ z => (nomatch z), _, h, h2⟩
section
variable {P : Program} {wo : World} {A : Ad} {K : PySem.W.Frag} {mg : Str → Option Value} {base : Heap}
/-! ### _law_accepts -/
def spLAcc (K : PySem.W.Frag) : Sp := fun vs H Q _ => ∃ G R p c v d, vs = [.ref p, v] ∧ Wd G R H ∧ SqT K G p (colTup c) ∧ VAt K G v d ∧ ∀ H', Wd G R H' → Q (.bl (accB c d)) H'
theorem sc__law_accepts : FnScope (["_law_column_here", "_law_value_here"] : List Str) (["_law_column_here", "_law_value_here"] : List Str) (defScope s__law_accepts) := ⟨rfl, rfl, rfl, by decide +kernel, rfl, by decide +kernel, by decide +kernel⟩
theorem ok_lacc {f : Addr} {fd : FuncData} (F : Fun K "_law_accepts" "_law_accepts" s__law_accepts f fd) (T : Txt K mg A) (TY : TyF K) : FnOk P wo K mg base (L2.CX P wo) 1 f fd (["_law_column_here", "_law_value_here"] : List Str) (spLAcc K) := by
  refine okT F sc__law_accepts (fun vs H Q E h => ?_) (fun cdv Ar outer s H vs Q E hr tk po h => ?_)
  · obtain ⟨_, _, _, _, _, _, rfl, _⟩ := h
    rfl
  obtain ⟨G, R, p, c, v, d, rfl, w, hp, hv, k⟩ := h
  refine ⟨_, (pss_cons (ps_if (pt_cmpR op_isN (pv 1) pe_non (nomark _)) (pss_one (ps_ret (pe_ix (ka_ix K) (pv 0) pe_int (fun _ _ => rfl)))) pss_nil)
      (pss_cons (ps_if (pt_cmpR (ka_eq K hr.units) (pe_ix (ka_ix K) (pv 0) pe_int (fun _ _ => rfl)) pe_str (nomark _)) (pss_one (ps_ret (ke_andT K (pe_callB (ka_isi K) (by rfl) T.nb_isinstance (by decide +kernel) (pa_cons (pv 1) (pa_cons (pe_bltn (v := .ty "str") (u := .type "str") (by rfl) T.nb_str (by decide +kernel) rfl) pa_nil))) (pe_one (pe_cmpR (ka_ni K) pe_str (pv 1) (by first | exact nomark _ | rfl)))))) pss_nil)
      (pss_cons (ps_if (PW.pt (pw_or (pt_not (kt_truth K (pe_callB (ka_isi K) (by rfl) T.nb_isinstance (by decide +kernel) (pa_cons (pv 1) (pa_cons (pe_bltn (v := .ty "int") (u := .type "int") (by rfl) T.nb_int (by decide +kernel) rfl) pa_nil))) (by intro _; rfl))) (pw_or1 (kt_truth K (pe_callB (ka_isi K) (by rfl) T.nb_isinstance (by decide +kernel) (pa_cons (pv 1) (pa_cons (pe_bltn (v := .ty "bool") (u := .type "bool") (by rfl) T.nb_bool (by decide +kernel) rfl) pa_nil))) (by intro _; rfl))))) (pss_one (ps_ret pe_bl)) pss_nil)
      (pss_one (ps_ret (ke_orT K (pe_cmpR (ka_eq K hr.units) (pe_ix (ka_ix K) (pv 0) pe_int (fun _ _ => rfl)) pe_str (nomark _)) (pe_one (pe_cmpR op_ge (pv 1) pe_int (nomark _))))))))), ?_⟩
  have k0 := k _ w
  have c0 : (colTup c)[0]? = some (.str (kstr c.k)) := rfl
  have c3 : (colTup c)[3]? = some (.bl c.opt) := rfl
  have kt : decide (V.str (kstr c.k) = V.str "text") = decide (c.k = .text) := by cases c.k <;> decide +kernel
  have ki : decide (V.str (kstr c.k) = V.str "int") = decide (c.k = .int) := by cases c.k <;> decide +kernel
  walk_at "go"
  cases hv with
  | non =>
    rw [accB_non] at k0
    refine ⟨rfl, _, rfl, ?_⟩
    rw [decide_eq_true (show V.non = V.non from rfl)]
    walk_at "go"
    refine g_ixT w hp (L2.atI_nat (j := 3) c3) ?_
    exact k0
  | int i =>
    rw [accB_of c rfl] at k0
    refine ⟨rfl, _, rfl, ?_⟩
    rw [decide_eq_false (show ¬ V.int i = V.non from fun z => nomatch z)]
    walk_at "go"
    refine g_ixT w hp (L2.atI_nat (j := 0) c0) ?_
    walk_at "go"
    refine g_eqS rfl ?_
    rw [kt]
    walk_at "go"
    refine iteD (fun ht => ?_) (fun ht => ?_)
    · rw [ht] at k0
      walk_at "go"
      refine g_isi (.ty _) (.base (.int i)) TY.is ?_
      walk_at "go"
      exact k0
    · walk_at "go"
      refine g_isi (.ty _) (.base (.int i)) TY.ii ?_
      walk_at "go"
      refine g_isi (.ty _) (.base (.int i)) TY.ib ?_
      walk_at "go"
      refine g_ixT w hp (L2.atI_nat (j := 0) c0) ?_
      walk_at "go"
      refine g_eqS rfl ?_
      rw [ki]
      cases hk : c.k with
      | text => exact absurd hk ht
      | int =>
        rw [hk] at k0
        rw [decide_eq_true (show Kd.int = Kd.int from rfl)]
        walk_at "go"
        exact k0
      | ref =>
        rw [hk] at k0
        rw [decide_eq_false (show ¬ Kd.ref = Kd.int from fun z => nomatch z)]
        walk_at "go"
        exact k0
  | bl b =>
    rw [accB_of c rfl] at k0
    refine ⟨rfl, _, rfl, ?_⟩
    rw [decide_eq_false (show ¬ V.bl b = V.non from fun z => nomatch z)]
    walk_at "go"
    refine g_ixT w hp (L2.atI_nat (j := 0) c0) ?_
    walk_at "go"
    refine g_eqS rfl ?_
    rw [kt]
    walk_at "go"
    refine iteD (fun ht => ?_) (fun ht => ?_)
    · rw [ht] at k0
      walk_at "go"
      refine g_isi (.ty _) (.base (.bl b)) TY.bs ?_
      walk_at "go"
      exact k0
    · walk_at "go"
      refine g_isi (.ty _) (.base (.bl b)) TY.bi ?_
      walk_at "go"
      refine g_isi (.ty _) (.base (.bl b)) TY.bb ?_
      walk_at "go"
      have k1 : Q (.bl false) H := by
        cases hk : c.k with
        | text => exact absurd hk ht
        | int => rw [hk] at k0; exact k0
        | ref => rw [hk] at k0; exact k0
      exact k1
  | str s h =>
    rw [accB_of c rfl] at k0
    refine ⟨rfl, _, rfl, ?_⟩
    rw [decide_eq_false (show ¬ V.str s = V.non from fun z => nomatch z)]
    walk_at "go"
    refine g_ixT w hp (L2.atI_nat (j := 0) c0) ?_
    walk_at "go"
    refine g_eqS rfl ?_
    rw [kt]
    walk_at "go"
    refine iteD (fun ht => ?_) (fun ht => ?_)
    · rw [ht] at k0
      walk_at "go"
      refine g_isi (.ty _) (.base (.str s)) kit_str ?_
      walk_at "go"
      exact g_niSg (c := 10) k0
    · walk_at "go"
      refine g_isi (.ty _) (.base (.str s)) TY.si ?_
      walk_at "go"
      have k1 : Q (.bl false) H := by
        cases hk : c.k with
        | text => exact absurd hk ht
        | int => rw [hk] at k0; exact k0
        | ref => rw [hk] at k0; exact k0
      exact k1
  | @oth a t h h1 h2 =>
    rw [accB_of c rfl] at k0
    refine ⟨rfl, _, rfl, ?_⟩
    rw [decide_eq_false (show ¬ V.ref a = V.non from fun z => nomatch z)]
    walk_at "go"
    refine g_ixT w hp (L2.atI_nat (j := 0) c0) ?_
    walk_at "go"
    refine g_eqS rfl ?_
    rw [kt]
    walk_at "go"
    refine iteD (fun ht => ?_) (fun ht => ?_)
    · rw [ht] at k0
      walk_at "go"
      refine g_isi (.ty _) (tyX_same w.sub h) h2 ?_
      walk_at "go"
      exact k0
    · walk_at "go"
      refine g_isi (.ty _) (tyX_same w.sub h) h1 ?_
      walk_at "go"
      have k1 : Q (.bl false) H := by
        cases hk : c.k with
        | text => exact absurd hk ht
        | int => rw [hk] at k0; exact k0
        | ref => rw [hk] at k0; exact k0
      exact k1
/-! ### _law_is_name -/
def spLN (K : PySem.W.Frag) : Sp := fun vs H Q _ => ∃ G R v d, vs = [v] ∧ Wd G R H ∧ VAt K G v d ∧ ∀ H', Wd G R H' → Q (.bl (nmV d)) H'
theorem sc__law_is_name : FnScope (["_law_value_here", "_law_sign"] : List Str) (["_law_value_here"] : List Str) (defScope s__law_is_name) := ⟨rfl, rfl, rfl, by decide +kernel, rfl, by decide +kernel, by decide +kernel⟩
theorem ok_lnm {f : Addr} {fd : FuncData} (F : Fun K "_law_is_name" "_law_is_name" s__law_is_name f fd) (T : Txt K mg A) (TY : TyF K) : FnOk P wo K mg base (L2.CX P wo) 1 f fd (["_law_value_here"] : List Str) (spLN K) := by
  refine okT F sc__law_is_name (fun vs H Q E h => ?_) (fun cdv Ar outer s H vs Q E hr tk po h => ?_)
  · obtain ⟨_, _, _, _, rfl, _⟩ := h
    rfl
  obtain ⟨G, R, v, d, rfl, w, hv, k⟩ := h
  refine ⟨_, (pss_cons (ps_if (PW.pt (pw_or (pt_not (kt_truth K (pe_callB (ka_isi K) (by rfl) T.nb_isinstance (by decide +kernel) (pa_cons (pv 0) (pa_cons (pe_bltn (v := .ty "str") (u := .type "str") (by rfl) T.nb_str (by decide +kernel) rfl) pa_nil))) (by intro _; rfl))) (pw_or (pt_not (pt_chain op_lt op_lt pe_int (pe_callB (ka_len K) (by rfl) T.nb_len (by decide +kernel) (pa_cons (pv 0) pa_nil)) pe_int)) (pw_or1 (pt_cmpR (ka_in K) (pv 0) (pe_tup (pa_cons pe_str (pa_cons pe_str (pa_cons pe_str (pa_cons pe_str (pa_cons pe_str pa_nil)))))) (by first | exact nomark _ | rfl)))))) (pss_one (ps_ret pe_bl)) pss_nil)
      (pss_one (ps_ret (pe_cmpR (ka_eq K hr.units) (pe_lc (own := [("_law_sign", 1)]) (g := (gName 1)) (tt := _) rfl sc__law_is_name.nd (pi_str (pv 0)) (blkOk_by (N := (["_law_value_here", "_law_sign"] : List Str)) (sc := defScope s__law_is_name) (by decide +kernel)) (fun _ _ _ _ _ => (pg_name (i := 1) sc__law_is_name.nd rfl (by first | exact Or.inl rfl | exact Or.inr rfl))) (fun _ _ _ _ _ => (pts_one (pt_cmpR (ka_ni K) (pv 1) pe_str (by first | exact nomark _ | rfl)))) (fun _ _ _ _ _ => (pv 1))) (pe_lst pa_nil) (nomark _))))), ?_⟩
  walk_at "go"
  rcases hv.ty TY with ⟨z, rfl, rfl, hz⟩ | ⟨hd, t, ht, hk⟩
  rotate_left
  · refine g_isi (.ty _) (tyX_same w.sub ht) hk ?_
    walk_at "go"
    have := k _ w
    rw [show nmV d = false by cases d <;> first | rfl | exact absurd rfl (hd _)] at this
    exact this
  have hz' : z.length ≤ sizeLine := by rw [sizeLine_eq]; omega
  have res : isNm z = (decide (1 ≤ z.length) && decide (z.length ≤ 8) && !inV (.str z) (resv.map V.str) && lowS z) := rfl
  refine g_isi (.ty _) (.base (.str z)) kit_str ?_
  walk_at "go"
  refine g_lenS hz' ?_
  walk_at "go"
  have i1 : decide ((0 : Int) < (z.length : Int)) = decide (1 ≤ z.length) := decide_eq_decide.mpr (by omega)
  have i2 : decide ((z.length : Int) < 9) = decide (z.length ≤ 8) := decide_eq_decide.mpr (by omega)
  have no : ∀ H', Wd G R H' → isNm z = false → Q (.bl false) H' := fun H' w' e => by
    have := k H' w'
    rw [show nmV (.str z) = isNm z from rfl, e] at this
    exact this
  rw [i1]
  refine iteD (fun h1 => ?_) (fun h1 => ?_)
  · walk_at "go"
    rw [i2]
    refine iteN (fun h2 => ?_) (fun h2 => ?_)
    · walk_at "go"
      exact no _ w (by rw [res, decide_eq_false h2, Bool.and_false]; rfl)
    walk_at "go"
    refine g_newL w (by walk_at "sz") fun p H1 n1 w1 => ?_
    refine g_inT w1 (SqT.of upd_same) rfl rfl ?_
    have w2 := w1.drop (Same.newG n1)
    show ∃ b, V.bl (inV (.str z) (resv.map V.str)) = .bl b ∧ _
    refine ⟨_, rfl, ?_⟩
    refine iteB (fun h3 => ?_) (fun h3 => ?_)
    · walk_at "go"
      exact no _ w2 (by rw [res, h3, Bool.not_true, Bool.and_false]; rfl)
    walk_at "go"
    refine ⟨z, rfl, ?_⟩
    refine lc_it itf_str w2 (fun _ _ => True.intro) hz' (fun i _ acc => acc = (((z.cps.toList.take i).filter fun c => decide (c ∉ letters.cps.toList)).map chS).map V.str) rfl ?_ ?_
    · rintro i x Gi acc D H2 H2' hi e nD ha hl2 w2 ⟨rfl, c, hc, rfl⟩
      have hc' : z.cps.toList[i]? = some c := by simpa using hc
      have ht : ((z.cps.toList.take (i + 1)).filter fun c => decide (c ∉ letters.cps.toList)) = ((z.cps.toList.take i).filter fun c => decide (c ∉ letters.cps.toList)) ++ (if c ∉ letters.cps.toList then [c] else []) := by
        rw [List.take_add_one, hc', List.filter_append]
        congr 1
        exact filter_one (p := fun c => c ∉ letters.cps.toList) c
      walk_at "go"
      refine ⟨rfl, ?_⟩
      walk_at "go"
      refine g_niSg ?_
      walk_at "go"
      show if (!decide (c ∈ letters.cps.toList)) = true then _ else _
      refine iteN (fun h4 => ?_) (fun h4 => ?_)
      · walk_at "go"
        refine lc_keep (Pv := fun i _ acc => acc = (((z.cps.toList.take i).filter fun c => decide (c ∉ letters.cps.toList)).map chS).map V.str) w2 e nD hl2 hi hz' ?_
        rw [ht, if_pos h4, ha, List.map_append, List.map_append]
        rfl
      · refine lc_drop (Pv := fun i _ acc => acc = (((z.cps.toList.take i).filter fun c => decide (c ∉ letters.cps.toList)).map chS).map V.str) w2 e nD hl2 ?_
        rw [ht, if_neg (fun q => q h4), ha, List.append_nil]
    · rintro D Gn acc H2 e nD rfl hl2 w2
      rw [show z.cps.size = z.cps.toList.length by simp, List.take_length] at w2
      walk_at "go"
      refine g_newL w2 (by walk_at "sz") fun p2 H3 n3 w3 => ?_
      refine g_eqF w3 (SqL.of (upd_old upd_same n3)) (SqL.of upd_same) (by rw [List.all_map]; exact List.all_eq_true.mpr fun _ _ => rfl) rfl ?_
      rw [eqVs_nil]
      have er : decide (((z.cps.toList.filter fun c => decide (c ∉ letters.cps.toList)).map chS) = []) = isNm z := by
        rw [bad_nil, res, decide_eq_true h1, decide_eq_true h2, h3]
        rfl
      rw [er]
      exact k _ (w3.drop (Same.trans (Same.trans e (Same.newG nD)) (Same.newG n3)))
  · walk_at "go"
    exact no _ w (by rw [res, decide_eq_false h1]; rfl)
/-! ### _law_due -/
def spLDueC (K : PySem.W.Frag) : Sp := fun vs H Q _ => ∃ G R n t o r dn dt dr, vs = [n, t, .bl o, r] ∧ Wd G R H ∧ VAt K G n dn ∧ VAt K G t dt ∧ VAt K G r dr ∧
  ∀ v G' H', Same G G' → ResV G' v (dueC n t dn dt dr o) → Wd G' R H' → Q v H'
theorem sc__law_due : FnScope (["_law_name", "_law_target", "_law_empty", "_law_law_rule", "_law_allowed"] : List Str) (["_law_name", "_law_target", "_law_empty", "_law_law_rule"] : List Str) (defScope s__law_due) := ⟨rfl, rfl, rfl, by decide +kernel, rfl, by decide +kernel, by decide +kernel⟩
theorem ok_lduec {f : Addr} {fd : FuncData} (F : Fun K "_law_due" "_law_due" s__law_due f fd) (T : Txt K mg A) (TY : TyF K) (Gln : GFn P wo K mg base 1 "_law_is_name" 1 [] (fun vs _ => spLN K vs)) : FnOk P wo K mg base (L2.CX P wo) 2 f fd (["_law_name", "_law_target", "_law_empty", "_law_law_rule"] : List Str) (spLDueC K) := by
  refine okT F sc__law_due (fun vs H Q E h => ?_) (fun cdv Ar outer s H vs Q E hr tk po h => ?_)
  · obtain ⟨_, _, _, _, _, _, _, _, _, rfl, _⟩ := h
    rfl
  obtain ⟨G, R, n, t, o, r, dn, dt, dr, rfl, w, hn, ht, hr2, k⟩ := h
  have k1 : ∀ i v, dueC n t dn dt dr o = some (i, v) → ∀ p G' H', Same G G' → G' p = some (.tup [.str (w2 i), v]) → Wd G' R H' → Q (.ref p) H' := fun i v e p G' H' s q w => k _ G' H' s (.inr ⟨i, v, p, e, rfl, q⟩) w
  have k2 : dueC n t dn dt dr o = none → ∀ H', Wd G R H' → Q .non H' := fun e H' w => k _ G H' (Same.refl G) (.inl ⟨e, rfl⟩) w
  clear k
  refine ⟨_, (pss_cons (ps_if (pt_not (kt_truth K (pe_callG Gln (hr.mono (by decide)) tk (pa_cons (pv 0) pa_nil) pk_nil) (by intro _; rfl))) (pss_one (ps_ret (pe_tup (pa_cons pe_str (pa_cons (pv 0) pa_nil))))) pss_nil)
      (pss_cons (ps_if (pt_not (kt_truth K (pe_callG Gln (hr.mono (by decide)) tk (pa_cons (pv 1) pa_nil) pk_nil) (by intro _; rfl))) (pss_one (ps_ret (pe_tup (pa_cons pe_str (pa_cons (pv 1) pa_nil))))) pss_nil)
      (pss_cons (ps_set (i := 4) sc__law_due.nd rfl (by first | exact Or.inl rfl | exact Or.inr rfl) (pe_op (ka_add K) (pe_lst (pa_cons pe_str (pa_cons pe_str pa_nil))) (pe_op (ka_mul K) (pe_lst (pa_cons pe_str pa_nil)) (pe_callTy ka_int (by rfl) T.nb_int (by decide +kernel) (pa_cons (pv 2) pa_nil)))))
      (pss_one (ps_ret (pe_ifExp (PW.pt (pw_and (kt_truth K (pe_callB (ka_isi K) (by rfl) T.nb_isinstance (by decide +kernel) (pa_cons (pv 3) (pa_cons (pe_bltn (v := .ty "str") (u := .type "str") (by rfl) T.nb_str (by decide +kernel) rfl) pa_nil))) (by intro _; rfl)) (pw_and1 (pt_cmpR (ka_in K) (pv 3) (pv 4) (by first | exact nomark _ | rfl))))) pe_non (pe_tup (pa_cons pe_str (pa_cons (pv 0) pa_nil))))))))), ?_⟩
  walk_at "go"
  refine ⟨rfl, rfl, G, R, n, dn, rfl, w, hn, fun H1 w => ?_⟩
  unfold dueC dueG at k1 k2
  cases e1 : nmV dn with
  | false =>
    rw [e1, if_neg (by decide)] at k1
    walk_at "go"
    exact g_newA w (by walk_at "sz") fun q G2 H2 n2 s2 q2 w2 => k1 0 n rfl q G2 H2 s2 q2 w2
  | true =>
  rw [e1, if_pos rfl] at k1 k2
  walk_at "go"
  refine ⟨rfl, rfl, G, R, t, dt, rfl, w, ht, fun H2 w => ?_⟩
  cases e2 : nmV dt with
  | false =>
    rw [e2, if_neg (by decide)] at k1
    walk_at "go"
    exact g_newA w (by walk_at "sz") fun q G2 H2 n2 s2 q2 w2 => k1 0 t rfl q G2 H2 s2 q2 w2
  | true =>
  rw [e2, if_pos rfl] at k1 k2
  walk_at "go"
  refine g_newA w (by walk_at "sz") fun p4 G4 H4 n4 s4 q4 w4 => ?_
  walk_at "go"
  refine g_newA w4 (by walk_at "sz") fun p5 G5 H5 n5 s5 q5 w5 => ?_
  walk_at "go"
  refine g_mulL w5 q5 (by cases o <;> decide) (by cases o <;> decide) (by rw [sizeLine_eq]; cases o <;> decide) fun p6 H6 n6 w6 => ?_
  have er : (List.replicate ((if o = true then (1 : Int) else 0)).toNat [V.str "clear"]).flatten = (if o = true then [V.str "clear"] else []) := by
    cases o <;> rfl
  rw [er] at w6
  have s6 := fun ob => Same.trans (Same.trans s4 s5) (Same.newG (o := ob) n6)
  refine g_addL w6 (upd_old (s5 _ _ q4) n6) upd_same (by rw [sizeLine_eq]; cases o <;> decide) fun p7 H7 n7 w7 => ?_
  have s7 := fun ob => Same.trans (s6 _) (Same.newG (o := ob) n7)
  have fin : ∀ {σ : Unit} {b : Bool}, b = ruV dr o → True := fun _ => trivial
  rcases hr2.ty TY with ⟨z, rfl, rfl, hz⟩ | ⟨hd, ty, hty, hk⟩
  · walk_at "go"
    refine g_isi (.ty _) (.base (.str z)) kit_str ?_
    walk_at "go"
    refine g_inL w7 (SqL.of upd_same) rfl (by cases o <;> rfl) ?_
    rw [allow_ok]
    rw [show ruV (.str z) o = ruleOk z o from rfl] at k1 k2
    refine ⟨_, rfl, ?_⟩
    cases e3 : ruleOk z o with
    | true =>
      rw [e3, if_pos rfl] at k2
      walk_at "go"
      exact k2 rfl _ (w7.drop (s7 _))
    | false =>
      rw [e3, if_neg (by decide)] at k1
      walk_at "go"
      exact g_newA (w7.drop (s7 _)) (by walk_at "sz") fun q G2 H2 n2 s2 q2 w2 => k1 1 n rfl q G2 H2 s2 q2 w2
  · walk_at "go"
    refine g_isi (.ty _) (tyX_same (Same.trans (s7 _) w7.sub) hty) hk ?_
    rw [show ruV dr o = false by cases dr <;> first | rfl | exact absurd rfl (hd _)] at k1 k2
    rw [if_neg (by decide)] at k1
    walk_at "go"
    exact g_newA (w7.drop (s7 _)) (by walk_at "sz") fun q G2 H2 n2 s2 q2 w2 => k1 1 n rfl q G2 H2 s2 q2 w2
end
end Sv


set_option Elab.async false
set_option linter.all false
set_option maxRecDepth 100000
set_option maxHeartbeats 4000000
namespace Sv
open PySem PySem.Spec PyProof.Rows L2 Sw
local macro_rules | `(tactic| walk_at "go1") => `(tactic| first
  | ((with_reducible refine' g_var ?hv ?_); (case hv => rfl))
  | with_reducible refine g_c ?_
  | with_reducible refine g_op ?_
  | with_reducible refine g_un ?_
  | with_reducible refine g_seq ?_
  | with_reducible refine g_next ?_
  | with_reducible refine g_asg ?_
  | with_reducible refine g_name ?_
  | with_reducible refine g_drop ?_
  | with_reducible refine g_sub ?_
  | with_reducible refine g_ret ?_
  | with_reducible refine g_retN ?_
  | with_reducible refine g_ifS ?_
  | with_reducible refine g_if ?_
  | with_reducible refine g_test ?_
  | with_reducible refine g_bl ?_
  | with_reducible refine g_cons ?_
  | with_reducible refine g_nil ?_
  | with_reducible refine g_and ?_
  | with_reducible refine g_or ?_
  | with_reducible refine g_not ?_
  | with_reducible refine g_callB ?_
  | with_reducible refine g_addI ?_
  | with_reducible refine g_I0 ?_
  | with_reducible refine g_calG ?_
  | with_reducible refine g_mkG ?_
  | with_reducible refine g_tup ?_
  | with_reducible refine g_pairs1 ?_
  | with_reducible refine g_pairs0 ?_
  | with_reducible refine g_dget ?_
  | with_reducible refine g_lvals ?_
  | with_reducible refine g_forT ?_
  | with_reducible refine g_lcT ?_
  | with_reducible refine g_dput ?_
  | with_reducible refine g_lc2L ?_
  | with_reducible refine g_iList ?_
  | with_reducible refine g_lcX ?_
  | with_reducible refine g_js1 ?_
  | with_reducible refine g_js0 ?_
  | with_reducible refine g_fmt ?_
  | with_reducible refine g_tLenSet ?_
  | with_reducible refine g_mkV ?_
  | with_reducible refine g_mkV1 ?_
  | with_reducible refine g_lst ?_
  | with_reducible refine g_forL ?_
  | with_reducible refine g_forR ?_
  | with_reducible refine g_forR2 ?_
  | with_reducible refine g_forS ?_
  | with_reducible refine g_forE ?_
  | with_reducible refine g_lcL ?_
  | with_reducible refine g_lcR ?_
  | with_reducible refine g_lcS ?_
  | with_reducible refine g_lcE ?_
  | with_reducible refine g_orT ?_
  | with_reducible refine g_slc ?_
  | with_reducible refine g_noPart ?_
  | with_reducible refine g_part ?_
  | with_reducible refine g_bm ?_
  | with_reducible refine g_par ?_
  | with_reducible refine g_yes ?_
  | with_reducible refine g_tupG ?_
  | with_reducible refine g_lstG ?_
  | with_reducible refine g_gcons ?_
  | with_reducible refine g_gnil ?_
  | with_reducible refine g_chain ?_
  | with_reducible refine g_truB ?_
  | with_reducible refine g_truN ?_
  | with_reducible refine g_truI ?_
  | with_reducible refine g_m1 ?_
  | with_reducible refine g_fld ?_
  | with_reducible refine g_con ?_
  | with_reducible refine g_tru ?_
  | with_reducible refine g_U ?_
  | with_reducible refine g_xg ?_
  | with_reducible refine g_andT ?_
  | with_reducible refine g_exI ?_
  | with_reducible refine g_dnew ?_
  | with_reducible refine g_intB ?_
  | with_reducible refine g_meth ?_
  | with_reducible refine g_prop ?_
  | with_reducible refine g_exc1 ?_
  | with_reducible refine g_setF ?_
  | with_reducible refine g_star ?_
  | with_reducible refine g_strM ?_
  | with_reducible refine iteT ?_
  | with_reducible refine iteF ?_
  | with_reducible refine iteNT ?_
  | with_reducible refine iteNF ?_)
local macro_rules | `(tactic| walk_at "go") => `(tactic| repeat (walk_at "go1"))
local macro_rules | `(tactic| walk_at "sz") => `(tactic| (first | (rw [sizeLine_eq]; simp only [List.length_cons, List.length_nil, List.length_map, List.length_append, List.length_take]; omega) | (rw [sizeLine_eq]; omega)))
def anyT : List String := ["NoneType", "int", "bool", "str", "tuple", "list", "dict"]
structure AnyF (K : PySem.W.Frag) (A : Ad) : Prop where
  ac : ∀ t ∈ anyT, PySem.W.kitOne K (.type t) (.ref A.Column) = some false
  nf : ∀ t ∈ anyT, ∀ k, PySem.W.notFirst K (kcls A k) (.type t) = true
  ti : ∀ t ∈ (["tuple", "list", "dict"] : List String), PySem.W.kitOne K (.type t) (.type "int") = some false ∧ PySem.W.kitOne K (.type t) (.type "str") = some false
def VAny (K : PySem.W.Frag) (G : Hp) (v : V) : Prop := ∃ t, t ∈ anyT ∧ TyX K G v (.type t)
section
variable {P : Program} {wo : World} {A : Ad} {K : PySem.W.Frag} {mg : Str → Option Value} {base : Heap}
/-! ### _law_made -/
def spMade (K : PySem.W.Frag) (A : Ad) : Sp := fun vs H Q _ => ∃ G R p c, vs = [.ref p] ∧ Wd G R H ∧ SqT K G p (colTup c) ∧ c.ok ∧ ∀ x G' H', Same G G' → G x = none → ColAt A G' x c → Wd G' R H' → Q (.ref x) H'
theorem sc__law_made : FnScope (["_law_column_here", "_law_kind", "_law_name", "_law_target", "_law_empty", "_law_law_rule"] : List Str) (["_law_column_here"] : List Str) (defScope s__law_made) := ⟨rfl, rfl, rfl, by decide +kernel, rfl, by decide +kernel, by decide +kernel⟩
theorem ok_made {f : Addr} {fd : FuncData} (F : Fun K "_law_made" "_law_made" s__law_made f fd) (T : Txt K mg A) (CF : ColF K A)
    (MR : GMk P wo K mg base 4 "RefColumn" A.RefColumn 2 ["optional", "rule"] (fun vs zs => spRefInit K A (vs ++ zs)))
    (MI : GMk P wo K mg base 4 "IntColumn" A.IntColumn 1 ["optional"] (fun vs zs => spColInit K A (vs ++ zs)))
    (MT : GMk P wo K mg base 4 "TextColumn" A.TextColumn 1 ["optional"] (fun vs zs => spColInit K A (vs ++ zs))) : FnOk P wo K mg base (L2.CX P wo) 6 f fd (["_law_column_here"] : List Str) (spMade K A) := by
  refine okT F sc__law_made (fun vs H Q E h => ?_) (fun cdv Ar outer s H vs Q E hr tk po h => ?_)
  · obtain ⟨_, _, _, _, rfl, _⟩ := h
    rfl
  obtain ⟨G, R, p, c, rfl, w, hp, ok, k⟩ := h
  refine ⟨_, (pss_cons (ps_asg (pv 0) (kg_tup (n := 5) K rfl (pgs_cons (pg_name (i := 1) sc__law_made.nd rfl (by first | exact Or.inl rfl | exact Or.inr rfl)) (pgs_cons (pg_name (i := 2) sc__law_made.nd rfl (by first | exact Or.inl rfl | exact Or.inr rfl)) (pgs_cons (pg_name (i := 3) sc__law_made.nd rfl (by first | exact Or.inl rfl | exact Or.inr rfl)) (pgs_cons (pg_name (i := 4) sc__law_made.nd rfl (by first | exact Or.inl rfl | exact Or.inr rfl)) (pgs_cons (pg_name (i := 5) sc__law_made.nd rfl (by first | exact Or.inl rfl | exact Or.inr rfl)) pgs_nil)))))))
      (pss_cons (ps_if (pt_cmpR (ka_eq K hr.units) (pv 1) pe_str (nomark _)) (pss_one (ps_ret (pe_makeG MI (hr.mono (by decide)) tk (pa_cons (pv 2) pa_nil) (pk_cons (pv 4) pk_nil)))) pss_nil)
      (pss_cons (ps_if (pt_cmpR (ka_eq K hr.units) (pv 1) pe_str (nomark _)) (pss_one (ps_ret (pe_makeG MT (hr.mono (by decide)) tk (pa_cons (pv 2) pa_nil) (pk_cons (pv 4) pk_nil)))) pss_nil)
      (pss_one (ps_ret (pe_makeG MR (hr.mono (by decide)) tk (pa_cons (pv 2) (pa_cons (pv 3) pa_nil)) (pk_cons (pv 4) (pk_cons (pv 5) pk_nil)))))))), ?_⟩
  have l1 : c.name.length ≤ 1000000 := Nat.le_trans (isNm_len ok.1) (by decide)
  walk_at "go"
  refine ⟨p, _, rfl, Evl.ex_t w.sub hp, rfl, ?_⟩
  unfold colTup
  walk_at "go"
  refine g_eqS rfl ?_
  walk_at "go"
  have new : ∀ (C x dx : Addr), H x = none → H dx = none → dx ≠ x → G x = none ∧ Wd (upd (upd G dx (.own x)) x (.ins C dx [])) R (upd (upd H dx (.own x)) x (.ins C dx [])) ∧ ∀ fs, Same G (upd (upd G dx (.own x)) x (.ins C dx fs)) := fun C x dx hx hdx hne => by
    have nx := w.free hx
    have ndx := w.free hdx
    have nx2 : upd G dx (.own x) x = none := by rw [upd_ne (Ne.symm hne)]; exact nx
    exact ⟨nx, (w.new (o := .own x) hdx).new (o := .ins C dx []) (show upd _ dx _ x = none by rw [upd_ne (Ne.symm hne)]; exact hx), fun fs => Same.trans (Same.newG ndx) (Same.newG nx2)⟩
  have isn : ∀ {G' : Hp}, Nmb K G' (.str c.name) true := fun {G'} => .inl ⟨c.name, rfl, l1, ok.1.symm⟩
  obtain ⟨kd, nm, o, tg, ru⟩ := c
  cases kd with
  | int =>
    rw [decide_eq_true (show V.str (kstr Kd.int) = V.str "int" from rfl)]
    walk_at "go"
    refine ⟨rfl, rfl, fun x dx hx hdx hne => ?_⟩
    obtain ⟨nx, w3, sm⟩ := new A.IntColumn x dx hx hdx hne
    refine ⟨_, R, x, _, dx, .str nm, o, true, rfl, w3, upd_same, CF.cls .int, CF.na .int, CF.no .int, isn, fun e1 H3 w4 => ?_, fun e1 => nomatch e1⟩
    rw [upd_upd] at w4
    exact ⟨rfl, k x _ _ (sm _) nx ⟨dx, upd_same⟩ w4⟩
  | text =>
    rw [decide_eq_false (show ¬ (V.str (kstr Kd.text) = V.str "int") from fun z => absurd (V.str.inj z) (by decide +kernel))]
    walk_at "go"
    refine g_eqS rfl ?_
    rw [decide_eq_true (show V.str (kstr Kd.text) = V.str "text" from rfl)]
    walk_at "go"
    refine ⟨rfl, rfl, fun x dx hx hdx hne => ?_⟩
    obtain ⟨nx, w3, sm⟩ := new A.TextColumn x dx hx hdx hne
    refine ⟨_, R, x, _, dx, .str nm, o, true, rfl, w3, upd_same, CF.cls .text, CF.na .text, CF.no .text, isn, fun e1 H3 w4 => ?_, fun e1 => nomatch e1⟩
    rw [upd_upd] at w4
    exact ⟨rfl, k x _ _ (sm _) nx ⟨dx, upd_same⟩ w4⟩
  | ref =>
    rw [decide_eq_false (show ¬ (V.str (kstr Kd.ref) = V.str "int") from fun z => absurd (V.str.inj z) (by decide +kernel))]
    walk_at "go"
    refine g_eqS rfl ?_
    rw [decide_eq_false (show ¬ (V.str (kstr Kd.ref) = V.str "text") from fun z => absurd (V.str.inj z) (by decide +kernel))]
    walk_at "go"
    obtain ⟨t1, t2⟩ := ok.2 rfl
    refine ⟨rfl, rfl, fun x dx hx hdx hne => ?_⟩
    obtain ⟨nx, w3, sm⟩ := new A.RefColumn x dx hx hdx hne
    refine ⟨_, R, x, dx, .str nm, .str tg, o, .str ru, true, true, true, rfl, w3, upd_same, isn, .inl ⟨tg, rfl, Nat.le_trans (isNm_len t1) (by decide), t1.symm⟩, .inl ⟨ru, rfl, t2.symm⟩, fun e1 e2 e3 H3 w4 => ?_, fun e1 => (nomatch e1), fun _ e2 => (nomatch e2), fun _ _ e3 => (nomatch e3)⟩
    rw [upd_upd] at w4
    exact ⟨rfl, k x _ _ (sm _) nx ⟨dx, upd_same⟩ w4⟩

/-! ### _law_value -/
def spLVal (K : PySem.W.Frag) : Sp := fun vs H Q _ => ∃ G a c, vs = [.ref a] ∧ Wd G (RD a c) H ∧ ∀ v d G' H', Same G G' → VAt K G' v d → VAny K G' v → Wd G' (RD a c) H' → Q v H'
theorem sc__law_value : FnScope (["_law_state", "_law_some"] : List Str) (["_law_state"] : List Str) (defScope s__law_value) := ⟨rfl, rfl, rfl, by decide +kernel, rfl, by decide +kernel, by decide +kernel⟩
theorem ok_lval {f : Addr} {fd : FuncData} (F : Fun K "_law_value" "_law_value" s__law_value f fd) (T : Txt K mg A) (TY : TyF K) (AF : AnyF K A) (Gp : GFn P wo K mg base 2 "_law_pick" 2 [] (fun vs _ => spPick K vs)) : FnOk P wo K mg base (L2.CX P wo) 3 f fd (["_law_state"] : List Str) (spLVal K) := by
  refine okT F sc__law_value (fun vs H Q E h => ?_) (fun cdv Ar outer s H vs Q E hr tk po h => ?_)
  · obtain ⟨_, _, _, rfl, _⟩ := h
    rfl
  obtain ⟨G, a, c, rfl, w, k⟩ := h
  refine ⟨_, (pss_cons (ps_set (i := 1) sc__law_value.nd rfl (by first | exact Or.inl rfl | exact Or.inr rfl) (pe_lst (pa_cons pe_non (pa_cons pe_int (pa_cons pe_int (pa_cons (pe_un un_neg pe_int) (pa_cons (pe_op op_pow pe_int pe_int) (pa_cons pe_bl (pa_cons pe_bl (pa_cons pe_str (pa_cons pe_str (pa_cons pe_str (pa_cons pe_str (pa_cons pe_str (pa_cons pe_str (pa_cons (pe_tup pa_nil) (pa_cons (pe_lst pa_nil) (pa_cons pe_dnewK (pa_cons (pe_tup (pa_cons pe_int pa_nil)) (pa_cons (pe_lst (pa_cons pe_non pa_nil)) pa_nil))))))))))))))))))))
      (pss_one (ps_ret (pe_callG Gp (hr.mono (by decide)) tk (pa_cons (pv 0) (pa_cons (pv 1) pa_nil)) pk_nil)))), ?_⟩
  walk_at "go"
  refine ⟨10, 39, rfl, rfl, ⟨by decide, by decide, by decide⟩, ?_⟩
  walk_at "go"
  refine g_newA w (by walk_at "sz") fun a1 G1 H1 n1 s1 q1 w => ?_
  walk_at "go"
  refine g_newA w (by walk_at "sz") fun a2 G2 H2 n2 s2 q2 w => ?_
  walk_at "go"
  refine g_newO w fun a3 G3 H3 n3 s3 q3 w => ?_
  walk_at "go"
  refine g_newA w (by walk_at "sz") fun a4 G4 H4 n4 s4 q4 w => ?_
  walk_at "go"
  refine g_newA w (by walk_at "sz") fun a5 G5 H5 n5 s5 q5 w => ?_
  walk_at "go"
  refine g_newA w (by walk_at "sz") fun p G6 H6 n6 s6 q6 w => ?_
  walk_at "go"
  refine ⟨rfl, rfl, G6, a, c, w, .inl ⟨p, _, rfl, .inl (SqL.of q6), by simp only [List.length_cons]; omega, by simp only [List.length_cons, List.length_nil]; omega, fun x H7 hx w => ?_⟩⟩
  have S5 := s6
  have S4 := Same.trans s5 S5
  have S3 := Same.trans s4 S4
  have S2 := Same.trans s3 S3
  have S1 := Same.trans s2 S2
  have ts : "tuple" ∈ (["tuple", "list", "dict"] : List String) := by decide
  have ls : "list" ∈ (["tuple", "list", "dict"] : List String) := by decide
  have ds : "dict" ∈ (["tuple", "list", "dict"] : List String) := by decide
  have fin : ∀ {d : VD} {t : String}, VAt K G6 x d → t ∈ anyT → TyX K G6 x (.type t) → Q x H7 := fun h1 h2 h3 => k x _ G6 H7 (Same.trans s1 S1) h1 ⟨_, h2, h3⟩ w
  have tup : ∀ {q : Addr} {xs : List V}, x = .ref q → G6 q = some (.tup xs) → Q x H7 := fun e h => by
    subst e
    exact fin (.oth (.base (.tup h)) (AF.ti _ ts).1 (AF.ti _ ts).2) (by decide) (.base (.tup h))
  have lst : ∀ {q : Addr} {xs : List V}, x = .ref q → G6 q = some (.lst xs) → Q x H7 := fun e h => by
    subst e
    exact fin (.oth (.base (.lst h)) (AF.ti _ ls).1 (AF.ti _ ls).2) (by decide) (.base (.lst h))
  have dic : ∀ {q : Addr}, x = .ref q → G6 q = some (.dK []) → Q x H7 := fun e h => by
    subst e
    exact fin (.oth (.base (.dK h)) (AF.ti _ ds).1 (AF.ti _ ds).2) (by decide) (.base (.dK h))
  have int : ∀ {i : Int}, x = .int i → Q x H7 := fun {i} e => by
    subst e
    exact fin (.int i) (by decide) (.base (.int i))
  have str : ∀ {z : Str}, x = .str z → z.length ≤ 1000000 → Q x H7 := fun {z} e h => by
    subst e
    exact fin (.str z h) (by decide) (.base (.str z))
  have bl : ∀ {b : Bool}, x = .bl b → Q x H7 := fun {b} e => by
    subst e
    exact fin (.bl b) (by decide) (.base (.bl b))
  simp only [List.mem_cons, List.not_mem_nil, or_false] at hx
  rcases hx with e | e | e | e | e | e | e | e | e | e | e | e | e | e | e | e | e | e
  · subst e
    exact fin .non (by decide) (.base .non)
  · exact int e
  · exact int e
  · exact int e
  · exact int e
  · exact bl e
  · exact bl e
  · exact str e (by decide)
  · exact str e (by decide)
  · exact str e (by decide)
  · exact str e (by decide)
  · exact str e (by decide)
  · exact str e (by decide)
  · exact tup e (S1 _ _ q1)
  · exact lst e (S2 _ _ q2)
  · exact dic e (S3 _ _ q3)
  · exact tup e (S4 _ _ q4)
  · exact lst e (S5 _ _ q5)
end
end Sv


set_option Elab.async false
set_option linter.all false
set_option maxRecDepth 100000
set_option maxHeartbeats 4000000
namespace Sv
open PySem PySem.Spec PyProof.Rows L2 Sw
local macro_rules | `(tactic| walk_at "go1") => `(tactic| first
  | ((with_reducible refine' g_var ?hv ?_); (case hv => rfl))
  | with_reducible refine g_c ?_
  | with_reducible refine g_op ?_
  | with_reducible refine g_un ?_
  | with_reducible refine g_seq ?_
  | with_reducible refine g_next ?_
  | with_reducible refine g_asg ?_
  | with_reducible refine g_name ?_
  | with_reducible refine g_drop ?_
  | with_reducible refine g_sub ?_
  | with_reducible refine g_ret ?_
  | with_reducible refine g_retN ?_
  | with_reducible refine g_ifS ?_
  | with_reducible refine g_if ?_
  | with_reducible refine g_test ?_
  | with_reducible refine g_bl ?_
  | with_reducible refine g_cons ?_
  | with_reducible refine g_nil ?_
  | with_reducible refine g_and ?_
  | with_reducible refine g_or ?_
  | with_reducible refine g_not ?_
  | with_reducible refine g_callB ?_
  | with_reducible refine g_addI ?_
  | with_reducible refine g_I0 ?_
  | with_reducible refine g_calG ?_
  | with_reducible refine g_mkG ?_
  | with_reducible refine g_tup ?_
  | with_reducible refine g_pairs1 ?_
  | with_reducible refine g_pairs0 ?_
  | with_reducible refine g_dget ?_
  | with_reducible refine g_lvals ?_
  | with_reducible refine g_forT ?_
  | with_reducible refine g_lcT ?_
  | with_reducible refine g_dput ?_
  | with_reducible refine g_lc2L ?_
  | with_reducible refine g_iList ?_
  | with_reducible refine g_lcX ?_
  | with_reducible refine g_js1 ?_
  | with_reducible refine g_js0 ?_
  | with_reducible refine g_fmt ?_
  | with_reducible refine g_tLenSet ?_
  | with_reducible refine g_mkV ?_
  | with_reducible refine g_mkV1 ?_
  | with_reducible refine g_lst ?_
  | with_reducible refine g_forL ?_
  | with_reducible refine g_forR ?_
  | with_reducible refine g_forR2 ?_
  | with_reducible refine g_forS ?_
  | with_reducible refine g_forE ?_
  | with_reducible refine g_lcL ?_
  | with_reducible refine g_lcR ?_
  | with_reducible refine g_lcS ?_
  | with_reducible refine g_lcE ?_
  | with_reducible refine g_orT ?_
  | with_reducible refine g_slc ?_
  | with_reducible refine g_noPart ?_
  | with_reducible refine g_part ?_
  | with_reducible refine g_bm ?_
  | with_reducible refine g_par ?_
  | with_reducible refine g_yes ?_
  | with_reducible refine g_tupG ?_
  | with_reducible refine g_lstG ?_
  | with_reducible refine g_gcons ?_
  | with_reducible refine g_gnil ?_
  | with_reducible refine g_chain ?_
  | with_reducible refine g_truB ?_
  | with_reducible refine g_truN ?_
  | with_reducible refine g_truI ?_
  | with_reducible refine g_m1 ?_
  | with_reducible refine g_fld ?_
  | with_reducible refine g_con ?_
  | with_reducible refine g_tru ?_
  | with_reducible refine g_U ?_
  | with_reducible refine g_xg ?_
  | with_reducible refine g_andT ?_
  | with_reducible refine g_exI ?_
  | with_reducible refine g_dnew ?_
  | with_reducible refine g_intB ?_
  | with_reducible refine g_meth ?_
  | with_reducible refine g_prop ?_
  | with_reducible refine g_exc1 ?_
  | with_reducible refine g_setF ?_
  | with_reducible refine g_star ?_
  | with_reducible refine g_strM ?_
  | with_reducible refine iteT ?_
  | with_reducible refine iteF ?_
  | with_reducible refine iteNT ?_
  | with_reducible refine iteNF ?_)
local macro_rules | `(tactic| walk_at "go") => `(tactic| repeat (walk_at "go1"))
local macro_rules | `(tactic| walk_at "sz") => `(tactic| (first | (rw [sizeLine_eq]; simp only [List.length_cons, List.length_nil, List.length_map, List.length_append, List.length_take]; omega) | (rw [sizeLine_eq]; omega)))
/-! ### _law_tried: what a lambda's call returns in a list, or its error -/
def trCs (A : Ad) : List Addr := [A.InvalidName, A.InvalidColumn]
structure TrF (K : PySem.W.Frag) (A : Ad) : Prop where
  em : ∀ C ∈ trCs A, PySem.W.exmOne K (.ref C) (.ref A.SaveError) = some true
  ec : ∀ C ∈ trCs A, ExcC K C
  xf : ∀ C ∈ trCs A, XfC K C
  ki : ∀ (i j : Nat) (C D : Addr), (trCs A)[i]? = some C → (trCs A)[j]? = some D → PySem.W.kitOne K (.ref C) (.ref D) = some (decide (i = j))
  kv : ∀ C ∈ trCs A, PySem.W.kitOne K (.ref C) (.type "ValueError") = some true
  nl : ∀ C ∈ trCs A, PySem.W.findIn K (.ref C) "name" = some none
theorem joinSeq {s1 s2 : TS} {D : Ends} {σ : L2.St} {H : Hp} {C : L2.St → Hp → Prop} (h : ∀ N : L2.St → Hp → Prop, (∀ σ' H', C σ' H' → N σ' H') → s1 { D with nx := N } σ H) (k : ∀ σ' H', C σ' H' → s2 D σ' H') : tSeq s1 s2 D σ H := h (s2 D) k
def TTried (A : Ad) : (XK → Hp → VK → Prop) → Hp → VK → Prop := fun tl H Q => ∃ G R, Wd G R H ∧ ∀ H' E' Q', Wd G R H' →
  (∀ i C d v G' H2, (trCs A)[i]? = some C → G' d = some (.xd [("name", v)]) → Wd G' R H2 → (∀ t G3 H3, Same G' G3 → G3 t = some (.tup [.str (w2 i), v]) → Wd G3 R H3 → Q (.ref t) H3) → E' (.ref C) (some d) H2) →
  (∀ v H2, Q .non H2 → Q' v H2) → tl E' H' Q'
section
variable {P : Program} {wo : World} {A : Ad} {K : PySem.W.Frag} {mg : Str → Option Value} {base : Heap}
theorem g_isX {G H : Hp} {R : Res} {Q : VK} {a d C D : Addr} {fs : List (Str × V)} {b : Bool} (w : Wd G R H) (ha : G a = some (exv a (.ref C) (some d))) (hd : G d = some (.xd fs)) (ec : ExcC K C) (hk : PySem.W.kitOne K (.ref C) (.ref D) = some b) (k : Q (.bl b) H) : rIsV K [.ref a, .ref D] H Q :=
  ⟨a, C, some d, .ref D, .ref D, b, rfl, .inr (w.get ha), fun _ z => ⟨fs, by cases z; exact .inr (w.get hd)⟩, ec, fun u r => r, hk, k⟩
theorem g_isXv {G H : Hp} {R : Res} {Q : VK} {a d C : Addr} {D : String} {fs : List (Str × V)} {b : Bool} (w : Wd G R H) (ha : G a = some (exv a (.ref C) (some d))) (hd : G d = some (.xd fs)) (ec : ExcC K C) (hk : PySem.W.kitOne K (.ref C) (.type D) = some b) (k : Q (.bl b) H) : rIsV K [.ref a, .ty D] H Q :=
  ⟨a, C, some d, .ty D, .type D, b, rfl, .inr (w.get ha), fun _ z => ⟨fs, by cases z; exact .inr (w.get hd)⟩, ec, fun u r => r, hk, k⟩
theorem g_xX {G H : Hp} {R : Res} {P : V → Prop} {a d C : Addr} {fs : List (Str × V)} {f : Str} {v : V} (w : Wd G R H) (ha : G a = some (exv a (.ref C) (some d))) (hd : G d = some (.xd fs)) (xf : XfC K C) (hno : PySem.W.findIn K (.ref C) f = some none) (hl : fs.lookup f = some v) (k : P v) :
    ∃ (a' C' dd : Addr) (fs' : List (Str × V)) (v' : V), V.ref a = .ref a' ∧ ExAt H a' C' (some dd) ∧ DxAt H dd fs' ∧ XfC K C' ∧ PySem.W.findIn K (.ref C') f = some none ∧ fs'.lookup f = some v' ∧ P v' := ⟨a, C, d, fs, v, rfl, .inr (w.get ha), .inr (w.get hd), xf, hno, hl, k⟩
theorem sc__law_tried : FnScope (["_law_work", "_law_caught", "e", "_law_kinds"] : List Str) (["_law_work"] : List Str) (defScope s__law_tried) := ⟨rfl, rfl, rfl, by decide +kernel, rfl, by decide +kernel, by decide +kernel⟩
theorem gives_tried {g : Addr} {cdv : Value} (T : Txt K mg A) (TR : TrF K A) : GivesR P wo K mg base (["_law_work", "_law_caught", "e", "_law_kinds"] : List Str) "_law_tried" (defScope s__law_tried) g cdv (defBody s__law_tried) "_law_work" (TTried A) := by
  intro Ar st q f c' s H Q tl hr act hc h
  obtain ⟨G, R, w, h⟩ := h
  have tk : Takes (hostCx P wo K mg base (["_law_work", "_law_caught", "e", "_law_kinds"] : List Str) "_law_tried" (defScope s__law_tried) g cdv Ar st s H).nox (fun _ _ _ _ => False) := LamX.takes0
  refine ⟨_, (pss_cons (ps_set (i := 1) sc__law_tried.nd rfl (by first | exact Or.inl rfl | exact Or.inr rfl) pe_non)
      (pss_cons (ps_try_keep (i := 2) rfl rfl sc__law_tried.nd rfl rfl (names_of rfl T.g_SaveError) tk rfl (fun _ _ _ tk po => (pss_one (ps_expr (act _ _ _ _ _ tk)))) (fun _ _ _ _ _ hz hf => (pss_one (ps_set (i := 1) sc__law_tried.nd rfl (by first | exact Or.inl rfl | exact Or.inr rfl) (pv 2)))))
      (pss_cons (ps_if (pt_cmpR op_isN (pv 1) pe_non (nomark _)) (pss_one (ps_ret pe_non)) pss_nil)
      (pss_cons (ps_set (i := 3) sc__law_tried.nd rfl (by first | exact Or.inl rfl | exact Or.inr rfl) (pe_lst (pa_cons (pe_callB (call_isV K) (by rfl) T.nb_isinstance (by decide +kernel) (pa_cons (pv 1) (pa_cons (pe_globE (by rfl) T.g_InvalidName) pa_nil))) (pa_cons (pe_callB (call_isV K) (by rfl) T.nb_isinstance (by decide +kernel) (pa_cons (pv 1) (pa_cons (pe_globE (by rfl) T.g_InvalidColumn) pa_nil))) pa_nil))))
      (pss_cons (ps_if (PW.pt (pw_or (pt_cmpR (ka_ne K hr.units) (pe_bm PySem.F.plainAttrs_list PySem.F.slot_list_count PySem.F.type_list_count (mt_bcount K) (pv 3) (pa_cons pe_bl pa_nil)) pe_int (nomark _)) (pw_or1 (pt_not (kt_truth K (pe_callB (call_isV K) (by rfl) T.nb_isinstance (by decide +kernel) (pa_cons (pv 1) (pa_cons (pe_bltn (v := .ty "ValueError") (u := .type "ValueError") (by rfl) T.nb_ValueError (by decide +kernel) rfl) pa_nil))) (by intro _; rfl)))))) (pss_one (ps_ret (pe_tup (pa_cons pe_str (pa_cons pe_non pa_nil))))) pss_nil)
      (pss_one (ps_ret (pe_tup (pa_cons (pe_ix (ka_ix K) (pe_lst (pa_cons pe_str (pa_cons pe_str pa_nil))) (pe_callTy ka_int (by rfl) T.nb_int (by decide +kernel) (pa_cons (pe_ix (ka_ix K) (pv 3) pe_int (fun _ _ => rfl)) pa_nil)) (fun _ _ => rfl)) (pa_cons (pe_xv K (pv 1)) pa_nil)))))))))), ?_⟩
  with_reducible refine joinSeq (C := fun σ' H' => σ' = [some (.ref f), some .non, none, none] ∧ H' = H) ?_ ?_
  · intro N hN
    walk_at "go"
    exact hN _ _ ⟨rfl, rfl⟩
  rintro _ _ ⟨rfl, rfl⟩
  with_reducible refine joinSeq (C := fun σ' H' => (σ' = [some (.ref f), some .non, none, none] ∧ Q .non H') ∨
    (∃ i C a d v G', (trCs A)[i]? = some C ∧ σ' = [some (.ref f), some (.ref a), none, none] ∧ G' a = some (exv a (.ref C) (some d)) ∧ G' d = some (.xd [("name", v)]) ∧ Wd G' R H' ∧ ∀ t G3 H3, Same G' G3 → G3 t = some (.tup [.str (w2 i), v]) → Wd G3 R H3 → Q (.ref t) H3)) ?_ ?_
  · intro N hN
    walk_at "go"
    refine ⟨rfl, hc, h _ _ _ w (fun i C d v G' H2 hi hd w2 kq => ?_) (fun v H2 kq => ?_)⟩
    · have hm := List.mem_of_getElem? hi
      refine ⟨true, TR.em C hm, fun _ a ha => ?_, fun z => Bool.noConfusion z⟩
      walk_at "go"
      have na := w2.free ha
      refine hN _ _ (.inr ⟨i, C, a, d, v, _, hi, rfl, upd_same, upd_old hd na, w2.new ha, fun t G3 H3 e => kq t G3 H3 (Same.trans (Same.newG na) e)⟩)
    · walk_at "go"
      exact hN _ _ (.inl ⟨rfl, kq⟩)
  rintro _ H2 (⟨rfl, kq⟩ | ⟨i, C, a, d, v, G', hi, rfl, ha, hd, w, kq⟩)
  · walk_at "go"
    refine ⟨rfl, _, rfl, ?_⟩
    rw [decide_eq_true (show V.non = V.non from rfl)]
    walk_at "go"
    exact kq
  have hm := List.mem_of_getElem? hi
  have hec := TR.ec C hm
  have hxf := TR.xf C hm
  have i0 := TR.ki i 0 C _ hi rfl
  have i1 := TR.ki i 1 C _ hi rfl
  have hno := TR.nl C hm
  have hi2 : i < 2 := (List.getElem?_eq_some_iff.mp hi).1
  walk_at "go"
  refine ⟨rfl, _, rfl, ?_⟩
  rw [decide_eq_false (show ¬ (V.ref a = V.non) from fun z => nomatch z)]
  walk_at "go"
  refine g_isX w ha hd hec i0 ?_
  walk_at "go"
  refine g_isX w ha hd hec i1 ?_
  walk_at "go"
  refine g_newA w (by walk_at "sz") fun q2 G2 H3 n2 s2 q2' w => ?_
  walk_at "go"
  refine g_tyL w q2' ?_
  walk_at "go"
  have hcnt : ([decide (i = 0), decide (i = 1)].count true) = 1 := by
    rcases (show i = 0 ∨ i = 1 by omega) with z | z <;> (subst z; decide)
  refine ⟨q2, [decide (i = 0), decide (i = 1)], true, rfl, rfl, SqL.of (w.get q2'), ?_⟩
  rw [hcnt]
  walk_at "go"
  refine g_neS rfl ?_
  rw [decide_eq_true (show V.int ((1 : Nat) : Int) = V.int 1 from rfl)]
  walk_at "go"
  refine g_isXv w (s2 _ _ ha) (s2 _ _ hd) hec (TR.kv C hm) ?_
  walk_at "go"
  refine g_newA w (by walk_at "sz") fun q3 G3 H4 n3 s3 q3' w => ?_
  walk_at "go"
  have S3 : Same G' G3 := Same.trans s2 s3
  rcases (show i = 0 ∨ i = 1 by omega) with z | z
  · subst z
    refine g_ixL w (SqL.of (s3 _ _ q2')) (v := .bl (decide (0 = 1))) (L2.atI_nat (j := 1) rfl) ?_
    walk_at "go"
    refine g_ixL w (SqL.of q3') (v := .str "name") rfl ?_
    walk_at "go"
    refine g_tXv ?_
    walk_at "go"
    refine g_xX w (S3 _ _ ha) (S3 _ _ hd) hxf hno lk_eq ?_
    walk_at "go"
    refine g_newA w (by walk_at "sz") fun t G7 H7 n7 s7 q7 w => ?_
    exact kq t G7 H7 (Same.trans S3 s7) q7 w
  · subst z
    refine g_ixL w (SqL.of (s3 _ _ q2')) (v := .bl (decide (1 = 1))) (L2.atI_nat (j := 1) rfl) ?_
    walk_at "go"
    refine g_ixL w (SqL.of q3') (v := .str "column") rfl ?_
    walk_at "go"
    refine g_tXv ?_
    walk_at "go"
    refine g_xX w (S3 _ _ ha) (S3 _ _ hd) hxf hno lk_eq ?_
    walk_at "go"
    refine g_newA w (by walk_at "sz") fun t G7 H7 n7 s7 q7 w => ?_
    exact kq t G7 H7 (Same.trans S3 s7) q7 w
end
end Sv


set_option Elab.async false
set_option linter.all false
set_option maxRecDepth 100000
set_option maxHeartbeats 4000000
namespace Sw
open PySem PySem.Spec PyProof.Rows L2
/-! ### what stays when only code tables grow -/
section
variable {K : PySem.W.Frag} {G H : Hp} {a : Addr} {xs : List V} {v : V}
theorem SameN.of_upd {o : HO} (h : G a = none) : SameN G (upd G a o) := SameN.of (Same.newG h)
theorem SameN.l (e : SameN G H) (h : SqL K G a xs) : SqL K H a xs := by
  rcases h with (h | ⟨o, h⟩) | h
  · exact .inl (.inl (e _ _ h fun _ z => nomatch z))
  · exact .inl (.inr ⟨o, e _ _ h fun _ z => nomatch z⟩)
  · exact .inr h
theorem SameN.t (e : SameN G H) (h : SqT K G a xs) : SqT K H a xs := by
  rcases h with (h | ⟨o, h⟩) | h
  · exact .inl (.inl (e _ _ h fun _ z => nomatch z))
  · exact .inl (.inr ⟨o, e _ _ h fun _ z => nomatch z⟩)
  · exact .inr h
theorem Dq.sameN (e : SameN G H) {d : PyData} (h : Dq K G v d) : Dq K H v d := by
  refine Dq.rec (motive_1 := fun v d _ => Dq K H v d) (motive_2 := fun vs ds _ => DqAll K H vs ds) ?_ ?_ ?_ ?_ ?_ ?_ ?_ ?_ ?_ h
  · exact .non
  · intro b
    exact .bl b
  · intro i
    exact .int i
  · intro x
    exact .str x
  · intro _ _ _ hs _ ih
    exact .lst (e.l hs) ih
  · intro _ _ _ hs _ ih
    exact .tup (e.t hs) ih
  · intro _ _ _ ea _ ih
    exact .dic (e _ _ ea fun _ z => nomatch z) ih
  · exact .nil
  · intro _ _ _ _ _ _ ih1 ih2
    exact .cons ih1 ih2
theorem tyX_sameN (e : SameN G H) {t : Value} (h : TyX K G v t) : TyX K H v t := by
  cases h with
  | base b =>
    cases b with
    | non => exact .base .non
    | bl y => exact .base (.bl y)
    | int i => exact .base (.int i)
    | str y => exact .base (.str y)
    | flt y => exact .base (.flt y)
    | lst h => exact .base (.lst (e _ _ h fun _ z => nomatch z))
    | frz h => exact .base (.frz (e _ _ h fun _ z => nomatch z))
    | tup h => exact .base (.tup (e _ _ h fun _ z => nomatch z))
    | dK h => exact .base (.dK (e _ _ h fun _ z => nomatch z))
    | dT h => exact .base (.dT (e _ _ h fun _ z => nomatch z))
    | ins h cl h1 h2 h3 h4 => exact .base (.ins (e _ _ h fun _ z => nomatch z) cl h1 h2 h3 h4)
  | byt y => exact .byt y
  | set h => exact .set (e _ _ h fun _ z => nomatch z)
  | kList h c => exact .kList h c
  | kTuple h c => exact .kTuple h c
  | kDict h c => exact .kDict h c
  | fTuple h => exact .fTuple (e _ _ h fun _ z => nomatch z)
  | fDict h => exact .fDict (e _ _ h fun _ z => nomatch z)
end
/-- repr, with room -/
theorem g_reprS {K : PySem.W.Frag} {G : Hp} {R : Res} {H : Hp} {v : V} {d : PyData} {Q : VK} (w : Wd G R H) (h : Dq K G v d) (s : d.showable = true) (dp : d.depth ≤ 100) (l : d.shown.length ≤ sizeLine) (k : Q (.str d.shown) H) : qRepr K [v] H Q :=
  ⟨v, d, rfl, h.mono w.sub, s, dp, l, k⟩
/-- a plain def with no repr open, its code known -/
theorem okGL {P : Program} {w : World} {K : PySem.W.Frag} {mg : Str → Option Value} {base : Heap} {k : Nat} {f : Addr} {fd : FuncData} {ps : List Str} {sp : Sp} {x qual : Str} {st : Stmt} {N : List Str} {cL : Value} (F : Fun K x qual st f fd) (hcL : fd.code = cL) (S : FnScope N ps (defScope st)) (len : ∀ vs H Q E, sp vs H Q E → vs.length = ps.length)
    (hbody : ∀ (A : Around) (outer : List Env) (s : Shared) (H : Hp) (vs : List V) (Q : VK) (E : XK), Room k (A.deeper (envOfC qual (defScope st) s.heap.objs.size f cL)) → A.guards = some [] →
      Takes (cxOf (L2.CX P w) P w K mg base N qual (defScope st) f cL A outer s H E) (fun cls d _ H => E cls d H) →
      PassesOwn (model P w) (A.deeper (envOfC qual (defScope st) s.heap.objs.size f cL)) (envOfC qual (defScope st) s.heap.objs.size f cL) (cxOf (L2.CX P w) P w K mg base N qual (defScope st) f cL A outer s H E).xe → sp vs H Q E →
      ∃ t, PSs (cxOf (L2.CX P w) P w K mg base N qual (defScope st) f cL A outer s H E) (defBody st) t ∧ t { nx := fun _ H' => Q .non H', rt := Q } (L2.start N vs) H) : FnG P w K mg base (L2.CX P w) (k + 1) f fd ps sp := by
  obtain ⟨⟨oc, od, kV, doc, pm, an, cdv, ct, osl, rfl, lk, hcd⟩, kp⟩ := F
  obtain rfl : cdv = cL := hcL
  refine fnG_of lk hcd S len fun A outer s H vs Q E hr hg h => ?_
  have tk : Takes (cxOf (L2.CX P w) P w K mg base N qual (defScope st) f cdv A outer s H E) (fun cls d _ H => E cls d H) := takes_of rfl rfl rfl rfl
  exact hbody A outer s H vs Q E hr hg tk (passes_of (X := cxOf (L2.CX P w) P w K mg base N qual (defScope st) f cdv A outer s H E) rfl) h
end Sw

set_option Elab.async false
set_option linter.all false
set_option maxRecDepth 100000
set_option maxHeartbeats 4000000
namespace Sv
open PySem PySem.Spec PyProof.Rows L2 Sw
local macro_rules | `(tactic| walk_at "go1") => `(tactic| first
  | ((with_reducible refine' g_var ?hv ?_); (case hv => rfl))
  | with_reducible refine g_c ?_
  | with_reducible refine g_op ?_
  | with_reducible refine g_un ?_
  | with_reducible refine g_seq ?_
  | with_reducible refine g_next ?_
  | with_reducible refine g_asg ?_
  | with_reducible refine g_name ?_
  | with_reducible refine g_drop ?_
  | with_reducible refine g_sub ?_
  | with_reducible refine g_ret ?_
  | with_reducible refine g_retN ?_
  | with_reducible refine g_ifS ?_
  | with_reducible refine g_if ?_
  | with_reducible refine g_test ?_
  | with_reducible refine g_bl ?_
  | with_reducible refine g_cons ?_
  | with_reducible refine g_nil ?_
  | with_reducible refine g_and ?_
  | with_reducible refine g_or ?_
  | with_reducible refine g_not ?_
  | with_reducible refine g_callB ?_
  | with_reducible refine g_addI ?_
  | with_reducible refine g_I0 ?_
  | with_reducible refine g_calG ?_
  | with_reducible refine g_mkG ?_
  | with_reducible refine g_tup ?_
  | with_reducible refine g_pairs1 ?_
  | with_reducible refine g_pairs0 ?_
  | with_reducible refine g_dget ?_
  | with_reducible refine g_lvals ?_
  | with_reducible refine g_forT ?_
  | with_reducible refine g_lcT ?_
  | with_reducible refine g_dput ?_
  | with_reducible refine g_lc2L ?_
  | with_reducible refine g_iList ?_
  | with_reducible refine g_lcX ?_
  | with_reducible refine g_js1 ?_
  | with_reducible refine g_js0 ?_
  | with_reducible refine g_fmt ?_
  | with_reducible refine g_tLenSet ?_
  | with_reducible refine g_mkV ?_
  | with_reducible refine g_mkV1 ?_
  | with_reducible refine g_lst ?_
  | with_reducible refine g_forL ?_
  | with_reducible refine g_forR ?_
  | with_reducible refine g_forR2 ?_
  | with_reducible refine g_forS ?_
  | with_reducible refine g_forE ?_
  | with_reducible refine g_lcL ?_
  | with_reducible refine g_lcR ?_
  | with_reducible refine g_lcS ?_
  | with_reducible refine g_lcE ?_
  | with_reducible refine g_orT ?_
  | with_reducible refine g_slc ?_
  | with_reducible refine g_noPart ?_
  | with_reducible refine g_part ?_
  | with_reducible refine g_bm ?_
  | with_reducible refine g_par ?_
  | with_reducible refine g_yes ?_
  | with_reducible refine g_tupG ?_
  | with_reducible refine g_lstG ?_
  | with_reducible refine g_gcons ?_
  | with_reducible refine g_gnil ?_
  | with_reducible refine g_chain ?_
  | with_reducible refine g_truB ?_
  | with_reducible refine g_truN ?_
  | with_reducible refine g_truI ?_
  | with_reducible refine g_m1 ?_
  | with_reducible refine g_fld ?_
  | with_reducible refine g_con ?_
  | with_reducible refine g_tru ?_
  | with_reducible refine g_U ?_
  | with_reducible refine g_xg ?_
  | with_reducible refine g_andT ?_
  | with_reducible refine g_exI ?_
  | with_reducible refine g_dnew ?_
  | with_reducible refine g_intB ?_
  | with_reducible refine g_meth ?_
  | with_reducible refine g_prop ?_
  | with_reducible refine g_exc1 ?_
  | with_reducible refine g_setF ?_
  | with_reducible refine g_star ?_
  | with_reducible refine g_strM ?_
  | with_reducible refine iteT ?_
  | with_reducible refine iteF ?_
  | with_reducible refine iteNT ?_
  | with_reducible refine iteNF ?_)
local macro_rules | `(tactic| walk_at "go") => `(tactic| repeat (walk_at "go1"))
local macro_rules | `(tactic| walk_at "sz") => `(tactic| (first | (rw [sizeLine_eq]; simp only [List.length_cons, List.length_nil, List.length_map, List.length_append, List.length_take]; omega) | (rw [sizeLine_eq]; omega)))
theorem NotStr.sameN {K : PySem.W.Frag} {G H : Hp} {v : V} (h : NotStr K G v) (e : SameN G H) : NotStr K H v := by
  obtain ⟨t, h1, h2⟩ := h
  exact ⟨t, tyX_sameN e h1, h2⟩
theorem RD.lists {a c : Addr} {G H : Hp} (w : Wd G (RD a c) H) : ∀ b ∈ (RD a c).L, ∃ xs, H b = some (.lst xs) := fun b hb => by
  obtain ⟨xs, i, m, _, h1, h2⟩ := w.res
  rcases List.mem_cons.mp hb with rfl | hb
  · exact ⟨_, h1⟩
  · rw [List.mem_singleton.mp hb]
    exact ⟨_, h2⟩
theorem VAt.nmb {K : PySem.W.Frag} (TY : TyF K) {G : Hp} {v : V} {d : VD} (h : VAt K G v d) : Nmb K G v (nmV d) := by
  rcases h.ty TY with ⟨s, rfl, rfl, hs⟩ | ⟨hd, t, ht, hk⟩
  · exact .inl ⟨s, rfl, hs, rfl⟩
  · exact .inr ⟨⟨t, ht, hk⟩, by cases d <;> first | rfl | exact absurd rfl (hd _)⟩
theorem VAt.rmb {K : PySem.W.Frag} (TY : TyF K) {G : Hp} {v : V} {d : VD} (o : Bool) (h : VAt K G v d) : Rmb K G v o (ruV d o) := by
  rcases h.ty TY with ⟨s, rfl, rfl, hs⟩ | ⟨hd, t, ht, hk⟩
  · exact .inl ⟨s, rfl, rfl⟩
  · exact .inr ⟨⟨t, ht, hk⟩, by cases d <;> first | rfl | exact absurd rfl (hd _)⟩
theorem VAt.sameN {K : PySem.W.Frag} {G H : Hp} {v : V} {d : VD} (h : VAt K G v d) (e : SameN G H) : VAt K H v d := by
  cases h with
  | non => exact .non
  | int i => exact .int i
  | bl b => exact .bl b
  | str s h => exact .str s h
  | oth h h1 h2 => exact .oth (tyX_sameN e h) h1 h2
def Od1 (d : PyData) : Prop := d.showable = true ∧ d.depth ≤ 100 ∧ d.shown.length ≤ sizeLine
def resP : Option (Nat × PyData) → PyData
  | none => .none
  | some (i, d) => .tuple [.str (w2 i), d]
def OdN (d : PyData) : Prop := Od1 (.tuple [.str "name", d]) ∧ Od1 (.tuple [.str "column", d]) ∧ Od1 (.list [.tuple [.str "name", d], .tuple [.str "name", d]])
theorem ResV.same {G H : Hp} {v : V} {e : Option (Nat × V)} (h : ResV G v e) (s : Same G H) : ResV H v e := by
  rcases h with h | ⟨i, u, p, h1, h2, h3⟩
  · exact .inl h
  · exact .inr ⟨i, u, p, h1, h2, s _ _ h3⟩
theorem ResV.sameN {G H : Hp} {v : V} {e : Option (Nat × V)} (h : ResV G v e) (s : SameN G H) : ResV H v e := by
  rcases h with h | ⟨i, u, p, h1, h2, h3⟩
  · exact .inl h
  · exact .inr ⟨i, u, p, h1, h2, s _ _ h3 fun _ z => nomatch z⟩
theorem new_at {G H : Hp} {R : Res} (C x dx : Addr) (hx : H x = none) (hdx : H dx = none) (hne : dx ≠ x) (w : Wd G R H) : G x = none ∧ Wd (upd (upd G dx (.own x)) x (.ins C dx [])) R (upd (upd H dx (.own x)) x (.ins C dx [])) ∧ ∀ fs, Same G (upd (upd G dx (.own x)) x (.ins C dx fs)) := by
  have nx := w.free hx
  have ndx := w.free hdx
  have nx2 : upd G dx (.own x) x = none := by rw [upd_ne (Ne.symm hne)]; exact nx
  exact ⟨nx, (w.new (o := .own x) hdx).new (o := .ins C dx []) (show upd _ dx _ x = none by rw [upd_ne (Ne.symm hne)]; exact hx), fun fs => Same.trans (Same.newG ndx) (Same.newG nx2)⟩
theorem tabs_updL {T : List (Addr × Str)} {G : Hp} {l : Addr} {xs : List V} {o : HO} (t : LamX.Tabs T G) (h : G l = some (.lst xs)) : LamX.Tabs T (upd G l o) := fun p hp => by
  obtain ⟨ps, h1, h2, h3⟩ := t p hp
  refine ⟨ps, ?_, h2, fun pos cv hc => ?_⟩
  · rw [upd_ne (fun z => by rw [z, h] at h1; cases h1)]
    exact h1
  · obtain ⟨c, e1, e2⟩ := h3 pos cv hc
    refine ⟨c, e1, ?_⟩
    rw [upd_ne (fun z => by rw [z, h] at e2; cases e2)]
    exact e2
theorem nd_of {G : Hp} {x d : Addr} {o o' : HO} (h : upd G x o d = none) : upd G x o' d = none := by
  by_cases e : d = x
  · subst e
    rw [upd_same] at h
    cases h
  · rw [upd_ne e] at h ⊢
    exact h
theorem g_ifJ {K : PySem.W.Frag} {b : Bool} {t1 t2 : TE} {σ : L2.St} {H : Hp} {Q : VK} (C : VK) (h1 : b = true → ∀ Q' : VK, (∀ x H', C x H' → Q' x H') → t1 σ H Q') (h2 : b = false → ∀ Q' : VK, (∀ x H', C x H' → Q' x H') → t2 σ H Q') (k : ∀ x H', C x H' → Q x H') : ∃ kk, TruV K (.bl b) H kk ∧ if kk = true then t1 σ H Q else t2 σ H Q := by
  refine ⟨b, rfl, ?_⟩
  cases b with
  | true => exact iteT (h1 rfl Q k)
  | false => exact iteF (h2 rfl Q k)
theorem res_dq {K : PySem.W.Frag} {G : Hp} {v n t : V} {an at' : PyData} {b1 b2 b3 : Bool} (h : ResV G v (dueG n t b1 b2 b3)) (hn : Dq K G n an) (ht : Dq K G t at') : Dq K G v (resP (dueG an at' b1 b2 b3)) := by
  unfold dueG at h ⊢
  have tup : ∀ {i : Nat} {u : V} {d : PyData}, Dq K G u d → ResV G v (some (i, u)) → Dq K G v (resP (some (i, d))) := fun {i u d} hd h => by
    rcases h with ⟨e, _⟩ | ⟨i', u', p, e, rfl, hp⟩
    · cases e
    · cases e
      exact .tup (SqT.of hp) (.cons (.str _) (.cons hd .nil))
  cases b1 with
  | false => exact tup hn h
  | true =>
    cases b2 with
    | false => exact tup ht h
    | true =>
      cases b3 with
      | false => exact tup hn h
      | true =>
        rcases h with ⟨_, rfl⟩ | ⟨_, _, _, e, _⟩
        · exact .non
        · cases e
theorem od_non : Od1 .none := ⟨rfl, by decide, by rw [sizeLine_eq]; decide +kernel⟩
theorem od_non2 : Od1 (.list [.none, .none]) := ⟨rfl, by decide, by rw [sizeLine_eq]; decide +kernel⟩
theorem res_od {an at' : PyData} {b1 b2 b3 : Bool} (hn : OdN an) (ht : OdN at') : Od1 (resP (dueG an at' b1 b2 b3)) := by
  unfold dueG
  cases b1 with
  | false => exact hn.1
  | true =>
    cases b2 with
    | false => exact ht.1
    | true =>
      cases b3 with
      | false => exact hn.2.1
      | true => exact od_non
/-- the odd values -/
theorem odd_str {K : PySem.W.Frag} {G : Hp} {z : Str} (h : z.length ≤ 1000000) (ho : OdN (.str z)) : ∃ d e, VAt K G (.str z) d ∧ Dq K G (.str z) e ∧ OdN e := ⟨_, _, .str z h, .str z, ho⟩
theorem odd_of {K : PySem.W.Frag} {A : Ad} (AF : AnyF K A) {G : Hp} {p q : Addr} {x : V} (hp : G p = some (.tup [])) (hq : G q = some (.lst []))
    (hx : x ∈ [V.str "a", .str "t", .str "a", .str "zzzzzzzz", .str "aaaaaaaaa", .str "", .str "A", .str "a1", .str "a b", .str "key", .str "limit", .str "order", .str "self", .str "table", .non, .int 3, .ref p, .ref q]) : ∃ d e, VAt K G x d ∧ Dq K G x e ∧ OdN e := by
  have ts : "tuple" ∈ (["tuple", "list", "dict"] : List String) := by decide
  have ls : "list" ∈ (["tuple", "list", "dict"] : List String) := by decide
  simp only [List.mem_cons, List.not_mem_nil, or_false] at hx
  rcases hx with rfl | rfl | rfl | rfl | rfl | rfl | rfl | rfl | rfl | rfl | rfl | rfl | rfl | rfl | rfl | rfl | rfl | rfl
  · exact odd_str (by decide) ⟨⟨by decide +kernel, by decide +kernel, by rw [sizeLine_eq]; decide +kernel⟩, ⟨by decide +kernel, by decide +kernel, by rw [sizeLine_eq]; decide +kernel⟩, ⟨by decide +kernel, by decide +kernel, by rw [sizeLine_eq]; decide +kernel⟩⟩
  · exact odd_str (by decide) ⟨⟨by decide +kernel, by decide +kernel, by rw [sizeLine_eq]; decide +kernel⟩, ⟨by decide +kernel, by decide +kernel, by rw [sizeLine_eq]; decide +kernel⟩, ⟨by decide +kernel, by decide +kernel, by rw [sizeLine_eq]; decide +kernel⟩⟩
  · exact odd_str (by decide) ⟨⟨by decide +kernel, by decide +kernel, by rw [sizeLine_eq]; decide +kernel⟩, ⟨by decide +kernel, by decide +kernel, by rw [sizeLine_eq]; decide +kernel⟩, ⟨by decide +kernel, by decide +kernel, by rw [sizeLine_eq]; decide +kernel⟩⟩
  · exact odd_str (by decide) ⟨⟨by decide +kernel, by decide +kernel, by rw [sizeLine_eq]; decide +kernel⟩, ⟨by decide +kernel, by decide +kernel, by rw [sizeLine_eq]; decide +kernel⟩, ⟨by decide +kernel, by decide +kernel, by rw [sizeLine_eq]; decide +kernel⟩⟩
  · exact odd_str (by decide) ⟨⟨by decide +kernel, by decide +kernel, by rw [sizeLine_eq]; decide +kernel⟩, ⟨by decide +kernel, by decide +kernel, by rw [sizeLine_eq]; decide +kernel⟩, ⟨by decide +kernel, by decide +kernel, by rw [sizeLine_eq]; decide +kernel⟩⟩
  · exact odd_str (by decide) ⟨⟨by decide +kernel, by decide +kernel, by rw [sizeLine_eq]; decide +kernel⟩, ⟨by decide +kernel, by decide +kernel, by rw [sizeLine_eq]; decide +kernel⟩, ⟨by decide +kernel, by decide +kernel, by rw [sizeLine_eq]; decide +kernel⟩⟩
  · exact odd_str (by decide) ⟨⟨by decide +kernel, by decide +kernel, by rw [sizeLine_eq]; decide +kernel⟩, ⟨by decide +kernel, by decide +kernel, by rw [sizeLine_eq]; decide +kernel⟩, ⟨by decide +kernel, by decide +kernel, by rw [sizeLine_eq]; decide +kernel⟩⟩
  · exact odd_str (by decide) ⟨⟨by decide +kernel, by decide +kernel, by rw [sizeLine_eq]; decide +kernel⟩, ⟨by decide +kernel, by decide +kernel, by rw [sizeLine_eq]; decide +kernel⟩, ⟨by decide +kernel, by decide +kernel, by rw [sizeLine_eq]; decide +kernel⟩⟩
  · exact odd_str (by decide) ⟨⟨by decide +kernel, by decide +kernel, by rw [sizeLine_eq]; decide +kernel⟩, ⟨by decide +kernel, by decide +kernel, by rw [sizeLine_eq]; decide +kernel⟩, ⟨by decide +kernel, by decide +kernel, by rw [sizeLine_eq]; decide +kernel⟩⟩
  · exact odd_str (by decide) ⟨⟨by decide +kernel, by decide +kernel, by rw [sizeLine_eq]; decide +kernel⟩, ⟨by decide +kernel, by decide +kernel, by rw [sizeLine_eq]; decide +kernel⟩, ⟨by decide +kernel, by decide +kernel, by rw [sizeLine_eq]; decide +kernel⟩⟩
  · exact odd_str (by decide) ⟨⟨by decide +kernel, by decide +kernel, by rw [sizeLine_eq]; decide +kernel⟩, ⟨by decide +kernel, by decide +kernel, by rw [sizeLine_eq]; decide +kernel⟩, ⟨by decide +kernel, by decide +kernel, by rw [sizeLine_eq]; decide +kernel⟩⟩
  · exact odd_str (by decide) ⟨⟨by decide +kernel, by decide +kernel, by rw [sizeLine_eq]; decide +kernel⟩, ⟨by decide +kernel, by decide +kernel, by rw [sizeLine_eq]; decide +kernel⟩, ⟨by decide +kernel, by decide +kernel, by rw [sizeLine_eq]; decide +kernel⟩⟩
  · exact odd_str (by decide) ⟨⟨by decide +kernel, by decide +kernel, by rw [sizeLine_eq]; decide +kernel⟩, ⟨by decide +kernel, by decide +kernel, by rw [sizeLine_eq]; decide +kernel⟩, ⟨by decide +kernel, by decide +kernel, by rw [sizeLine_eq]; decide +kernel⟩⟩
  · exact odd_str (by decide) ⟨⟨by decide +kernel, by decide +kernel, by rw [sizeLine_eq]; decide +kernel⟩, ⟨by decide +kernel, by decide +kernel, by rw [sizeLine_eq]; decide +kernel⟩, ⟨by decide +kernel, by decide +kernel, by rw [sizeLine_eq]; decide +kernel⟩⟩
  · exact ⟨_, _, .non, .non, ⟨by decide +kernel, by decide +kernel, by rw [sizeLine_eq]; decide +kernel⟩, ⟨by decide +kernel, by decide +kernel, by rw [sizeLine_eq]; decide +kernel⟩, ⟨by decide +kernel, by decide +kernel, by rw [sizeLine_eq]; decide +kernel⟩⟩
  · exact ⟨_, _, .int 3, .int 3, ⟨by decide +kernel, by decide +kernel, by rw [sizeLine_eq]; decide +kernel⟩, ⟨by decide +kernel, by decide +kernel, by rw [sizeLine_eq]; decide +kernel⟩, ⟨by decide +kernel, by decide +kernel, by rw [sizeLine_eq]; decide +kernel⟩⟩
  · exact ⟨_, _, .oth (.base (.tup hp)) (AF.ti _ ts).1 (AF.ti _ ts).2, .tup (SqT.of hp) .nil, ⟨by decide +kernel, by decide +kernel, by rw [sizeLine_eq]; decide +kernel⟩, ⟨by decide +kernel, by decide +kernel, by rw [sizeLine_eq]; decide +kernel⟩, ⟨by decide +kernel, by decide +kernel, by rw [sizeLine_eq]; decide +kernel⟩⟩
  · exact ⟨_, _, .oth (.base (.lst hq)) (AF.ti _ ls).1 (AF.ti _ ls).2, .lst (SqL.of hq) .nil, ⟨by decide +kernel, by decide +kernel, by rw [sizeLine_eq]; decide +kernel⟩, ⟨by decide +kernel, by decide +kernel, by rw [sizeLine_eq]; decide +kernel⟩, ⟨by decide +kernel, by decide +kernel, by rw [sizeLine_eq]; decide +kernel⟩⟩
theorem tried_ok {A : Ad} {G H : Hp} {R : Res} {Q : VK} {tl : XK → Hp → VK → Prop} (e : Option (Nat × V)) (w : Wd G R H) (rest : ∀ v G' H', Same G G' → ResV G' v e → Wd G' R H' → Q v H')
    (body : ∀ H' E' Q', Wd G R H' → (∀ i C d v G' H2, (trCs A)[i]? = some C → e = some (i, v) → Same G G' → G' d = some (.xd [("name", v)]) → Wd G' R H2 → E' (.ref C) (some d) H2) → (∀ v G' H2, e = none → Same G G' → Wd G' R H2 → Q' v H2) → tl E' H' Q') : TTried A tl H Q := by
  refine ⟨G, R, w, fun H' E' Q' w' hE hQ => body H' E' Q' w' (fun i C d v G' H2 hi he s hd w2 => ?_) (fun v G' H2 he s w2 => hQ v H2 (rest _ G' H2 s (.inl ⟨he, rfl⟩) w2))⟩
  exact hE i C d v G' H2 hi hd w2 fun t G3 H3 s3 q3 w3 => rest _ G3 H3 (Same.trans s s3) (.inr ⟨i, v, t, he, rfl, q3⟩) w3
section
variable {P : Program} {wo : World} {A : Ad} {K : PySem.W.Frag} {mg : Str → Option Value} {base : Heap}
def spRefused (K : PySem.W.Frag) (TL : List (Addr × Str)) : Sp := fun vs H Q _ => ∃ G a c, vs = [.ref a] ∧ Wd G (RD a c) H ∧ LamX.Tabs TL G ∧ ∀ G' H', SameN G G' → LamX.Tabs TL G' → Wd G' (RD a c) H' → Q (.bl true) H'
theorem sc__law_refused : FnScope (["_law_state", "_law_odd", "_law_due_here", "_law_found", "_law_others", "_law_empty", "_law_law_rule", "_law_name", "_law_target"] : List Str) (["_law_state"] : List Str) (defScope s__law_refused) := ⟨rfl, rfl, rfl, by decide +kernel, rfl, by decide +kernel, by decide +kernel⟩
theorem ok_refused {f : Addr} {fd : FuncData} {cL PL : Addr} {TL : List (Addr × Str)} (F : Fun K "_law_refused" "_law_refused" s__law_refused f fd) (hcL : fd.code = .ref cL) (TB : LamX.TabB base mg cL PL) (hTL : (PL, (("_law_refused" : Str) ++ ".<locals>.") ++ "<lambda>") ∈ TL) (huL : ∀ p ∈ TL, p.1 = PL → p.2 = (("_law_refused" : Str) ++ ".<locals>.") ++ "<lambda>")
    (T : Txt K mg A) (TY : TyF K) (AF : AnyF K A) (CF : ColF K A) (Gd : GFn P wo K mg base 1 "_law_draw" 2 [] (fun vs _ => spDraw vs)) (Gp : GFn P wo K mg base 2 "_law_pick" 2 [] (fun vs _ => spPick K vs))
    (Gln : GFn P wo K mg base 1 "_law_is_name" 1 [] (fun vs _ => spLN K vs)) (Gldu : GFn P wo K mg base 2 "_law_due" 4 [] (fun vs _ => spLDueC K vs))
    (MR : GMk P wo K mg base 4 "RefColumn" A.RefColumn 2 ["optional", "rule"] (fun vs zs => spRefInit K A (vs ++ zs)))
    (MI : GMk P wo K mg base 4 "IntColumn" A.IntColumn 1 ["optional"] (fun vs zs => spColInit K A (vs ++ zs)))
    (MT0 : GMk P wo K mg base 4 "TextColumn" A.TextColumn 1 [] (fun vs zs => spColInit K A (vs ++ ([.bl false] ++ zs))))
    (Gtr : GLam P wo K mg base "_law_tried" (TTried A)) : FnG P wo K mg base (L2.CX P wo) 9 f fd (["_law_state"] : List Str) (spRefused K TL) := by
  refine okGL F hcL sc__law_refused (fun vs H Q E h => ?_) (fun Ar outer s H vs Q E hr hgd tk po h => ?_)
  · obtain ⟨_, _, _, rfl, _⟩ := h
    rfl
  obtain ⟨G, a, c, rfl, w, hTb, k⟩ := h
  have LA : LamAt (cxOf (L2.CX P wo) P wo K mg base (["_law_state", "_law_odd", "_law_due_here", "_law_found", "_law_others", "_law_empty", "_law_law_rule", "_law_name", "_law_target"] : List Str) "_law_refused" (defScope s__law_refused) f (.ref cL) Ar outer s H E) TL := ⟨cL, PL, TB, rfl, hTL, huL⟩
  refine ⟨_, (pss_cons (ps_set (i := 1) sc__law_refused.nd rfl (by first | exact Or.inl rfl | exact Or.inr rfl) (pe_lst (pa_cons pe_str (pa_cons pe_str (pa_cons pe_str (pa_cons pe_str (pa_cons pe_str (pa_cons pe_str (pa_cons pe_str (pa_cons pe_str (pa_cons pe_str (pa_cons pe_str (pa_cons pe_str (pa_cons pe_str pa_nil))))))))))))))
      (pss_cons (ps_set (i := 1) sc__law_refused.nd rfl (by first | exact Or.inl rfl | exact Or.inr rfl) (pe_op (ka_add K) (pv 1) (pe_lst (pa_cons pe_non (pa_cons pe_int (pa_cons (pe_tup pa_nil) (pa_cons (pe_lst pa_nil) pa_nil)))))))
      (pss_cons (ps_asg (pe_tup (pa_cons (pe_callG Gp (hr.mono (by decide)) tk (pa_cons (pv 0) (pa_cons (pv 1) pa_nil)) pk_nil) (pa_cons (pe_callG Gp (hr.mono (by decide)) tk (pa_cons (pv 0) (pa_cons (pe_op (ka_add K) (pe_lst (pa_cons pe_str (pa_cons pe_str pa_nil))) (pv 1)) pa_nil)) pk_nil) pa_nil))) (kg_tup (n := 2) K rfl (pgs_cons (pg_name (i := 7) sc__law_refused.nd rfl (by first | exact Or.inl rfl | exact Or.inr rfl)) (pgs_cons (pg_name (i := 8) sc__law_refused.nd rfl (by first | exact Or.inl rfl | exact Or.inr rfl)) pgs_nil))))
      (pss_cons (ps_set (i := 5) sc__law_refused.nd rfl (by first | exact Or.inl rfl | exact Or.inr rfl) (pe_cmpR (ka_eq K hr.units) (pe_callG Gd (hr.mono (by decide)) tk (pa_cons (pv 0) (pa_cons pe_int pa_nil)) pk_nil) pe_int (nomark _)))
      (pss_cons (ps_set (i := 6) sc__law_refused.nd rfl (by first | exact Or.inl rfl | exact Or.inr rfl) (pe_callG Gp (hr.mono (by decide)) tk (pa_cons (pv 0) (pa_cons (pe_lst (pa_cons pe_str (pa_cons pe_str (pa_cons pe_str (pa_cons pe_str (pa_cons pe_str (pa_cons pe_non (pa_cons pe_int (pa_cons (pe_tup pa_nil) (pa_cons (pe_lst pa_nil) pa_nil)))))))))) pa_nil)) pk_nil))
      (pss_cons (ps_set (i := 2) sc__law_refused.nd rfl (by first | exact Or.inl rfl | exact Or.inr rfl) (pe_callG Gldu (hr.mono (by decide)) tk (pa_cons (pv 7) (pa_cons (pv 8) (pa_cons (pv 5) (pa_cons (pv 6) pa_nil)))) pk_nil))
      (pss_cons (ps_set (i := 3) sc__law_refused.nd rfl (by first | exact Or.inl rfl | exact Or.inr rfl) (pe_lamR (k := 6) Gtr LA (hr.mono (by decide)) (LamX.lamS_by (sc := defScope s__law_refused) (by decide +kernel)) (fun _ _ _ _ _ _ _ hrl => (pe_makeG MR (hrl.mono (by decide)) (takes_of rfl rfl rfl rfl) (pa_cons (pv 7) (pa_cons (pv 8) pa_nil)) (pk_cons (pv 5) (pk_cons (pv 6) pk_nil))))))
      (pss_cons (ps_if (pt_cmpR (ka_ne K hr.units) (pe_callB (ka_reprQ K hgd (hu120 hr)) (by rfl) T.nb_repr (by decide +kernel) (pa_cons (pv 3) pa_nil)) (pe_callB (ka_reprQ K hgd (hu120 hr)) (by rfl) T.nb_repr (by decide +kernel) (pa_cons (pv 2) pa_nil)) (nomark _)) (pss_one (ps_ret pe_bl)) pss_nil)
      (pss_cons (ps_set (i := 2) sc__law_refused.nd rfl (by first | exact Or.inl rfl | exact Or.inr rfl) (pe_ifExp (kt_truth K (pe_callG Gln (hr.mono (by decide)) tk (pa_cons (pv 7) pa_nil) pk_nil) (by intro _; rfl)) pe_non (pe_tup (pa_cons pe_str (pa_cons (pv 7) pa_nil)))))
      (pss_cons (ps_set (i := 4) sc__law_refused.nd rfl (by first | exact Or.inl rfl | exact Or.inr rfl) (pe_lst (pa_cons (pe_lamR (k := 6) Gtr LA (hr.mono (by decide)) (LamX.lamS_by (sc := defScope s__law_refused) (by decide +kernel)) (fun _ _ _ _ _ _ _ hrl => (pe_makeG MI (hrl.mono (by decide)) (takes_of rfl rfl rfl rfl) (pa_cons (pv 7) pa_nil) (pk_cons (pv 5) pk_nil)))) pa_nil)))
      (pss_cons (ps_expr (pe_bm PySem.F.plainAttrs_list PySem.F.slot_list_append PySem.F.type_list_append mt_append (pv 4) (pa_cons (pe_lamR (k := 6) Gtr LA (hr.mono (by decide)) (LamX.lamS_by (sc := defScope s__law_refused) (by decide +kernel)) (fun _ _ _ _ _ _ _ hrl => (pe_makeG MT0 (hrl.mono (by decide)) (takes_of rfl rfl rfl rfl) (pa_cons (pv 7) pa_nil) pk_nil))) pa_nil)))
      (pss_one (ps_ret (pe_cmpR (ka_eq K hr.units) (pe_callB (ka_reprQ K hgd (hu120 hr)) (by rfl) T.nb_repr (by decide +kernel) (pa_cons (pv 4) pa_nil)) (pe_callB (ka_reprQ K hgd (hu120 hr)) (by rfl) T.nb_repr (by decide +kernel) (pa_cons (pe_lst (pa_cons (pv 2) (pa_cons (pv 2) pa_nil))) pa_nil)) (nomark _))))))))))))))), ?_⟩
  walk_at "go"
  refine g_newA w (by walk_at "sz") fun p1 G1 H1 n1 s1 q1 w => ?_
  walk_at "go"
  refine g_newA w (by walk_at "sz") fun t1 G2 H2 n2 s2 q2 w => ?_
  walk_at "go"
  refine g_newA w (by walk_at "sz") fun l1 G3 H3 n3 s3 q3 w => ?_
  walk_at "go"
  refine g_newA w (by walk_at "sz") fun p4 G4 H4 n4 s4 q4 w => ?_
  walk_at "go"
  refine g_addLA w (s4 _ _ (s3 _ _ (s2 _ _ q1))) q4 (by rw [sizeLine_eq]; exact (show 16 ≤ 16777216 by decide)) fun p5 G5 H5 n5 s5 q5 w => ?_
  have qt := s5 _ _ (s4 _ _ (s3 _ _ q2))
  have ql := s5 _ _ (s4 _ _ q3)
  have S5 : Same G G5 := Same.trans s1 (Same.trans s2 (Same.trans s3 (Same.trans s4 s5)))
  walk_at "go"
  refine ⟨rfl, rfl, G5, a, c, w, .inl ⟨p5, _, rfl, .inl (SqL.of q5), (show 0 < 16 by decide), (show 16 < 1000000 by decide), fun n H6 hn w => ?_⟩⟩
  obtain ⟨dn, an, vn, qn, on⟩ := odd_of AF qt ql (List.mem_cons_of_mem _ (List.mem_cons_of_mem _ hn))
  walk_at "go"
  refine g_newA w (by walk_at "sz") fun p6 G6 H7 n6 s6 q6 w => ?_
  walk_at "go"
  refine g_addLA w q6 (s6 _ _ q5) (by rw [sizeLine_eq]; exact (show 18 ≤ 16777216 by decide)) fun p7 G7 H8 n7 s7 q7 w => ?_
  walk_at "go"
  refine ⟨rfl, rfl, G7, a, c, w, .inl ⟨p7, _, rfl, .inl (SqL.of q7), (show 0 < 18 by decide), (show 18 < 1000000 by decide), fun t H9 ht w => ?_⟩⟩
  have S7 : Same G5 G7 := Same.trans s6 s7
  obtain ⟨dt, tt, vt, qtt, ot⟩ := odd_of AF (S7 _ _ qt) (S7 _ _ ql) ht
  walk_at "go"
  refine g_newA w (by walk_at "sz") fun tp G8 H10 n8 s8 q8 w => ?_
  refine ⟨tp, _, rfl, Evl.ex_t w.sub (SqT.of q8), rfl, ?_⟩
  walk_at "go"
  refine ⟨rfl, rfl, G8, a, c, 2, rfl, w, by decide, by decide, fun rd H11 r0 r1 w => ?_⟩
  walk_at "go"
  refine g_eqS rfl ?_
  generalize decide (V.int rd = V.int 0) = o
  walk_at "go"
  refine g_newA w (by walk_at "sz") fun t2 G9 H12 n9 s9 q9 w => ?_
  walk_at "go"
  refine g_newA w (by walk_at "sz") fun l2 G10 H13 n10 s10 q10 w => ?_
  walk_at "go"
  refine g_newA w (by walk_at "sz") fun p11 G11 H14 n11 s11 q11 w => ?_
  walk_at "go"
  refine ⟨rfl, rfl, G11, a, c, w, .inl ⟨p11, _, rfl, .inl (SqL.of q11), (show 0 < 9 by decide), (show 9 < 1000000 by decide), fun r H15 hr9 w => ?_⟩⟩
  obtain ⟨dr, vr⟩ : ∃ d, VAt K G11 r d := by
    have ts : "tuple" ∈ (["tuple", "list", "dict"] : List String) := by decide
    have ls : "list" ∈ (["tuple", "list", "dict"] : List String) := by decide
    simp only [List.mem_cons, List.not_mem_nil, or_false] at hr9
    rcases hr9 with rfl | rfl | rfl | rfl | rfl | rfl | rfl | rfl | rfl
    · exact ⟨_, .str _ (by decide)⟩
    · exact ⟨_, .str _ (by decide)⟩
    · exact ⟨_, .str _ (by decide)⟩
    · exact ⟨_, .str _ (by decide)⟩
    · exact ⟨_, .str _ (by decide)⟩
    · exact ⟨_, .non⟩
    · exact ⟨_, .int _⟩
    · have := s11 _ _ (s10 _ _ q9)
      exact ⟨_, .oth (.base (.tup this)) (AF.ti _ ts).1 (AF.ti _ ts).2⟩
    · have := s11 _ _ q10
      exact ⟨_, .oth (.base (.lst this)) (AF.ti _ ls).1 (AF.ti _ ls).2⟩
  have S11 : Same G7 G11 := Same.trans s8 (Same.trans s9 (Same.trans s10 s11))
  replace vn := (vn.same S7).same S11
  replace vt := vt.same S11
  replace qn := (qn.mono S7).mono S11
  replace qtt := qtt.mono S11
  walk_at "go"
  refine ⟨rfl, rfl, G11, RD a c, n, t, o, r, dn, dt, dr, rfl, w, vn, vt, vr, fun du G12 H16 s12 hdu w => ?_⟩
  have SG : Same G G12 := Same.trans S5 (Same.trans S7 (Same.trans S11 s12))
  walk_at "go"
  refine g_lam w (hTb.ext SG) (RD.lists w) fun G13 H17 sn T13 w => ?_
  have SN : SameN G11 G13 := (SameN.of s12).trans sn
  replace vn := vn.sameN SN
  replace vt := vt.sameN SN
  replace vr := vr.sameN SN
  replace qn := qn.sameN SN
  replace qtt := qtt.sameN SN
  have hdu2 := hdu.sameN sn
  refine tried_ok (dueC n t dn dt dr o) w (fun fo G14 H18 s14 hfo w => ?_) fun H18 E' Q' w kE kQ => ?_
  rotate_left
  · walk_at "go"
    refine ⟨rfl, rfl, fun x dx hx hdx hne => ?_⟩
    obtain ⟨nx, w3, sm⟩ := new_at A.RefColumn x dx hx hdx hne w
    refine ⟨_, RD a c, x, dx, n, t, o, r, nmV dn, nmV dt, ruV dr o, rfl, w3, upd_same, (vn.nmb TY).same (sm _), (vt.nmb TY).same (sm _), ((vr.rmb TY o).same (sm _)), fun e1 e2 e3 H3 w4 => ⟨rfl, ?_⟩, fun e1 d H3 nd w4 => ?_, fun e1 e2 d H3 nd w4 => ?_, fun e1 e2 e3 d H3 nd w4 => ?_⟩
    · rw [upd_upd] at w4
      exact kQ _ _ _ (by unfold dueC dueG; rw [if_pos e1, if_pos e2, if_pos e3]) (sm _) w4
    · exact kE 0 _ d n _ _ rfl (by unfold dueC dueG; rw [if_neg (by rw [e1]; decide)]) (Same.trans (sm _) (Same.newG nd)) upd_same w4
    · rw [upd_upd] at w4
      exact kE 0 _ d t _ _ rfl (by unfold dueC dueG; rw [if_pos e1, if_neg (by rw [e2]; decide)]) (Same.trans (sm _) (Same.newG (nd_of nd))) upd_same w4
    · rw [upd_upd] at w4
      exact kE 1 _ d n _ _ rfl (by unfold dueC dueG; rw [if_pos e1, if_pos e2, if_neg (by rw [e3]; decide)]) (Same.trans (sm _) (Same.newG (nd_of nd))) upd_same w4
  have hdd := res_dq hfo (qn.mono s14) (qtt.mono s14)
  have hd2 := res_dq (hdu2.same s14) (qn.mono s14) (qtt.mono s14)
  obtain ⟨o1, o2, o3⟩ := res_od (b1 := nmV dn) (b2 := nmV dt) (b3 := ruV dr o) on ot
  walk_at "go"
  refine g_reprS w hdd o1 o2 o3 ?_
  walk_at "go"
  refine g_reprS w hd2 o1 o2 o3 ?_
  refine g_neS rfl ?_
  rw [decide_eq_true (by rfl)]
  walk_at "go"
  replace vn := vn.same s14
  replace qn := qn.mono s14
  refine ⟨rfl, rfl, G14, RD a c, n, dn, rfl, w, vn, fun H19 w => ?_⟩
  refine g_ifJ (fun x H' => ∃ G', Same G14 G' ∧ ResV G' x (dueG n n (nmV dn) true true) ∧ Wd G' (RD a c) H') (fun e1 Q' k' => ?_) (fun e1 Q' k' => ?_) ?_
  · refine k' _ _ ⟨G14, Same.refl _, .inl ⟨?_, rfl⟩, w⟩
    rw [e1]
    rfl
  · walk_at "go"
    refine g_newA w (by walk_at "sz") fun q G15 H20 n15 s15 q15 w => ?_
    refine k' _ _ ⟨G15, s15, .inr ⟨0, n, q, ?_, rfl, q15⟩, w⟩
    rw [e1]
    rfl
  rintro d2 H20 ⟨G15, s15, hd2', w⟩
  replace vn := vn.same s15
  replace qn := qn.mono s15
  walk_at "go"
  refine g_lam w (((T13.ext s14).ext s15)) (RD.lists w) fun G16 H21 sn2 T16 w => ?_
  replace vn := vn.sameN sn2
  replace qn := qn.sameN sn2
  refine tried_ok (dueG n n (nmV dn) true true) w (fun f1 G17 H22 s17 hf1 w => ?_) fun H22 E' Q' w kE kQ => ?_
  rotate_left
  · walk_at "go"
    refine ⟨rfl, rfl, fun x dx hx hdx hne => ?_⟩
    obtain ⟨nx, w3, sm⟩ := new_at A.IntColumn x dx hx hdx hne w
    refine ⟨_, RD a c, x, _, dx, n, o, nmV dn, rfl, w3, upd_same, CF.cls .int, CF.na .int, CF.no .int, (vn.nmb TY).same (sm _), fun e1 H3 w4 => ⟨rfl, ?_⟩, fun e1 d H3 nd w4 => ?_⟩
    · rw [upd_upd] at w4
      exact kQ _ _ _ (by rw [e1]; rfl) (sm _) w4
    · exact kE 0 _ d n _ _ rfl (by rw [e1]; rfl) (Same.trans (sm _) (Same.newG nd)) upd_same w4
  walk_at "go"
  have hd3 := ((hd2'.sameN sn2).same s17)
  replace vn := vn.same s17
  replace qn := qn.mono s17
  refine g_newA w (by walk_at "sz") fun ol G18 H23 n18 s18 q18 w => ?_
  walk_at "go"
  refine g_tyL w q18 ?_
  walk_at "go"
  refine g_lam w ((T16.ext s17).ext s18) (RD.lists w) fun G19 H24 sn3 T19 w => ?_
  have q19 := sn3 _ _ q18 fun _ z => nomatch z
  have vn3 := (vn.same s18).sameN sn3
  refine tried_ok (dueG n n (nmV dn) true true) w (fun f2 G20 H25 s20 hf2 w => ?_) fun H25 E' Q' w kE kQ => ?_
  rotate_left
  · walk_at "go"
    refine ⟨rfl, rfl, fun x dx hx hdx hne => ?_⟩
    obtain ⟨nx, w3, sm⟩ := new_at A.TextColumn x dx hx hdx hne w
    refine ⟨_, RD a c, x, _, dx, n, false, nmV dn, rfl, w3, upd_same, CF.cls .text, CF.na .text, CF.no .text, (vn3.nmb TY).same (sm _), fun e1 H3 w4 => ⟨rfl, ?_⟩, fun e1 d H3 nd w4 => ?_⟩
    · rw [upd_upd] at w4
      exact kQ _ _ _ (by rw [e1]; rfl) (sm _) w4
    · exact kE 0 _ d n _ _ rfl (by rw [e1]; rfl) (Same.trans (sm _) (Same.newG nd)) upd_same w4
  have q20 := s20 _ _ q19
  walk_at "go"
  refine g_app w q20 (by rw [sizeLine_eq]; exact (show 1 < 16777216 by decide)) fun H26 w => ?_
  walk_at "go"
  have nl : G17 ol = none := n18
  have SX : SameN G17 (upd G20 ol (.lst ([f1] ++ [f2]))) := fun b o hb hn => by
    have hne : b ≠ ol := fun z => by rw [z, nl] at hb; cases hb
    rw [upd_ne hne]
    exact s20 _ _ (sn3 _ _ (s18 _ _ hb) hn)
  have r2 : ResV (upd G20 ol (.lst ([f1] ++ [f2]))) f2 (dueG n n (nmV dn) true true) := by
    rcases hf2 with h | ⟨i, u, p, h1, h2, h3⟩
    · exact .inl h
    · refine .inr ⟨i, u, p, h1, h2, ?_⟩
      rw [upd_ne (fun z => by rw [z, q20] at h3; cases h3)]
      exact h3
  have r1 := hf1.sameN SX
  have r3 := hd3.sameN SX
  replace qn := qn.sameN SX
  have qo : upd G20 ol (.lst ([f1] ++ [f2])) ol = some (.lst ([f1] ++ [f2])) := upd_same
  have TX := tabs_updL (o := .lst ([f1] ++ [f2])) (T19.ext s20) q20
  generalize upd G20 ol (.lst ([f1] ++ [f2])) = GX at *
  have x1 := res_dq r1 qn qn
  have x2 := res_dq r2 qn qn
  have x3 := res_dq r3 qn qn
  have ox : Od1 (.list [resP (dueG an an (nmV dn) true true), resP (dueG an an (nmV dn) true true)]) := by
    cases nmV dn with
    | true => exact od_non2
    | false => exact on.2.2
  obtain ⟨u1, u2, u3⟩ := ox
  refine g_reprS w (.lst (SqL.of qo) (.cons x1 (.cons x2 .nil))) u1 u2 u3 ?_
  walk_at "go"
  refine g_newA w (by walk_at "sz") fun zl GZ HZ nz sz qz w => ?_
  walk_at "go"
  refine g_reprS w (.lst (SqL.of qz) (.cons (x3.mono sz) (.cons (x3.mono sz) .nil))) u1 u2 u3 ?_
  refine g_eqS rfl ?_
  rw [decide_eq_true (by rfl)]
  refine k GZ _ ?_ (TX.ext sz) w
  exact (SameN.of SG).trans (sn.trans ((SameN.of s14).trans ((SameN.of s15).trans (sn2.trans ((SameN.of s17).trans (SX.trans (SameN.of sz)))))))
end
end Sv

set_option Elab.async false
set_option linter.all false
set_option maxRecDepth 100000
set_option maxHeartbeats 4000000
namespace Sv
open PySem PySem.Spec PyProof.Rows L2 Sw
local macro_rules | `(tactic| walk_at "go1") => `(tactic| first
  | ((with_reducible refine' g_var ?hv ?_); (case hv => rfl))
  | with_reducible refine g_c ?_
  | with_reducible refine g_op ?_
  | with_reducible refine g_un ?_
  | with_reducible refine g_seq ?_
  | with_reducible refine g_next ?_
  | with_reducible refine g_asg ?_
  | with_reducible refine g_name ?_
  | with_reducible refine g_drop ?_
  | with_reducible refine g_sub ?_
  | with_reducible refine g_ret ?_
  | with_reducible refine g_retN ?_
  | with_reducible refine g_ifS ?_
  | with_reducible refine g_if ?_
  | with_reducible refine g_test ?_
  | with_reducible refine g_bl ?_
  | with_reducible refine g_cons ?_
  | with_reducible refine g_nil ?_
  | with_reducible refine g_and ?_
  | with_reducible refine g_or ?_
  | with_reducible refine g_not ?_
  | with_reducible refine g_callB ?_
  | with_reducible refine g_addI ?_
  | with_reducible refine g_I0 ?_
  | with_reducible refine g_calG ?_
  | with_reducible refine g_mkG ?_
  | with_reducible refine g_tup ?_
  | with_reducible refine g_pairs1 ?_
  | with_reducible refine g_pairs0 ?_
  | with_reducible refine g_dget ?_
  | with_reducible refine g_lvals ?_
  | with_reducible refine g_forT ?_
  | with_reducible refine g_lcT ?_
  | with_reducible refine g_dput ?_
  | with_reducible refine g_lc2L ?_
  | with_reducible refine g_iList ?_
  | with_reducible refine g_lcX ?_
  | with_reducible refine g_js1 ?_
  | with_reducible refine g_js0 ?_
  | with_reducible refine g_fmt ?_
  | with_reducible refine g_tLenSet ?_
  | with_reducible refine g_mkV ?_
  | with_reducible refine g_mkV1 ?_
  | with_reducible refine g_lst ?_
  | with_reducible refine g_forL ?_
  | with_reducible refine g_forR ?_
  | with_reducible refine g_forR2 ?_
  | with_reducible refine g_forS ?_
  | with_reducible refine g_forE ?_
  | with_reducible refine g_lcL ?_
  | with_reducible refine g_lcR ?_
  | with_reducible refine g_lcS ?_
  | with_reducible refine g_lcE ?_
  | with_reducible refine g_orT ?_
  | with_reducible refine g_slc ?_
  | with_reducible refine g_noPart ?_
  | with_reducible refine g_part ?_
  | with_reducible refine g_bm ?_
  | with_reducible refine g_par ?_
  | with_reducible refine g_yes ?_
  | with_reducible refine g_tupG ?_
  | with_reducible refine g_lstG ?_
  | with_reducible refine g_gcons ?_
  | with_reducible refine g_gnil ?_
  | with_reducible refine g_chain ?_
  | with_reducible refine g_truB ?_
  | with_reducible refine g_truN ?_
  | with_reducible refine g_truI ?_
  | with_reducible refine g_m1 ?_
  | with_reducible refine g_fld ?_
  | with_reducible refine g_con ?_
  | with_reducible refine g_tru ?_
  | with_reducible refine g_U ?_
  | with_reducible refine g_xg ?_
  | with_reducible refine g_andT ?_
  | with_reducible refine g_exI ?_
  | with_reducible refine g_dnew ?_
  | with_reducible refine g_intB ?_
  | with_reducible refine g_meth ?_
  | with_reducible refine g_prop ?_
  | with_reducible refine g_exc1 ?_
  | with_reducible refine g_setF ?_
  | with_reducible refine g_star ?_
  | with_reducible refine g_strM ?_
  | with_reducible refine iteT ?_
  | with_reducible refine iteF ?_
  | with_reducible refine iteNT ?_
  | with_reducible refine iteNF ?_)
local macro_rules | `(tactic| walk_at "go") => `(tactic| repeat (walk_at "go1"))
local macro_rules | `(tactic| walk_at "sz") => `(tactic| (first | (rw [sizeLine_eq]; simp only [List.length_cons, List.length_nil, List.length_map, List.length_append, List.length_take]; omega) | (rw [sizeLine_eq]; omega)))
section
variable {P : Program} {wo : World} {A : Ad} {K : PySem.W.Frag} {mg : Str → Option Value} {base : Heap}
/-! ### Column.kind -/
def spKind (A : Ad) : Sp := fun vs H Q _ => ∃ G R x c, vs = [.ref x] ∧ Wd G R H ∧ ColAt A G x c ∧ ∀ H', Wd G R H' → Q (.str (kstr c.k)) H'
theorem sc_Column_kind : FnScope (["self"] : List Str) (["self"] : List Str) (defScope s_Column_kind) := ⟨rfl, rfl, rfl, by decide +kernel, rfl, by decide +kernel, by decide +kernel⟩
theorem ok_kind {f : Addr} {fd : FuncData} (F : Fun K "kind" "Column.kind" s_Column_kind f fd) (CF : ColF K A) : FnOk P wo K mg base (L2.CX P wo) 1 f fd (["self"] : List Str) (spKind A) := by
  refine okT F sc_Column_kind (fun vs H Q E h => ?_) (fun cdv Ar outer s H vs Q E hr tk po h => ?_)
  · obtain ⟨_, _, _, _, rfl, _⟩ := h
    rfl
  obtain ⟨G, R, x, c, rfl, w, ⟨dx, hx⟩, k⟩ := h
  obtain ⟨u, hu⟩ := CF.kd c.k
  refine ⟨_, (pss_one (ps_ret (ke_con K (pv 0) rfl))), ?_⟩
  walk_at "go"
  exact g_gc w hx (CF.cls _) hu c.l_kind (k _ w)
theorem prop_kind {G H : Hp} {R : Res} {a : Addr} {c : Col} {Q : VK} (GK : ∀ k, GPr P wo K mg base 1 (kcls A k) "kind" (fun vs _ => spKind A vs)) (w : Wd G R H) (h : ColAt A G a c) (k : ∀ H', Wd G R H' → Q (.str (kstr c.k)) H') :
    ∃ a' C dx fs sp, V.ref a = .ref a' ∧ H a' = some (.ins C dx fs) ∧ GPr P wo K mg base 1 C "kind" sp ∧ sp [.ref a'] [] H Q E0 := by
  obtain ⟨dx, hx⟩ := h
  exact ⟨a, _, dx, _, _, rfl, w.get hx, GK c.k, G, R, a, c, rfl, w, ⟨dx, hx⟩, k⟩
theorem prop_text {G H : Hp} {R : Res} {a : Addr} {c : Col} {Q : VK} (GT : ∀ k, GPr P wo K mg base 3 (kcls A k) "text" (fun vs _ => spText A vs)) (w : Wd G R H) (h : ColAt A G a c) (ok : c.ok) (k : ∀ H', Wd G R H' → Q (.str c.text) H') :
    ∃ a' C dx fs sp, V.ref a = .ref a' ∧ H a' = some (.ins C dx fs) ∧ GPr P wo K mg base 3 C "text" sp ∧ sp [.ref a'] [] H Q E0 := by
  obtain ⟨dx, hx⟩ := h
  exact ⟨a, _, dx, _, _, rfl, w.get hx, GT c.k, G, R, a, c, rfl, w, ⟨dx, hx⟩, ok, k⟩
end
end Sv


set_option Elab.async false
set_option linter.all false
set_option maxRecDepth 100000
set_option maxHeartbeats 4000000
namespace Sv
open PySem PySem.Spec PyProof.Rows L2 Sw
def weight (ws : List Str) : Nat := (ws.map (·.length)).sum + ws.length
theorem weight_app (a b : List Str) : weight (a ++ b) = weight a + weight b := by
  unfold weight
  rw [List.map_append, List.sum_append, List.length_append]
  omega
theorem weight_take (ws : List Str) (n : Nat) : weight (ws.take n) ≤ weight ws := by
  have := weight_app (ws.take n) (ws.drop n)
  rw [List.take_append_drop] at this
  omega
theorem weight_drop (ws : List Str) (n : Nat) : weight (ws.drop n) ≤ weight ws := by
  have := weight_app (ws.take n) (ws.drop n)
  rw [List.take_append_drop] at this
  omega
theorem cutV_strs (ws : List Str) (lo hi : Option Int) : ∃ us : List Str, cutV (ws.map V.str) lo hi = us.map V.str ∧ weight us ≤ weight ws := by
  refine ⟨(ws.drop (HT.sIx (ws.map V.str).length 0 lo)).take (HT.sIx (ws.map V.str).length (ws.map V.str).length hi - HT.sIx (ws.map V.str).length 0 lo), ?_, Nat.le_trans (weight_take _ _) (weight_drop _ _)⟩
  unfold cutV
  rw [List.map_take, List.map_drop]
theorem join_weight (ws : List Str) : (Txt.join " " ws).length ≤ weight ws := by
  rw [TL.join_eq]
  cases ws with
  | nil => decide
  | cons a l =>
    rw [len_join_cons]
    unfold weight
    have e : (" " : Str).length = 1 := rfl
    rw [e, List.length_cons]
    omega
theorem text_le {c : Col} (h : c.ok) : c.text.length ≤ 1000000 := by
  have h1 := join_weight c.words
  have h2 := Col.text_len h
  unfold weight at h1
  exact Nat.le_trans h1 (by omega)
/-! ### columns as tuples, compared -/
def colD (c : Col) : List PyData := [.str (kstr c.k), .str c.name, (if c.k = .ref then .str c.target else .none), .bool c.opt, (if c.k = .ref then .str c.rule else .none)]
theorem col_dp {K : PySem.W.Frag} {H : Hp} (c : Col) : DpAll K H (colTup c) (colD c) := by
  obtain ⟨k, n, o, t, r⟩ := c
  cases k with
  | int => exact .cons (.str _) (.cons (.str _) (.cons .non (.cons (.bl _) (.cons .non .nil))))
  | text => exact .cons (.str _) (.cons (.str _) (.cons .non (.cons (.bl _) (.cons .non .nil))))
  | ref => exact .cons (.str _) (.cons (.str _) (.cons (.str _) (.cons (.bl _) (.cons (.str _) .nil))))
theorem col_eqv0 {c d : Col} (h : c.nrm) (h' : d.nrm) : PyData.eqv (.tuple (colD c)) (.tuple (colD d)) = true ↔ c = d := by
  obtain ⟨k, n, o, t, r⟩ := c
  obtain ⟨k', n', o', t', r'⟩ := d
  have z : ∀ j : Kd, Col.nrm ⟨j, n, o, t, r⟩ → j ≠ .ref → t = "" ∧ r = "" := fun j h hj => h hj
  have z' : ∀ j : Kd, Col.nrm ⟨j, n', o', t', r'⟩ → j ≠ .ref → t' = "" ∧ r' = "" := fun j h hj => h hj
  have ii : (kstr Kd.int == kstr Kd.text) = false := by decide +kernel
  have ir : (kstr Kd.int == kstr Kd.ref) = false := by decide +kernel
  have ti : (kstr Kd.text == kstr Kd.int) = false := by decide +kernel
  have tr : (kstr Kd.text == kstr Kd.ref) = false := by decide +kernel
  have ri : (kstr Kd.ref == kstr Kd.int) = false := by decide +kernel
  have rt : (kstr Kd.ref == kstr Kd.text) = false := by decide +kernel
  cases k <;> cases k'
  · obtain ⟨rfl, rfl⟩ := z _ h (by decide)
    obtain ⟨rfl, rfl⟩ := z' _ h' (by decide)
    simp [colD, PyData.eqv, PyData.eqvAll]
  · simp [colD, PyData.eqv, PyData.eqvAll, ii]
  · simp [colD, PyData.eqv, PyData.eqvAll, ir]
  · simp [colD, PyData.eqv, PyData.eqvAll, ti]
  · obtain ⟨rfl, rfl⟩ := z _ h (by decide)
    obtain ⟨rfl, rfl⟩ := z' _ h' (by decide)
    simp [colD, PyData.eqv, PyData.eqvAll]
  · simp [colD, PyData.eqv, PyData.eqvAll, tr]
  · simp [colD, PyData.eqv, PyData.eqvAll, ri]
  · simp [colD, PyData.eqv, PyData.eqvAll, rt]
  · simp [colD, PyData.eqv, PyData.eqvAll]
    intro _
    constructor <;> (rintro ⟨h1, h2, h3⟩; exact ⟨h2, h1, h3⟩)
theorem col_eqv {c d : Col} (h : c.ok) (n : c.nrm) (h' : d.ok) (n' : d.nrm) : PyData.eqv (.tuple (colD c)) (.tuple (colD d)) = decide (c.text = d.text) := by
  apply Bool.eq_iff_iff.mpr
  rw [col_eqv0 n n', decide_eq_true_eq, text_col h n h' n']
theorem low_ok {s : Str} (h : lowS s = true) : PyData.strOk s = true := by
  unfold PyData.strOk
  rw [Array.all_eq_true']
  intro x hx
  unfold lowS at h
  have := List.all_eq_true.mp h x (by simpa using hx)
  rw [decide_eq_true_eq] at this
  have hl : ∀ c ∈ letters.cps.toList, c < 0x110000 := by decide +kernel
  exact decide_eq_true (hl x this)
theorem lay_nm {n : Str} (h : isNm n = true) : (PyData.str n).canLay0 = true := low_ok (isNm_low h)
theorem lay_col {c : Col} (h : c.ok) : (PyData.tuple (colD c)).canLay0 = true ∧ (PyData.tuple (colD c)).depth ≤ 1 := by
  have e : (PyData.tuple (colD c)).canLay0 = ((PyData.str (kstr c.k)).canLay0 && ((PyData.str c.name).canLay0 && ((if c.k = .ref then PyData.str c.target else .none).canLay0 && (true && ((if c.k = .ref then PyData.str c.rule else .none).canLay0 && true))))) := rfl
  have d : (PyData.tuple (colD c)).depth = max 0 (max 0 (max ((if c.k = .ref then PyData.str c.target else .none).depth) (max 0 (max ((if c.k = .ref then PyData.str c.rule else .none).depth) 0)))) + 1 := rfl
  have hk : (PyData.str (kstr c.k)).canLay0 = true := by cases c.k <;> decide +kernel
  rw [e, d, hk, lay_nm h.1]
  by_cases r : c.k = .ref
  · rw [if_pos r, if_pos r]
    obtain ⟨h2, h3⟩ := h.2 r
    have hr : (PyData.str c.rule).canLay0 = true := by rcases ruleOk_mem h3 with q | q | q <;> rw [q] <;> decide +kernel
    rw [lay_nm h2, hr]
    exact ⟨rfl, Nat.le_refl _⟩
  · rw [if_neg r, if_neg r]
    exact ⟨rfl, Nat.le_refl _⟩
theorem col_shaped {c : Col} (h : c.ok) : SeqAt.shaped (.tuple (colD c)) = true := by
  obtain ⟨h1, h2⟩ := lay_col h
  show ((PyData.tuple (colD c)).canLay0 && decide ((PyData.tuple (colD c)).depth ≤ 64)) = true
  rw [h1, decide_eq_true (show (PyData.tuple (colD c)).depth ≤ 64 by omega)]
  rfl
theorem sh_three {c : Col} (h : c.ok) : SeqAt.shaped (.tuple [.str c.name, .str (kstr c.k), .bool c.opt]) = true := by
  have hk : PyData.strOk (kstr c.k) = true := by cases c.k <;> decide +kernel
  show ((PyData.strOk c.name && (PyData.strOk (kstr c.k) && (true && true))) && decide (PyData.depth (.tuple [.str c.name, .str (kstr c.k), .bool c.opt]) ≤ 64)) = true
  rw [low_ok (isNm_low h.1), hk]
  rfl
theorem sh_two {c : Col} (h : c.ok) (r : c.k = .ref) : SeqAt.shaped (.tuple [.str c.target, .str c.rule]) = true := by
  obtain ⟨h2, h3⟩ := h.2 r
  have hr : PyData.strOk c.rule = true := by rcases ruleOk_mem h3 with q | q | q <;> rw [q] <;> decide +kernel
  show ((PyData.strOk c.target && (PyData.strOk c.rule && true)) && decide (PyData.depth (.tuple [.str c.target, .str c.rule]) ≤ 64)) = true
  rw [low_ok (isNm_low h2), hr]
  rfl
end Sv

set_option Elab.async false
set_option linter.all false
set_option maxRecDepth 100000
set_option maxHeartbeats 4000000
namespace Sv
open PySem PySem.Spec PyProof.Rows L2 Sw
local macro_rules | `(tactic| walk_at "go1") => `(tactic| first
  | ((with_reducible refine' g_var ?hv ?_); (case hv => rfl))
  | with_reducible refine g_c ?_
  | with_reducible refine g_op ?_
  | with_reducible refine g_un ?_
  | with_reducible refine g_seq ?_
  | with_reducible refine g_next ?_
  | with_reducible refine g_asg ?_
  | with_reducible refine g_name ?_
  | with_reducible refine g_drop ?_
  | with_reducible refine g_sub ?_
  | with_reducible refine g_ret ?_
  | with_reducible refine g_retN ?_
  | with_reducible refine g_ifS ?_
  | with_reducible refine g_if ?_
  | with_reducible refine g_test ?_
  | with_reducible refine g_bl ?_
  | with_reducible refine g_cons ?_
  | with_reducible refine g_nil ?_
  | with_reducible refine g_and ?_
  | with_reducible refine g_or ?_
  | with_reducible refine g_not ?_
  | with_reducible refine g_callB ?_
  | with_reducible refine g_addI ?_
  | with_reducible refine g_I0 ?_
  | with_reducible refine g_calG ?_
  | with_reducible refine g_mkG ?_
  | with_reducible refine g_tup ?_
  | with_reducible refine g_pairs1 ?_
  | with_reducible refine g_pairs0 ?_
  | with_reducible refine g_dget ?_
  | with_reducible refine g_lvals ?_
  | with_reducible refine g_forT ?_
  | with_reducible refine g_lcT ?_
  | with_reducible refine g_dput ?_
  | with_reducible refine g_lc2L ?_
  | with_reducible refine g_iList ?_
  | with_reducible refine g_lcX ?_
  | with_reducible refine g_js1 ?_
  | with_reducible refine g_js0 ?_
  | with_reducible refine g_fmt ?_
  | with_reducible refine g_tLenSet ?_
  | with_reducible refine g_mkV ?_
  | with_reducible refine g_mkV1 ?_
  | with_reducible refine g_lst ?_
  | with_reducible refine g_forL ?_
  | with_reducible refine g_forR ?_
  | with_reducible refine g_forR2 ?_
  | with_reducible refine g_forS ?_
  | with_reducible refine g_forE ?_
  | with_reducible refine g_lcL ?_
  | with_reducible refine g_lcR ?_
  | with_reducible refine g_lcS ?_
  | with_reducible refine g_lcE ?_
  | with_reducible refine g_orT ?_
  | with_reducible refine g_slc ?_
  | with_reducible refine g_noPart ?_
  | with_reducible refine g_part ?_
  | with_reducible refine g_bm ?_
  | with_reducible refine g_par ?_
  | with_reducible refine g_yes ?_
  | with_reducible refine g_tupG ?_
  | with_reducible refine g_lstG ?_
  | with_reducible refine g_gcons ?_
  | with_reducible refine g_gnil ?_
  | with_reducible refine g_chain ?_
  | with_reducible refine g_truB ?_
  | with_reducible refine g_truN ?_
  | with_reducible refine g_truI ?_
  | with_reducible refine g_m1 ?_
  | with_reducible refine g_fld ?_
  | with_reducible refine g_con ?_
  | with_reducible refine g_tru ?_
  | with_reducible refine g_U ?_
  | with_reducible refine g_xg ?_
  | with_reducible refine g_andT ?_
  | with_reducible refine g_exI ?_
  | with_reducible refine g_dnew ?_
  | with_reducible refine g_intB ?_
  | with_reducible refine g_meth ?_
  | with_reducible refine g_prop ?_
  | with_reducible refine g_exc1 ?_
  | with_reducible refine g_setF ?_
  | with_reducible refine g_star ?_
  | with_reducible refine g_strM ?_
  | with_reducible refine iteT ?_
  | with_reducible refine iteF ?_
  | with_reducible refine iteNT ?_
  | with_reducible refine iteNF ?_)
local macro_rules | `(tactic| walk_at "go") => `(tactic| repeat (walk_at "go1"))
local macro_rules | `(tactic| walk_at "sz") => `(tactic| (first | (rw [sizeLine_eq]; simp only [List.length_cons, List.length_nil, List.length_map, List.length_append, List.length_take]; omega) | (rw [sizeLine_eq]; omega)))
/-- a comprehension over a range whose items are all left out -/
theorem lc_none {J : It} {n : Nat} {I : Hp → Prop} {Y : Nat → V → Hp → Hp → Prop} (F : Itf J n I Y) {G H1 : Hp} {R : Res} {g : TG} {tt : TT} {te : TE} {vs : List Nat} {σ : L2.St} {Q : VK} (w : Wd G R H1) (hI : ∀ H, I H)
    (Pv : Hp → Prop) (h0 : ∀ D, G D = none → Pv (upd G D (.lst [])))
    (hs : ∀ i x Gi D H H', i < n → Pv Gi → Gi D = some (.lst []) → Wd Gi R H → Y i x H H' → g x (wipe σ vs) H' fun σ2 H2 => wipe σ2 vs = wipe σ vs ∧ tt σ2 H2 fun b H3 =>
      if b = true then te σ2 H3 fun y H4 => ∃ acc', H4 D = some (.lst acc') ∧ acc'.length < sizeLine ∧ ((fun H5 => ∃ G4, Pv G4 ∧ G4 D = some (.lst []) ∧ Wd G4 R H5) (upd H4 D (.lst (acc' ++ [y]))))
      else (fun H5 => ∃ G4, Pv G4 ∧ G4 D = some (.lst []) ∧ Wd G4 R H5) H3)
    (hd : ∀ D Gn H, Pv Gn → Gn D = some (.lst []) → Wd Gn R H → Q (.ref D) H) : LcW J g tt te vs σ Q H1 := by
  intro D hD
  refine ⟨fun i m H => m = n - i ∧ i ≤ n ∧ ∃ Gi, Pv Gi ∧ Gi D = some (.lst []) ∧ Wd Gi R H, ⟨n, by simp, Nat.zero_le _, _, h0 D (w.free hD), upd_same, w.new hD⟩, ?_⟩
  rintro i m H ⟨rfl, hi, Gi, p, hD2, wi⟩
  have q := hI H
  by_cases hlt : i < n
  · refine .inr ⟨F.go i H hlt q, fun H5 => ∃ G4, Pv G4 ∧ G4 D = some (.lst []) ∧ Wd G4 R H5, fun H' p' => ⟨n - (i + 1), by omega, rfl, by omega, p'⟩, fun x H' y => ?_⟩
    exact hs i x Gi D H H' hlt p hD2 wi (F.yld i H x H' hlt q y)
  · have ei : i = n := by omega
    subst ei
    exact .inl ⟨F.stop H q, hd D Gi H p hD2 wi⟩
def CTs (K : PySem.W.Frag) (G : Hp) (cs : List Col) (as : List Addr) : Prop := Paired (fun c a => SqT K G a (colTup c)) cs as
theorem CTs.same {K : PySem.W.Frag} {G G' : Hp} {cs : List Col} {as : List Addr} (h : CTs K G cs as) (e : Same G G') : CTs K G' cs as := Sw.Paired.imp (fun _ _ x => Evl.ex_t e x) h
def defD (c : Col) : PyData := if c.opt = true then .none else match c.k with
  | .text => .str ""
  | _ => .int 0
theorem defD_dq {K : PySem.W.Frag} {G : Hp} (c : Col) : Dq K G (defV c) (defD c) := by
  unfold defV defD
  split
  · exact .non
  · cases c.k
    · exact .int 0
    · exact .str _
    · exact .int 0
theorem defD_od (c : Col) : Od1 (defD c) := by
  unfold defD
  split
  · exact od_non
  · cases c.k
    · exact ⟨by decide +kernel, by decide +kernel, by rw [sizeLine_eq]; decide +kernel⟩
    · exact ⟨by decide +kernel, by decide +kernel, by rw [sizeLine_eq]; decide +kernel⟩
    · exact ⟨by decide +kernel, by decide +kernel, by rw [sizeLine_eq]; decide +kernel⟩
theorem od_bool (b : Bool) : Od1 (.bool b) := by
  cases b
  · exact ⟨by decide +kernel, by decide +kernel, by rw [sizeLine_eq]; decide +kernel⟩
  · exact ⟨by decide +kernel, by decide +kernel, by rw [sizeLine_eq]; decide +kernel⟩
theorem eqVs_reflB : ∀ l : List Bool, eqVs (l.map V.bl) (l.map V.bl) = true
  | [] => rfl
  | b :: l => by
    have ih := eqVs_reflB l
    cases b <;> simp_all [eqVs, eqV]
section
variable {P : Program} {wo : World} {A : Ad} {K : PySem.W.Frag} {mg : Str → Option Value} {base : Heap}
def spLaw (K : PySem.W.Frag) (TL : List (Addr × Str)) : Sp := fun vs H Q _ => ∃ (s : Addr) (ns : List Int), vs = [.ref s] ∧ SqL K H s (ns.map V.int) ∧ LamX.Tabs TL H ∧ ∀ H', Q (.bl true) H'
theorem sc_law : FnScope (["_law_script", "_law_state", "_law_names_here", "_law_columns", "_law_column_here", "_law_made_here", "_law_due_here", "_law_read", "_law_kinds", "_law_turn", "_law_value_here", "_law_k", "_law_other", "_law_word"] : List Str) (["_law_script"] : List Str) (defScope s_law) := ⟨rfl, rfl, rfl, by decide +kernel, rfl, by decide +kernel, by decide +kernel⟩
theorem ok_law {f : Addr} {fd : FuncData} {TL : List (Addr × Str)} (F : Fun K "law" "law" s_law f fd)
    (T : Txt K mg A) (TY : TyF K) (AF : AnyF K A) (CF : ColF K A) (CG : ColG K A) (KI : ∃ mc kt u, ClX.CRead K A.Column mc ∧ ClX.CVal K A.Column mc "KINDS" (.ref kt) u ∧ ∀ H, SqT K H kt [.str "int", .str "text", .str "ref"]) (Gb : GFn P wo K mg base 1 "_law_begun" 1 [] (fun vs _ => spBegun K vs)) (Gd : GFn P wo K mg base 1 "_law_draw" 2 [] (fun vs _ => spDraw vs)) (Gp : GFn P wo K mg base 2 "_law_pick" 2 [] (fun vs _ => spPick K vs))
    (Gns : GFn P wo K mg base 3 "_law_names" 2 [] (fun vs _ => spNames vs)) (Glc : GFn P wo K mg base 3 "_law_column" 3 [] (fun vs _ => spColumn K vs)) (Glct : GFn P wo K mg base 1 "_law_column_text" 1 [] (fun vs _ => spColText K vs))
    (Glm : GFn P wo K mg base 6 "_law_made" 1 [] (fun vs _ => spMade K A vs)) (Gla : GFn P wo K mg base 1 "_law_accepts" 2 [] (fun vs _ => spLAcc K vs)) (Glv : GFn P wo K mg base 3 "_law_value" 1 [] (fun vs _ => spLVal K vs))
    (Gpar : GSt P wo K mg base 7 "Column" "parse" 1 [] (fun vs _ => spParse K A vs)) (GT : ∀ k, GPr P wo K mg base 3 (kcls A k) "text" (fun vs _ => spText A vs)) (GK : ∀ k, GPr P wo K mg base 1 (kcls A k) "kind" (fun vs _ => spKind A vs)) (GD : ∀ k, GPr P wo K mg base 1 (kcls A k) "default" (fun vs _ => spDefault A vs))
    (GA : ∀ k, GMt P wo K mg base 3 (kcls A k) "accepts" 1 [] (fun vs _ => spAcc K A k vs)) (GE : ∀ k, GMt P wo K mg base 5 (kcls A k) "__eq__" 1 [] (fun vs _ => spCEq K A vs))
    (Glrf : GFg P wo K mg base 9 "_law_refused" 1 [] (fun vs _ => spRefused K TL vs)) : FnG P wo K mg base (L2.CX P wo) 12 f fd (["_law_script"] : List Str) (spLaw K TL) := by
  refine okG F sc_law (fun vs H Q E h => ?_) (fun cdv Ar outer s H vs Q E hr hgd tk po h => ?_)
  · obtain ⟨_, _, rfl, _⟩ := h
    rfl
  obtain ⟨l, ns, rfl, hl, hTb, k⟩ := h
  refine ⟨_, (pss_cons (ps_set (i := 1) sc_law.nd rfl (by first | exact Or.inl rfl | exact Or.inr rfl) (pe_callG Gb (hr.mono (by decide)) tk (pa_cons (pv 0) pa_nil) pk_nil))
      (pss_cons (ps_if (pt_cmpR (ka_ne K hr.units) (ke_cval K (pe_globE (by rfl) T.g_Column)) (pe_tup (pa_cons pe_str (pa_cons pe_str (pa_cons pe_str pa_nil)))) (nomark _)) (pss_one (ps_ret pe_bl)) pss_nil)
      (pss_cons (ps_set (i := 2) sc_law.nd rfl (by first | exact Or.inl rfl | exact Or.inr rfl) (pe_callG Gns (hr.mono (by decide)) tk (pa_cons (pv 1) (pa_cons pe_int pa_nil)) pk_nil))
      (pss_cons (ps_setLc (i := 3) (own := [("_law_k", 11)]) (g := (gName 11)) (tt := tYes) rfl sc_law.nd rfl rfl (sw_true rfl rfl rfl (by decide +kernel)) (pi_range1 (by rfl) T.nb_range (pa_cons pe_int pa_nil)) (blkOk_by (N := (["_law_script", "_law_state", "_law_names_here", "_law_columns", "_law_column_here", "_law_made_here", "_law_due_here", "_law_read", "_law_kinds", "_law_turn", "_law_value_here", "_law_k", "_law_other", "_law_word"] : List Str)) (sc := defScope s_law) (by decide +kernel)) (fun _ _ _ _ _ => (pg_name (i := 11) sc_law.nd rfl (by first | exact Or.inl rfl | exact Or.inr rfl))) (fun _ _ _ _ _ => pts_nil) (fun _ _ _ _ _ => (pe_callG Glc (hr.mono (by decide)) takes0 (pa_cons (pv 1) (pa_cons (pv 2) (pa_cons (pe_callG Gp (hr.mono (by decide)) takes0 (pa_cons (pv 1) (pa_cons (pv 2) pa_nil)) pk_nil) pa_nil))) pk_nil)))
      (pss_cons (ps_for po rfl (ki_list K (pv 3)) (pg_name (i := 4) sc_law.nd rfl (by first | exact Or.inl rfl | exact Or.inr rfl)) (pss_cons (ps_set (i := 5) sc_law.nd rfl (by first | exact Or.inl rfl | exact Or.inr rfl) (pe_callG Glm (hr.mono (by decide)) tk (pa_cons (pv 4) pa_nil) pk_nil))
      (pss_cons (ps_set (i := 6) sc_law.nd rfl (by first | exact Or.inl rfl | exact Or.inr rfl) (pe_ifExp (kt_truth K (pe_ix (ka_ix K) (pv 4) pe_int (fun _ _ => rfl)) (by intro _; rfl)) pe_non (pe_ifExp (pt_cmpR (ka_eq K hr.units) (pe_ix (ka_ix K) (pv 4) pe_int (fun _ _ => rfl)) pe_str (nomark _)) pe_str pe_int)))
      (pss_cons (ps_if (pt_cmpR (ka_ne K hr.units) (pe_tup (pa_cons (ke_fld K (pv 5) rfl) (pa_cons (kp_prop (k := 1) P wo K mg base (pv 5) (hr.mono (by decide))) (pa_cons (ke_fld K (pv 5) rfl) pa_nil)))) (pe_tup (pa_cons (pe_ix (ka_ix K) (pv 4) pe_int (fun _ _ => rfl)) (pa_cons (pe_ix (ka_ix K) (pv 4) pe_int (fun _ _ => rfl)) (pa_cons (pe_ix (ka_ix K) (pv 4) pe_int (fun _ _ => rfl)) pa_nil)))) (nomark _)) (pss_one (ps_ret pe_bl)) pss_nil)
      (pss_cons (ps_if (PW.pt (pw_or (pt_cmpR (ka_ne K hr.units) (kp_prop (k := 3) P wo K mg base (pv 5) (hr.mono (by decide))) (pe_callG Glct (hr.mono (by decide)) tk (pa_cons (pv 4) pa_nil) pk_nil) (nomark _)) (pw_or1 (pt_not (kt_truth K (pe_callB (ka_isi K) (by rfl) T.nb_isinstance (by decide +kernel) (pa_cons (pv 5) (pa_cons (pe_globE (by rfl) T.g_Column) pa_nil))) (by intro _; rfl)))))) (pss_one (ps_ret pe_bl)) pss_nil)
      (pss_cons (ps_set (i := 7) sc_law.nd rfl (by first | exact Or.inl rfl | exact Or.inr rfl) (pe_static Gpar (hr.mono (by decide)) tk (pa_cons (kp_prop (k := 3) P wo K mg base (pv 5) (hr.mono (by decide))) pa_nil) pk_nil))
      (pss_cons (ps_set (i := 8) sc_law.nd rfl (by first | exact Or.inl rfl | exact Or.inr rfl) (pe_lst (pa_cons (pe_callB (ka_isi K) (by rfl) T.nb_isinstance (by decide +kernel) (pa_cons (pv 7) (pa_cons (pe_globE (by rfl) T.g_IntColumn) pa_nil))) (pa_cons (pe_callB (ka_isi K) (by rfl) T.nb_isinstance (by decide +kernel) (pa_cons (pv 7) (pa_cons (pe_globE (by rfl) T.g_TextColumn) pa_nil))) (pa_cons (pe_callB (ka_isi K) (by rfl) T.nb_isinstance (by decide +kernel) (pa_cons (pv 7) (pa_cons (pe_globE (by rfl) T.g_RefColumn) pa_nil))) pa_nil)))))
      (pss_cons (ps_if (PW.pt (pw_or (pt_cmpR (ka_ne K hr.units) (pv 8) (pe_lc (own := [("_law_word", 13)]) (g := (gName 13)) (tt := tYes) rfl sc_law.nd (ki_list K (pe_lst (pa_cons pe_str (pa_cons pe_str (pa_cons pe_str pa_nil))))) (blkOk_by (N := (["_law_script", "_law_state", "_law_names_here", "_law_columns", "_law_column_here", "_law_made_here", "_law_due_here", "_law_read", "_law_kinds", "_law_turn", "_law_value_here", "_law_k", "_law_other", "_law_word"] : List Str)) (sc := defScope s_law) (by decide +kernel)) (fun _ _ _ _ _ => (pg_name (i := 13) sc_law.nd rfl (by first | exact Or.inl rfl | exact Or.inr rfl))) (fun _ _ _ _ _ => pts_nil) (fun _ _ _ _ _ => (pe_cmpR (ka_eq K hr.units) (pe_ix (ka_ix K) (pv 4) pe_int (fun _ _ => rfl)) (pv 13) (nomark _)))) (nomark _)) (pw_or1 (pt_not (kt_truth K (pe_callB (ka_isi K) (by rfl) T.nb_isinstance (by decide +kernel) (pa_cons (pv 7) (pa_cons (pe_globE (by rfl) T.g_Column) pa_nil))) (by intro _; rfl)))))) (pss_one (ps_ret pe_bl)) pss_nil)
      (pss_cons (ps_if (pt_cmpR (ka_ne K hr.units) (pe_callB (ka_reprQ K hgd (hu120 hr)) (by rfl) T.nb_repr (by decide +kernel) (pa_cons (kp_prop (k := 1) P wo K mg base (pv 5) (hr.mono (by decide))) pa_nil)) (pe_callB (ka_reprQ K hgd (hu120 hr)) (by rfl) T.nb_repr (by decide +kernel) (pa_cons (pv 6) pa_nil)) (nomark _)) (pss_one (ps_ret pe_bl)) pss_nil)
      (pss_cons (ps_if (PW.pt (pw_and (pt_cmpR (ka_eq K hr.units) (pe_ix (ka_ix K) (pv 4) pe_int (fun _ _ => rfl)) pe_str (nomark _)) (pw_and1 (pt_cmpR (ka_ne K hr.units) (pe_tup (pa_cons (ke_fld K (pv 5) rfl) (pa_cons (ke_fld K (pv 5) rfl) pa_nil))) (pe_tup (pa_cons (pe_ix (ka_ix K) (pv 4) pe_int (fun _ _ => rfl)) (pa_cons (pe_ix (ka_ix K) (pv 4) pe_int (fun _ _ => rfl)) pa_nil))) (nomark _))))) (pss_one (ps_ret pe_bl)) pss_nil)
      (pss_cons (ps_for po rfl (pi_range1 (by rfl) T.nb_range (pa_cons pe_int pa_nil)) (pg_name (i := 9) sc_law.nd rfl (by first | exact Or.inl rfl | exact Or.inr rfl)) (pss_cons (ps_set (i := 10) sc_law.nd rfl (by first | exact Or.inl rfl | exact Or.inr rfl) (pe_callG Glv (hr.mono (by decide)) tk (pa_cons (pv 1) pa_nil) pk_nil))
      (pss_one (ps_if (pt_cmpR (ka_ne K hr.units) (pe_callB (ka_reprQ K hgd (hu120 hr)) (by rfl) T.nb_repr (by decide +kernel) (pa_cons (kp_meth (k := 3) (n := 1) P wo K mg base (pv 5) (hr.mono (by decide)) tk (pa_cons (pv 10) pa_nil) pk_nil) pa_nil)) (pe_callB (ka_reprQ K hgd (hu120 hr)) (by rfl) T.nb_repr (by decide +kernel) (pa_cons (pe_callG Gla (hr.mono (by decide)) tk (pa_cons (pv 4) (pa_cons (pv 10) pa_nil)) pk_nil) pa_nil)) (nomark _)) (pss_one (ps_ret pe_bl)) pss_nil))))
      (pss_cons (ps_if (pt_cmpR (ka_ne K hr.units) (pe_lc (own := [("_law_other", 12)]) (g := (gName 12)) (tt := tYes) rfl sc_law.nd (ki_list K (pv 3)) (blkOk_by (N := (["_law_script", "_law_state", "_law_names_here", "_law_columns", "_law_column_here", "_law_made_here", "_law_due_here", "_law_read", "_law_kinds", "_law_turn", "_law_value_here", "_law_k", "_law_other", "_law_word"] : List Str)) (sc := defScope s_law) (by decide +kernel)) (fun _ _ _ _ _ => (pg_name (i := 12) sc_law.nd rfl (by first | exact Or.inl rfl | exact Or.inr rfl))) (fun _ _ _ _ _ => pts_nil) (fun _ _ _ _ _ => (pe_cmpR (ko_eq (k := 5) P wo K mg base (hr.mono (by decide))) (pv 5) (pe_callG Glm (hr.mono (by decide)) takes0 (pa_cons (pv 12) pa_nil) pk_nil) (nomark _)))) (pe_lc (own := [("_law_other", 12)]) (g := (gName 12)) (tt := tYes) rfl sc_law.nd (ki_list K (pv 3)) (blkOk_by (N := (["_law_script", "_law_state", "_law_names_here", "_law_columns", "_law_column_here", "_law_made_here", "_law_due_here", "_law_read", "_law_kinds", "_law_turn", "_law_value_here", "_law_k", "_law_other", "_law_word"] : List Str)) (sc := defScope s_law) (by decide +kernel)) (fun _ _ _ _ _ => (pg_name (i := 12) sc_law.nd rfl (by first | exact Or.inl rfl | exact Or.inr rfl))) (fun _ _ _ _ _ => pts_nil) (fun _ _ _ _ _ => (pe_cmpR (ka_eq K hr.units) (pv 4) (pv 12) (nomark _)))) (nomark _)) (pss_one (ps_ret pe_bl)) pss_nil)
      (pss_one (ps_if (PW.pt (pw_or (pt_not (pt_cmpR (ko_eq (k := 5) P wo K mg base (hr.mono (by decide))) (pe_static Gpar (hr.mono (by decide)) tk (pa_cons (kp_prop (k := 3) P wo K mg base (pv 5) (hr.mono (by decide))) pa_nil) pk_nil) (pv 5) (nomark _))) (pw_or (pt_cmpR (ko_eq (k := 5) P wo K mg base (hr.mono (by decide))) (pv 5) (kp_prop (k := 3) P wo K mg base (pv 5) (hr.mono (by decide))) (nomark _)) (pw_or1 (pt_cmpR (ko_eq (k := 5) P wo K mg base (hr.mono (by decide))) (pv 5) (pe_callG Glv (hr.mono (by decide)) tk (pa_cons (pv 1) pa_nil) pk_nil) (nomark _)))))) (pss_one (ps_ret pe_bl)) pss_nil))))))))))))))
      (pss_one (ps_ret (pe_cmpR (ka_eq K hr.units) (pe_lc (own := [("_law_turn", 9)]) (g := (gName 9)) (tt := _) rfl sc_law.nd (pi_range1 (by rfl) T.nb_range (pa_cons pe_int pa_nil)) (blkOk_by (N := (["_law_script", "_law_state", "_law_names_here", "_law_columns", "_law_column_here", "_law_made_here", "_law_due_here", "_law_read", "_law_kinds", "_law_turn", "_law_value_here", "_law_k", "_law_other", "_law_word"] : List Str)) (sc := defScope s_law) (by decide +kernel)) (fun _ _ _ _ _ => (pg_name (i := 9) sc_law.nd rfl (by first | exact Or.inl rfl | exact Or.inr rfl))) (fun _ _ _ _ _ => (pts_one (pt_not (kt_truth K (pe_callGg Glrf (hr.mono (by decide)) hgd takes0 (pa_cons (pv 1) pa_nil) pk_nil) (by intro _; rfl))))) (fun _ _ _ _ _ => (pv 9))) (pe_lst pa_nil) (nomark _))))))))), ?_⟩
  obtain ⟨mc, kt, ku, kr, kv, kts⟩ := KI
  walk_at "go"
  refine ⟨rfl, rfl, l, ns, rfl, hl, fun a c H1 w => ?_⟩
  walk_at "go"
  refine ⟨A.Column, mc, _, ku, rfl, kr, kv, ?_⟩
  walk_at "go"
  refine g_newA w (by walk_at "sz") fun t0 G0 H2 n0 s0 q0 w => ?_
  refine g_neD (.tup (kts _) (.cons (.str _) (.cons (.str _) (.cons (.str _) .nil)))) (.tup (Evl.ex_t w.sub (SqT.of q0)) (.cons (.str _) (.cons (.str _) (.cons (.str _) .nil)))) (by decide +kernel) (by decide +kernel) ?_
  rw [show PyData.eqv (.tuple [.str "int", .str "text", .str "ref"]) (.tuple [.str "int", .str "text", .str "ref"]) = true by decide +kernel]
  walk_at "go"
  refine ⟨rfl, rfl, G0, a, c, 3, rfl, by decide, by decide, w, fun nl H3 nms lnm hnm hnd nnl w => ?_⟩
  have hnl : upd G0 nl (.lst (nms.map V.str)) nl = some (.lst (nms.map V.str)) := upd_same
  have s1 : Same G0 (upd G0 nl (.lst (nms.map V.str))) := Same.newG nnl
  generalize upd G0 nl (.lst (nms.map V.str)) = G1 at *
  have lnm3 : nms.length = 3 := lnm
  walk_at "go"
  refine ⟨_, rfl, by decide, by decide, ?_⟩
  refine lc_it itf_range w (fun _ _ => True.intro) (by rw [sizeLine_eq]; decide) (fun i Gi acc => ∃ cs as, acc = as.map V.ref ∧ CTs K Gi cs as ∧ cs.length = i ∧ ∀ c ∈ cs, c.ok ∧ c.nrm) ⟨[], [], rfl, .nil, rfl, fun _ z => absurd z List.not_mem_nil⟩ ?_ ?_
  · rintro j y Gi acc D Ha Hb hj ej nD ⟨cs, as, rfl, hct, lcs, hcok⟩ ha wj ⟨rfl, rfl⟩
    have hnj := upd_old (o' := .lst (as.map V.ref)) (ej _ _ hnl) nD
    walk_at "go"
    refine ⟨rfl, ?_⟩
    walk_at "go"
    refine ⟨rfl, rfl, _, a, c, wj, .inl ⟨nl, _, rfl, .inl (SqL.of hnj), by rw [List.length_map]; omega, by rw [List.length_map]; omega, fun x Hc hx wj => ?_⟩⟩
    obtain ⟨nm, hnm2, rfl⟩ := List.mem_map.mp hx
    walk_at "go"
    refine ⟨rfl, rfl, _, a, c, nl, nm, nms, rfl, wj, hnj, by omega, by omega, fun co p2 Hd e2 enr e3 n2 w2 => ?_⟩
    obtain ⟨n2a, n2b⟩ := upd_nonne n2
    rw [upd_comm n2b] at w2
    refine lc_keep (Pv := fun i Gi acc => ∃ cs as, acc = as.map V.ref ∧ CTs K Gi cs as ∧ cs.length = i ∧ ∀ c ∈ cs, c.ok ∧ c.nrm) w2 (Same.trans ej (Same.newG n2a)) (by rw [upd_ne n2b.symm]; exact nD) ha hj (by rw [sizeLine_eq]; decide)
      ⟨cs ++ [co], as ++ [p2], by rw [List.map_append]; rfl, Sw.Paired.app (hct.same (Same.newG n2a)) (.cons (SqT.of upd_same) .nil), by rw [List.length_append, lcs]; rfl, fun z hz => ?_⟩
    rcases List.mem_append.mp hz with hz | hz
    · exact hcok z hz
    · rw [List.mem_singleton.mp hz]
      exact ⟨⟨by rw [e2]; exact hnm nm hnm2, fun z => ⟨hnm _ (e3 z).1, (e3 z).2⟩⟩, enr⟩
  rintro CL Gn acc Ha ej nD ⟨cs, as, rfl, hct, lcs, hcok⟩ ha w
  have S2 : Same G1 (upd Gn CL (.lst (as.map V.ref))) := Same.trans ej (Same.newG nD)
  have hCL : upd Gn CL (.lst (as.map V.ref)) CL = some (.lst (as.map V.ref)) := upd_same
  replace hct := hct.same (Same.newG nD (o := .lst (as.map V.ref)))
  generalize upd Gn CL (.lst (as.map V.ref)) = G2 at *
  have las : as.length = 6 := by rw [← Sw.Paired.len hct]; exact lcs
  walk_at "go"
  refine ⟨CL, rfl, ⟨_, SqL.of (w.get hCL)⟩, ?_⟩
  refine for_it (itf_list (xs := as.map V.ref)) (fun i σ' H' => ∃ y4 y5 y6 y7 y8 y9 y10 G, σ' = [some (.ref l), some (.ref a), some (.ref nl), some (.ref CL), y4, y5, y6, y7, y8, y9, y10, none, none, none] ∧ Same G2 G ∧ Wd G (RD a c) H')
    ⟨_, _, _, _, _, _, _, G2, rfl, Same.refl _, w⟩ (fun i σ' H' _ h => ?_) ?_ ?_
  · obtain ⟨_, _, _, _, _, _, _, G, _, e, w⟩ := h
    exact Evl.ex_l w.sub (SqL.of (e _ _ hCL))
  · clear w
    rintro i x σ' H4 H5 hi ⟨y4, y5, y6, y7, y8, y9, y10, G, rfl, SG, w⟩ ⟨rfl, hx⟩
    rw [List.getElem?_map] at hx
    obtain ⟨p, hp, rfl⟩ := Option.map_eq_some_iff.mp hx
    obtain ⟨co, hco, hpt⟩ := Sw.Paired.atR hct hp
    obtain ⟨ok, nr⟩ := hcok co (List.mem_of_getElem? hco)
    replace hpt := Evl.ex_t SG hpt
    have c0 : (colTup co)[0]? = some (.str (kstr co.k)) := rfl
    have c1 : (colTup co)[1]? = some (.str co.name) := rfl
    have c3 : (colTup co)[3]? = some (.bl co.opt) := rfl
    walk_at "go"
    refine ⟨rfl, rfl, G, _, p, co, rfl, w, hpt, ok, fun m G3 H6 s3 n3 hm w => ?_⟩
    replace hpt := Evl.ex_t s3 hpt
    walk_at "go"
    refine g_ixT w hpt (L2.atI_nat (j := 3) c3) ?_
    refine g_ifJ (fun x H' => x = defV co ∧ Wd G3 (RD a c) H') (fun e1 Q' k' => ?_) (fun e1 Q' k' => ?_) ?_
    · exact k' _ _ ⟨by unfold defV; rw [if_pos e1], w⟩
    · have ed : defV co = emptyV co.k := by unfold defV; rw [if_neg (by rw [e1]; decide)]
      walk_at "go"
      refine g_ixT w hpt (L2.atI_nat (j := 0) c0) ?_
      walk_at "go"
      refine g_eqS rfl ?_
      rw [show decide (V.str (kstr co.k) = V.str "text") = decide (co.k = .text) by cases co.k <;> decide +kernel]
      walk_at "go"
      refine iteD (fun h1 => ?_) (fun h1 => ?_)
      · exact k' _ _ ⟨by rw [ed, h1]; rfl, w⟩
      · exact k' _ _ ⟨by rw [ed]; cases hk : co.k <;> first | rfl | exact absurd hk h1, w⟩
    rintro dv H7 ⟨rfl, w⟩
    obtain ⟨mdx, hm1⟩ := id hm
    walk_at "go"
    refine g_gf w hm1 (CF.cls _) (CF.na _) co.l_name ?_
    walk_at "go"
    refine prop_kind GK w hm fun H8 w => ?_
    walk_at "go"
    refine g_gf w hm1 (CF.cls _) (CF.no _) co.l_opt ?_
    walk_at "go"
    refine g_newA w (by walk_at "sz") fun u1 G4 H9 n4 s4 q4 w => ?_
    replace hpt := Evl.ex_t s4 hpt
    walk_at "go"
    refine g_ixT w hpt (L2.atI_nat (j := 1) c1) ?_
    walk_at "go"
    refine g_ixT w hpt (L2.atI_nat (j := 0) c0) ?_
    walk_at "go"
    refine g_ixT w hpt (L2.atI_nat (j := 3) c3) ?_
    walk_at "go"
    refine g_newA w (by walk_at "sz") fun u2 G5 H10 n5 s5 q5 w => ?_
    refine g_neD (.tup (Evl.ex_t w.sub (SqT.of (s5 _ _ q4))) (.cons (.str _) (.cons (.str _) (.cons (.bl _) .nil)))) (.tup (Evl.ex_t w.sub (SqT.of q5)) (.cons (.str _) (.cons (.str _) (.cons (.bl _) .nil)))) (sh_three ok) (sh_three ok) ?_
    rw [SeqAt.eqv_refl _ (SeqAt.canLay_of_shaped (sh_three ok))]
    replace hpt := Evl.ex_t s5 hpt
    have hm5 := s5 _ _ (s4 _ _ hm1)
    have hmC : ColAt A G5 m co := ⟨mdx, hm5⟩
    walk_at "go"
    refine prop_text GT w hmC ok fun H11 w => ?_
    walk_at "go"
    refine ⟨rfl, rfl, G5, RD a c, p, co, rfl, w, hpt, ok, fun H12 w => ?_⟩
    refine g_neS rfl ?_
    rw [decide_eq_true (rfl : V.str co.text = V.str co.text)]
    walk_at "go"
    refine g_isi (.own _) (tyX_same w.sub (CG.ty CF hm5)) (CG.kc _) ?_
    walk_at "go"
    have ptx := parseT_text ok nr
    have tl : co.text.length ≤ 1000000 := text_le ok
    refine prop_text GT w hmC ok fun H13 w => ?_
    walk_at "go"
    refine ⟨rfl, rfl, G5, RD a c, _, rfl, w, .inl ⟨_, rfl, tl, fun c' hc' r G6 H14 s6 n6 hr6 w => ?_, fun z => by rw [ptx] at z; cases z⟩⟩
    rw [ptx] at hc'
    cases hc'
    obtain ⟨rdx, hr1⟩ := id hr6
    walk_at "go"
    refine g_isi (.own _) (tyX_same w.sub (CG.ty CF hr1)) (CG.kk _ .int) ?_
    walk_at "go"
    refine g_isi (.own _) (tyX_same w.sub (CG.ty CF hr1)) (CG.kk _ .text) ?_
    walk_at "go"
    refine g_isi (.own _) (tyX_same w.sub (CG.ty CF hr1)) (CG.kk _ .ref) ?_
    walk_at "go"
    refine g_newA w (by walk_at "sz") fun u3 G7 H15 n7 s7 q7 w => ?_
    walk_at "go"
    refine g_newA w (by walk_at "sz") fun u4 G8 H16 n8 s8 q8 w => ?_
    have hpt6 := Evl.ex_t s6 hpt
    replace hpt := Evl.ex_t s8 (Evl.ex_t s7 hpt6)
    walk_at "go"
    obtain ⟨ws3, hws3⟩ : ∃ ws : List Str, ws = (["int", "text", "ref"] : List Str) := ⟨_, rfl⟩
    have e8 : (.lst [V.str "int", .str "text", .str "ref"] : HO) = .lst (ws3.map V.str) := by rw [hws3]; rfl
    rw [e8] at q8
    have lw3 : ws3.length = 3 := by rw [hws3]; rfl
    refine ⟨u4, rfl, ⟨_, SqL.of (w.get q8)⟩, ?_⟩
    refine lc_it (itf_list (xs := ws3.map V.str)) w (fun H e => SqL.of (e _ _ q8)) (by rw [sizeLine_eq, List.length_map, lw3]; decide) (fun i _ acc => acc = ((ws3.take i).map fun z => decide (V.str (kstr co.k) = V.str z)).map V.bl) rfl ?_ ?_
    · rintro j y Gi acc D Ha Hb hj ej nD rfl ha wj ⟨rfl, hy⟩
      rw [List.getElem?_map] at hy
      obtain ⟨z, hz, rfl⟩ := Option.map_eq_some_iff.mp hy
      walk_at "go"
      refine ⟨rfl, ?_⟩
      walk_at "go"
      refine g_ixT wj (Evl.ex_t (Same.newG nD) (Evl.ex_t ej hpt)) (L2.atI_nat (j := 0) c0) ?_
      walk_at "go"
      refine g_eqS rfl ?_
      refine lc_keep (Pv := fun i _ acc => acc = ((ws3.take i).map fun z => decide (V.str (kstr co.k) = V.str z)).map V.bl) wj ej nD ha hj (by rw [sizeLine_eq, List.length_map, lw3]; decide) ?_
      rw [List.take_add_one, hz]
      simp
    rintro D9 Gn9 acc Hb ej9 nD9 rfl ha9 w
    rw [List.length_map, List.take_length] at w
    have S9 : Same G8 (upd Gn9 D9 (.lst ((ws3.map fun z => decide (V.str (kstr co.k) = V.str z)).map V.bl))) := Same.trans ej9 (Same.newG nD9)
    have q9 : upd Gn9 D9 (.lst ((ws3.map fun z => decide (V.str (kstr co.k) = V.str z)).map V.bl)) D9 = some (.lst ((ws3.map fun z => decide (V.str (kstr co.k) = V.str z)).map V.bl)) := upd_same
    generalize upd Gn9 D9 (.lst ((ws3.map fun z => decide (V.str (kstr co.k) = V.str z)).map V.bl)) = G9 at *
    walk_at "go"
    refine g_neF w (SqL.of (S9 _ _ (s8 _ _ q7))) (SqL.of q9) rfl (by rw [List.all_map]; exact List.all_eq_true.mpr fun _ _ => rfl) ?_
    rw [hws3, show eqVs [V.bl (decide (co.k = .int)), .bl (decide (co.k = .text)), .bl (decide (co.k = .ref))] (((["int", "text", "ref"] : List Str).map fun z => decide (V.str (kstr co.k) = V.str z)).map V.bl) = true by cases co.k <;> decide +kernel]
    replace w := w.drop (Same.trans s7 (Same.trans s8 S9))
    replace hpt := hpt6
    walk_at "go"
    refine g_isi (.own _) (tyX_same w.sub (CG.ty CF hr1)) (CG.kc _) ?_
    walk_at "go"
    have hm6 := s6 _ _ hm5
    have hmC6 : ColAt A G6 m co := ⟨mdx, hm6⟩
    have SG6 : Same G2 G6 := Same.trans SG (Same.trans s3 (Same.trans s4 (Same.trans s5 s6)))
    clear q7 q8 q9 S9 s7 s8 hmC hm5 hm1 hm q4 q5
    refine prop_default GD w hmC6 fun H17 w => ?_
    obtain ⟨o1, o2, o3⟩ := defD_od co
    walk_at "go"
    refine g_reprS w (defD_dq co) o1 o2 o3 ?_
    walk_at "go"
    refine g_reprS w (defD_dq co) o1 o2 o3 ?_
    refine g_neS rfl ?_
    rw [decide_eq_true (by rfl)]
    with_reducible refine g_bl ?_
    with_reducible refine iteNT ?_
    with_reducible refine g_next ?_
    with_reducible refine joinSeq (C := fun σ' H' => σ' = [some (.ref l), some (.ref a), some (.ref nl), some (.ref CL), some (.ref p), some (.ref m), some (defV co), some (.ref r), some (.ref u3), y9, y10, none, none, none] ∧ Wd G6 (RD a c) H') (fun N hN => ?_) ?_
    · walk_at "go"
      refine g_ixT w hpt (L2.atI_nat (j := 0) c0) ?_
      walk_at "go"
      refine g_eqS rfl ?_
      rw [show decide (V.str (kstr co.k) = V.str "ref") = decide (co.k = .ref) by cases co.k <;> decide +kernel]
      walk_at "go"
      refine iteD (fun h1 => ?_) (fun h1 => ?_)
      · walk_at "go"
        refine g_gf w hm6 (CF.cls _) (by rw [h1]; exact CF.nt) (co.l_target h1) ?_
        walk_at "go"
        refine g_gf w hm6 (CF.cls _) (by rw [h1]; exact CF.nr) (co.l_rule h1) ?_
        walk_at "go"
        refine g_newA w (by walk_at "sz") fun u5 G7 H18 n7 s7 q7 w => ?_
        walk_at "go"
        have c2 : (colTup co)[2]? = some (.str co.target) := by simp only [colTup, if_pos h1]; rfl
        have c4 : (colTup co)[4]? = some (.str co.rule) := by simp only [colTup, if_pos h1]; rfl
        have hpt7 := Evl.ex_t s7 hpt
        refine g_ixT w hpt7 (L2.atI_nat (j := 2) c2) ?_
        walk_at "go"
        refine g_ixT w hpt7 (L2.atI_nat (j := 4) c4) ?_
        walk_at "go"
        refine g_newA w (by walk_at "sz") fun u6 G8 H19 n8 s8 q8 w => ?_
        refine g_neD (.tup (Evl.ex_t w.sub (SqT.of (s8 _ _ q7))) (.cons (.str _) (.cons (.str _) .nil))) (.tup (Evl.ex_t w.sub (SqT.of q8)) (.cons (.str _) (.cons (.str _) .nil))) (sh_two ok h1) (sh_two ok h1) ?_
        rw [SeqAt.eqv_refl _ (SeqAt.canLay_of_shaped (sh_two ok h1))]
        walk_at "go"
        exact hN _ _ ⟨rfl, w.drop (Same.trans s7 s8)⟩
      · walk_at "go"
        exact hN _ _ ⟨rfl, w⟩
    rintro _ H18 ⟨rfl, w⟩
    walk_at "go"
    refine ⟨_, rfl, by decide, by decide, ?_⟩
    refine for_it itf_range (fun i σ' H' => ∃ z9 z10 G, σ' = [some (.ref l), some (.ref a), some (.ref nl), some (.ref CL), some (.ref p), some (.ref m), some (defV co), some (.ref r), some (.ref u3), z9, z10, none, none, none] ∧ Same G6 G ∧ Wd G (RD a c) H')
      ⟨_, _, G6, rfl, Same.refl _, w⟩ (fun _ _ _ _ _ => True.intro) ?_ ?_
    · clear w
      rintro i2 x2 σ2 H19 H20 hi2 ⟨z9, z10, G7, rfl, S7, w⟩ ⟨rfl, rfl⟩
      walk_at "go"
      refine ⟨rfl, rfl, G7, a, c, rfl, w, fun v d G8 H21 s8 hv hany w => ?_⟩
      have S8 := Same.trans S7 s8
      walk_at "go"
      refine ⟨m, _, mdx, _, _, rfl, w.get (S8 _ _ hm6), co.l_none (by decide +kernel), GA co.k, ?_⟩
      walk_at "go"
      refine ⟨rfl, rfl, G8, RD a c, m, co, v, d, rfl, w, ⟨mdx, S8 _ _ hm6⟩, rfl, hv, fun H22 w => ?_⟩
      obtain ⟨o1, o2, o3⟩ := od_bool (accB co d)
      walk_at "go"
      refine g_reprS w (.bl _) o1 o2 o3 ?_
      walk_at "go"
      refine ⟨rfl, rfl, G8, RD a c, p, co, v, d, rfl, w, Evl.ex_t S8 hpt, hv, fun H23 w => ?_⟩
      walk_at "go"
      refine g_reprS w (.bl _) o1 o2 o3 ?_
      refine g_neS rfl ?_
      rw [decide_eq_true (by rfl)]
      walk_at "go"
      exact ⟨_, _, G8, rfl, S8, w⟩
    clear w
    rintro _ H19 ⟨z9, z10, G7, rfl, S7, w⟩
    have SG7 := Same.trans SG6 S7
    have hm7 := S7 _ _ hm6
    have hpt7 := Evl.ex_t S7 hpt
    have hct7 := hct.same SG7
    have hCL7 := SG7 _ _ hCL
    walk_at "go"
    have lcs6 : cs.length = 6 := lcs
    have flb : ∀ l : List Bool, (l.map V.bl).all flatV = true := fun l => by rw [List.all_map]; exact List.all_eq_true.mpr fun _ _ => rfl
    refine ⟨CL, rfl, ⟨_, SqL.of (w.get hCL7)⟩, ?_⟩
    refine lc_it (itf_list (xs := as.map V.ref)) w (fun H e => SqL.of (e _ _ hCL7)) (by rw [sizeLine_eq, List.length_map, las]; decide) (fun i _ acc => acc = ((cs.take i).map fun d => decide (co.text = d.text)).map V.bl) rfl ?_ ?_
    · rintro j y Gi acc D Ha Hb hj ej nD rfl ha wj ⟨rfl, hy⟩
      rw [List.getElem?_map] at hy
      obtain ⟨q, hq, rfl⟩ := Option.map_eq_some_iff.mp hy
      obtain ⟨d, hd, hqt⟩ := Sw.Paired.atR hct7 hq
      obtain ⟨dok, dnr⟩ := hcok d (List.mem_of_getElem? hd)
      have eD := Same.trans ej (Same.newG nD (o := .lst (((cs.take j).map fun d => decide (co.text = d.text)).map V.bl)))
      walk_at "go"
      refine ⟨rfl, ?_⟩
      walk_at "go"
      refine ⟨rfl, rfl, _, _, q, d, rfl, wj, Evl.ex_t eD hqt, dok, fun x G8 H20 s8 n8 hx w => ?_⟩
      obtain ⟨xdx, hx1⟩ := id hx
      have hm8 := s8 _ _ (eD _ _ hm7)
      refine ⟨m, _, mdx, _, _, .ref (kcls A d.k), rfl, w.get hm8, GE co.k, tyX_same w.sub (CG.ty CF hx1), CG.nf _ _, ?_⟩
      refine ⟨G8, RD a c, m, .ref x, co, rfl, w, ⟨mdx, hm8⟩, ok, .inl ⟨x, d, rfl, hx, dok, fun H21 w => ?_⟩⟩
      refine ⟨_, rfl, ?_⟩
      refine lc_keep (Pv := fun i _ acc => acc = ((cs.take i).map fun d => decide (co.text = d.text)).map V.bl) (w.drop s8) ej nD ha hj (by rw [sizeLine_eq, List.length_map, las]; decide) ?_
      rw [List.take_add_one, hd]
      simp
    rintro D1 Gn1 acc Hb ej1 nD1 rfl ha1 w
    rw [List.length_map, las, ← lcs6, List.take_length] at w
    have S8 : Same G7 (upd Gn1 D1 (.lst ((cs.map fun d => decide (co.text = d.text)).map V.bl))) := Same.trans ej1 (Same.newG nD1)
    have q8 : upd Gn1 D1 (.lst ((cs.map fun d => decide (co.text = d.text)).map V.bl)) D1 = some (.lst ((cs.map fun d => decide (co.text = d.text)).map V.bl)) := upd_same
    generalize upd Gn1 D1 (.lst ((cs.map fun d => decide (co.text = d.text)).map V.bl)) = G8 at *
    walk_at "go"
    refine ⟨CL, rfl, ⟨_, SqL.of (w.get (S8 _ _ hCL7))⟩, ?_⟩
    refine lc_it (itf_list (xs := as.map V.ref)) w (fun H e => SqL.of (e _ _ (S8 _ _ hCL7))) (by rw [sizeLine_eq, List.length_map, las]; decide) (fun i _ acc => acc = ((cs.take i).map fun d => decide (co.text = d.text)).map V.bl) rfl ?_ ?_
    · rintro j y Gi acc D Ha Hb hj ej nD rfl ha wj ⟨rfl, hy⟩
      rw [List.getElem?_map] at hy
      obtain ⟨q, hq, rfl⟩ := Option.map_eq_some_iff.mp hy
      obtain ⟨d, hd, hqt⟩ := Sw.Paired.atR hct7 hq
      obtain ⟨dok, dnr⟩ := hcok d (List.mem_of_getElem? hd)
      have eD := Same.trans S8 (Same.trans ej (Same.newG nD (o := .lst (((cs.take j).map fun d => decide (co.text = d.text)).map V.bl))))
      walk_at "go"
      refine ⟨rfl, ?_⟩
      walk_at "go"
      refine g_eqD (.tup (Evl.ex_t wj.sub (Evl.ex_t eD hpt7)) (col_dp co)) (.tup (Evl.ex_t wj.sub (Evl.ex_t eD hqt)) (col_dp d)) (col_shaped ok) (col_shaped dok) ?_
      rw [col_eqv ok nr dok dnr]
      refine lc_keep (Pv := fun i _ acc => acc = ((cs.take i).map fun d => decide (co.text = d.text)).map V.bl) wj ej nD ha hj (by rw [sizeLine_eq, List.length_map, las]; decide) ?_
      rw [List.take_add_one, hd]
      simp
    rintro D2 Gn2 acc Hb2 ej2 nD2 rfl ha2 w
    rw [List.length_map, las, ← lcs6, List.take_length] at w
    have S9 : Same G8 (upd Gn2 D2 (.lst ((cs.map fun d => decide (co.text = d.text)).map V.bl))) := Same.trans ej2 (Same.newG nD2)
    have q9 : upd Gn2 D2 (.lst ((cs.map fun d => decide (co.text = d.text)).map V.bl)) D2 = some (.lst ((cs.map fun d => decide (co.text = d.text)).map V.bl)) := upd_same
    generalize upd Gn2 D2 (.lst ((cs.map fun d => decide (co.text = d.text)).map V.bl)) = G9 at *
    refine g_neF w (SqL.of (S9 _ _ q8)) (SqL.of q9) (flb _) (flb _) ?_
    rw [eqVs_reflB]
    replace w := w.drop (Same.trans S8 S9)
    have hmC7 : ColAt A G7 m co := ⟨mdx, hm7⟩
    walk_at "go"
    refine prop_text GT w hmC7 ok fun H20 w => ?_
    walk_at "go"
    refine ⟨rfl, rfl, G7, RD a c, _, rfl, w, .inl ⟨_, rfl, tl, fun c' hc' r2 G10 H21 s10 n10 hr10 w => ?_, fun z => by rw [ptx] at z; cases z⟩⟩
    rw [ptx] at hc'
    cases hc'
    obtain ⟨r2dx, hr2⟩ := id hr10
    have hm10 := s10 _ _ hm7
    walk_at "go"
    refine ⟨r2, _, r2dx, _, _, .ref (kcls A co.k), rfl, w.get hr2, GE co.k, tyX_same w.sub (CG.ty CF hm10), CG.nf _ _, ?_⟩
    refine ⟨G10, RD a c, r2, .ref m, co, rfl, w, hr10, ok, .inl ⟨m, co, rfl, ⟨mdx, hm10⟩, ok, fun H22 w => ?_⟩⟩
    refine ⟨_, rfl, ?_⟩
    rw [decide_eq_true (rfl : co.text = co.text)]
    walk_at "go"
    refine prop_text GT w ⟨mdx, hm10⟩ ok fun H23 w => ?_
    have strT : "str" ∈ anyT := by decide
    refine ⟨m, _, mdx, _, _, .type "str", rfl, w.get hm10, GE co.k, .base (.str _), AF.nf _ strT _, ?_⟩
    refine ⟨G10, RD a c, m, .str co.text, co, rfl, w, ⟨mdx, hm10⟩, ok, .inr ⟨_, .base (.str _), AF.ac _ strT, fun H24 w => ?_⟩⟩
    refine ⟨_, rfl, ?_⟩
    walk_at "go"
    refine ⟨rfl, rfl, G10, a, c, rfl, w, fun v d G11 H25 s11 hv hany w => ?_⟩
    obtain ⟨t, ht, hty⟩ := hany
    have hm11 := s11 _ _ hm10
    refine ⟨m, _, mdx, _, _, .type t, rfl, w.get hm11, GE co.k, tyX_same w.sub hty, AF.nf _ ht _, ?_⟩
    refine ⟨G11, RD a c, m, v, co, rfl, w, ⟨mdx, hm11⟩, ok, .inr ⟨_, hty, AF.ac _ ht, fun H26 w => ?_⟩⟩
    refine ⟨_, rfl, ?_⟩
    walk_at "go"
    exact ⟨_, _, _, _, _, _, _, G11, rfl, Same.trans SG7 (Same.trans s10 s11), w⟩
  · rintro _ H4 ⟨y4, y5, y6, y7, y8, y9, y10, G, rfl, SG, w⟩
    have TG := hTb.ext (Same.trans s0 (Same.trans s1 (Same.trans S2 SG)))
    walk_at "go"
    refine ⟨_, rfl, by decide, by decide, ?_⟩
    refine lc_none itf_range w (fun _ => True.intro) (fun G' => LamX.Tabs TL G') (fun D nD => TG.ext (Same.newG nD)) ?_ ?_
    · rintro i x Gi D H5 H6 hi TGi hD wi ⟨rfl, rfl⟩
      walk_at "go"
      refine ⟨rfl, ?_⟩
      walk_at "go"
      refine ⟨rfl, rfl, Gi, a, c, rfl, wi, TGi, fun G' H7 sn T' w' => ?_⟩
      walk_at "go"
      exact ⟨G', T', sn _ _ hD (fun _ z => (nomatch z)), w'⟩
    · rintro D Gn H5 TGn hD w
      walk_at "go"
      refine g_newA w (by walk_at "sz") fun z G' H6 nz sz qz w => ?_
      refine g_eqF w (SqL.of (sz _ _ hD)) (SqL.of qz) rfl rfl ?_
      rw [show eqVs [] [] = true from rfl]
      exact k _
end
end Sv


set_option Elab.async false
set_option linter.all false
set_option maxRecDepth 100000
set_option maxHeartbeats 4000000
namespace Sv
open PySem PySem.Spec PyProof.Rows L2 Sw
theorem exm2 {K : PySem.W.Frag} {cls c d : Value} {b1 b2 : Bool} (h1 : PySem.W.exmOne K cls c = some b1) (h2 : PySem.W.exmOne K cls d = some b2) : PySem.W.exmAny K cls [c, d] = some (b1 || (b2 || false)) := by
  unfold PySem.W.exmAny
  rw [h1]
  unfold PySem.W.exmAny
  rw [h2]
  rfl
theorem kit_self {K : PySem.W.Frag} {c : Addr} : PySem.W.kitOne K (.ref c) (.ref c) = some true := by
  unfold PySem.W.kitOne
  rw [if_pos (by simp)]
theorem words_not {c : Col} (h : c.k ≠ .ref) : c.words = c.words0 := by
  unfold Col.words
  rw [if_neg h]
theorem bindsup1 {K : PySem.W.Frag} {fd : FuncData} {p1 : Str} (h : ∀ a, bindArgs fd ⟨[a], []⟩ = pure ([p1].zip [a])) : Binds K fd [p1] [] := fun s us X hl => by
  rw [List.append_nil] at hl ⊢
  match us, hl with
  | [a], _ => exact BindsTo.of_eq (h a)
theorem bindsup2 {K : PySem.W.Frag} {fd : FuncData} {p1 p2 : Str} (h : ∀ a b, bindArgs fd ⟨[a, b], []⟩ = pure ([p1, p2].zip [a, b])) : Binds K fd [p1, p2] [] := fun s us X hl => by
  rw [List.append_nil] at hl ⊢
  match us, hl with
  | [a, b], _ => exact BindsTo.of_eq (h a b)
def trB (K : PySem.W.Frag) (cs : List Addr) (sv : Addr) : Bool := (List.range 2).all fun i =>
  decide (PySem.W.exmOne K (.ref (cs.getD i 0)) (.ref sv) = some true) && (((List.range 2).all fun j => decide (PySem.W.kitOne K (.ref (cs.getD i 0)) (.ref (cs.getD j 0)) = some (decide (i = j)))) && (decide (PySem.W.kitOne K (.ref (cs.getD i 0)) (.type "ValueError") = some true) && decide (PySem.W.findIn K (.ref (cs.getD i 0)) "name" = some none)))
theorem two2 {A : Ad} {P : Addr → Prop} (h2 : P A.InvalidName) (h4 : P A.InvalidColumn) : ∀ C ∈ trCs A, P C := fun C h => by
  unfold trCs at h
  simp only [List.mem_cons, List.not_mem_nil, or_false] at h
  rcases h with rfl | rfl
  · exact h2
  · exact h4
theorem trF_of {K : PySem.W.Frag} {A : Ad} (h : trB K (trCs A) A.SaveError = true) (he : ∀ C ∈ trCs A, ExcC K C) (hx : ∀ C ∈ trCs A, XfC K C) : TrF K A := by
  have k : ∀ (i : Nat) (C : Addr), (trCs A)[i]? = some C → i < 2 ∧ (trCs A).getD i 0 = C := fun i C hi => by
    refine ⟨(List.getElem?_eq_some_iff.mp hi).1, ?_⟩
    rw [List.getD_eq_getElem?_getD, hi]
    rfl
  have sp : ∀ {a b : Bool}, (a && b) = true → a = true ∧ b = true := fun h => Bool.and_eq_true_iff.mp h
  have m : ∀ i, i < 2 → _ := fun i hi => List.all_eq_true.mp h i (List.mem_range.mpr hi)
  refine ⟨fun C hC => ?_, he, hx, fun i j C D hi hj => ?_, fun C hC => ?_, fun C hC => ?_⟩
  · obtain ⟨i, hi⟩ := List.getElem?_of_mem hC
    obtain ⟨i5, ei⟩ := k i C hi
    have := of_decide_eq_true (sp (m i i5)).1
    rw [ei] at this
    exact this
  · obtain ⟨i5, ei⟩ := k i C hi
    obtain ⟨j5, ej⟩ := k j D hj
    have := of_decide_eq_true (List.all_eq_true.mp (sp (sp (m i i5)).2).1 j (List.mem_range.mpr j5))
    rw [ei, ej] at this
    exact this
  · obtain ⟨i, hi⟩ := List.getElem?_of_mem hC
    obtain ⟨i5, ei⟩ := k i C hi
    have := of_decide_eq_true (sp (sp (sp (m i i5)).2).2).1
    rw [ei] at this
    exact this
  · obtain ⟨i, hi⟩ := List.getElem?_of_mem hC
    obtain ⟨i5, ei⟩ := k i C hi
    have := of_decide_eq_true (sp (sp (sp (m i i5)).2).2).2
    rw [ei] at this
    exact this
def anyB (K : PySem.W.Frag) (col : Addr) (cs : List Addr) : Bool := anyT.all fun t => decide (PySem.W.kitOne K (.type t) (.ref col) = some false) && cs.all fun C => PySem.W.notFirst K C (.type t)
theorem anyF_of {K : PySem.W.Frag} {A : Ad} (h : anyB K A.Column [A.IntColumn, A.TextColumn, A.RefColumn] = true) (ti : ∀ t ∈ (["tuple", "list", "dict"] : List String), PySem.W.kitOne K (.type t) (.type "int") = some false ∧ PySem.W.kitOne K (.type t) (.type "str") = some false) : AnyF K A := by
  refine ⟨fun t ht => ?_, fun t ht k => ?_, ti⟩
  · exact of_decide_eq_true (Bool.and_eq_true_iff.mp (List.all_eq_true.mp h t ht)).1
  · exact List.all_eq_true.mp (Bool.and_eq_true_iff.mp (List.all_eq_true.mp h t ht)).2 _ (by cases k <;> simp [kcls])
def colB (K : PySem.W.Frag) (col : Addr) (cs : List Addr) : Bool := (List.range 3).all fun i => decide (PySem.W.kitOne K (.ref (cs.getD i 0)) (.ref col) = some true) && (List.range 3).all fun j => decide (PySem.W.kitOne K (.ref (cs.getD i 0)) (.ref (cs.getD j 0)) = some (decide (i = j))) && PySem.W.notFirst K (cs.getD i 0) (.ref (cs.getD j 0))
def kdI : Kd → Nat
  | .int => 0
  | .text => 1
  | .ref => 2
theorem colB_of {K : PySem.W.Frag} {A : Ad} (h : colB K A.Column [A.IntColumn, A.TextColumn, A.RefColumn] = true) : (∀ k, PySem.W.kitOne K (.ref (kcls A k)) (.ref A.Column) = some true) ∧ (∀ k j, PySem.W.kitOne K (.ref (kcls A k)) (.ref (kcls A j)) = some (decide (k = j)) ∧ PySem.W.notFirst K (kcls A k) (.ref (kcls A j)) = true) := by
  have e : ∀ k, kcls A k = ([A.IntColumn, A.TextColumn, A.RefColumn] : List Addr).getD (kdI k) 0 := fun k => by cases k <;> rfl
  have l : ∀ k, kdI k ∈ List.range 3 := fun k => by cases k <;> decide
  have d : ∀ k j, decide (kdI k = kdI j) = decide (k = j) := fun k j => by cases k <;> cases j <;> rfl
  refine ⟨fun k => ?_, fun k j => ⟨?_, ?_⟩⟩
  · have := of_decide_eq_true (Bool.and_eq_true_iff.mp (List.all_eq_true.mp h _ (l k))).1
    rw [e]
    exact this
  · have := of_decide_eq_true (Bool.and_eq_true_iff.mp (List.all_eq_true.mp (Bool.and_eq_true_iff.mp (List.all_eq_true.mp h _ (l k))).2 _ (l j))).1
    rw [d] at this
    rw [e, e]
    exact this
  · have := (Bool.and_eq_true_iff.mp (List.all_eq_true.mp (Bool.and_eq_true_iff.mp (List.all_eq_true.mp h _ (l k))).2 _ (l j))).2
    rw [e, e]
    exact this
theorem tabs_nil {H : Hp} {PL : Addr} {q1 : Str} (h : ∀ p ∈ ([(PL, q1)] : List (Addr × Str)), H p.1 = some (.tbl #[])) : LamX.Tabs [(PL, q1)] H := fun p hp => LamX.TabS.nil (h p hp)

theorem tab_mk {K : PySem.W.Frag} {x : Str} {f c P : Addr} {o1 : Value} {o2 : Option Addr} {o3 : Array (Option Value)} {fd : FuncData} {k1 : Value} {k2 : Option Addr} {k3 : Array (Option Value)} {vs : Array Value} (h1 : PySem.W.nsIn K mainGlobals x = some (some (.ref f))) (h2 : K.lookup f = some ⟨o1, o2, .func fd, o3⟩) (hc : fd.code = .ref c) (h3 : K.lookup c = some ⟨k1, k2, .fields vs, k3⟩) (h4 : (vs[11]? : Option Value) = some (.ref P)) : PySem.W.tabIn K x = some (c, P) := by
  unfold PySem.W.tabIn
  simp only [h1, h2, hc, h3, h4]

theorem all_mk {P : Program} {wo : World} {K : PySem.W.Frag} {h : Heap} {mg : Str → Option Value} {fa : Addr} (X : K.In h) (G : h.Ns mainGlobals mg) (hfa : mg "law" = some (.ref fa)) {q : Program} (tabs : ∀ (y : Str) (c P : Addr), ((recsOf q).find? (fun e => e.name == y)).isSome = true → PySem.W.tabIn K y = some (c, P) → PySem.W.CodeHd h c P ∧ h.get? P = some { cls := .none, data := .fields #[] }) (r2 : ((recsOf q).find? (fun e => e.name == ("_law_refused" : Str))).isSome = true) (hfile : ((P.main.file : Str) == "/claim/cut.py") = true) (htop : (P.main.scope.names.lookup ("super" : Str)).isSome = false)
    {c14 c16 c18 c20 c22 c24 c26 c28 a34 a45 N91 f110 cc121 ca122 N145 f164 cc175 ca176 N199 f218 cc229 ca230 f269 f283 D284 f301 cc312 ca313 f333 f349 cc360 ca361 p381 g382 f402 p416 g417 p435 g436 p473 g474 f494 f508 f522 f536 f550 cc561 ca562 f582 cc593 ca594 f614 cc625 ca626 f646 a663 f672 f686 f700 f714 f728 f742 f756 f770 f784 f798 f812 f826 f840 ca854 pt855 f863 : Addr}
    {t30 t32 t36 t37 t38 t39 t40 t47 t48 t49 t62 t73 t84 tf129 tf183 tf237 tf320 tf368 t456 t461 t466 tf569 tf601 tf633 t665 t666 t667 : Tok}
    {od41 od50 dd98 od118 an119 od127 od133 dd152 od172 an173 od181 od187 dd206 od226 an227 od235 od241 od277 an278 od293 an294 od309 an310 od318 od324 od342 an343 od357 an358 od366 od372 od396 an397 od410 an411 od429 an430 od450 an451 od488 an489 od502 an503 od516 an517 od530 an531 od544 an545 od558 an559 od567 od573 od590 an591 od599 od605 od622 an623 od631 od637 od657 an658 od668 od680 an681 od694 an695 od708 an709 od722 an723 od736 an737 od750 an751 od764 an765 od778 an779 od792 an793 od806 an807 od820 an821 od834 an835 od848 an849 kd857 od871 an872 : Option Addr}
    {n42 n51 n669 : Nat}
    {sl43 sl52 sl120 sl128 sl134 sl174 sl182 sl188 sl228 sl236 sl242 sl279 sl295 sl311 sl319 sl325 sl344 sl359 sl367 sl373 sl398 sl412 sl431 sl452 sl490 sl504 sl518 sl532 sl546 sl560 sl568 sl574 sl592 sl600 sl606 sl624 sl632 sl638 sl659 sl670 sl682 sl696 sl710 sl724 sl738 sl752 sl766 sl780 sl794 sl808 sl822 sl836 sl850 ks858 sl873 : Array (Option Value)}
    {nm89 q90 nm143 q144 nm197 q198 : Str}
    {bs92 bm93 sub95 bs146 bm147 sub149 bs200 bm201 sub203 rs388 rs419 rs442 rs480 : List Value}
    {sn94 sn148 sn202 : List Str}
    {ab96 ab150 ab204 : Bool}
    {col97 col151 col205 : Option Bool}
    {m99 m100 m101 m102 m103 m153 m154 m155 m156 m157 m207 m208 m209 m210 m211 : Option Value}
    {oc113 kV114 dc115 pm116 ct117 ol125 ol132 oc167 kV168 dc169 pm170 ct171 ol179 ol186 oc221 kV222 dc223 pm224 ct225 ol233 ol240 oc271 kV272 dc273 pm274 cd275 ct276 oc287 dc289 pm290 cd291 ct292 oc304 kV305 dc306 pm307 ct308 ol316 ol323 oc336 kV337 dc338 pm339 cd340 ct341 oc352 kV353 dc354 pm355 ct356 ol364 ol371 oc390 kV391 dc392 pm393 cd394 ct395 oc404 kV405 dc406 pm407 cd408 ct409 oc423 kV424 dc425 pm426 cd427 ct428 oc444 kV445 dc446 pm447 cd448 ct449 oc482 kV483 dc484 pm485 cd486 ct487 oc496 kV497 dc498 pm499 cd500 ct501 oc510 kV511 dc512 pm513 cd514 ct515 oc524 kV525 dc526 pm527 cd528 ct529 oc538 kV539 dc540 pm541 cd542 ct543 oc553 kV554 dc555 pm556 ct557 ol565 ol572 oc585 kV586 dc587 pm588 ct589 ol597 ol604 oc617 kV618 dc619 pm620 ct621 ol629 ol636 oc651 kV652 dc653 pm654 cd655 ct656 oc674 kV675 dc676 pm677 cd678 ct679 oc688 kV689 dc690 pm691 cd692 ct693 oc702 kV703 dc704 pm705 cd706 ct707 oc716 kV717 dc718 pm719 cd720 ct721 oc730 kV731 dc732 pm733 cd734 ct735 oc744 kV745 dc746 pm747 cd748 ct749 oc758 kV759 dc760 pm761 cd762 ct763 oc772 kV773 dc774 pm775 cd776 ct777 oc786 kV787 dc788 pm789 cd790 ct791 oc800 kV801 dc802 pm803 cd804 ct805 oc814 kV815 dc816 pm817 cd818 ct819 oc828 kV829 dc830 pm831 cd832 ct833 oc842 kV843 dc844 pm845 ct847 kc856 oc865 kV866 dc867 pm868 cd869 ct870 : Value}
    {va126 va180 va234 va317 va365 va566 va598 va630 vs859 : Array Value}
    (h1 : PySem.W.nsIn K PySem.cStatics "thirdparty.any" = some none)
    (h2 : PySem.W.nsIn K mainGlobals "super" = some none)
    (h3 : PySem.W.nsIn K mainGlobals "isinstance" = some none)
    (h4 : PySem.W.nsIn K mainGlobals "str" = some none)
    (h5 : PySem.W.nsIn K mainGlobals "len" = some none)
    (h6 : PySem.W.nsIn K mainGlobals "all" = some none)
    (h7 : PySem.W.nsIn K mainGlobals "int" = some none)
    (h8 : PySem.W.nsIn K mainGlobals "bool" = some none)
    (h9 : PySem.W.nsIn K mainGlobals "abs" = some none)
    (h10 : PySem.W.nsIn K mainGlobals "list" = some none)
    (h11 : PySem.W.nsIn K mainGlobals "range" = some none)
    (h12 : PySem.W.nsIn K mainGlobals "ValueError" = some none)
    (h13 : PySem.W.nsIn K mainGlobals "repr" = some none)
    (h15 : PySem.W.nsIn K mainGlobals "SaveError" = some (some (.ref c14)))
    (h17 : PySem.W.nsIn K mainGlobals "InvalidName" = some (some (.ref c16)))
    (h19 : PySem.W.nsIn K mainGlobals "InvalidColumn" = some (some (.ref c18)))
    (h21 : PySem.W.nsIn K mainGlobals "InvalidText" = some (some (.ref c20)))
    (h23 : PySem.W.nsIn K mainGlobals "Column" = some (some (.ref c22)))
    (h25 : PySem.W.nsIn K mainGlobals "IntColumn" = some (some (.ref c24)))
    (h27 : PySem.W.nsIn K mainGlobals "TextColumn" = some (some (.ref c26)))
    (h29 : PySem.W.nsIn K mainGlobals "RefColumn" = some (some (.ref c28)))
    (h31 : PySem.W.nsIn K mainGlobals "LETTERS" = some (some (.str "abcdefghijklmnopqrstuvwxyz" t30)))
    (h33 : PySem.W.nsIn K mainGlobals "LONGEST_NAME" = some (some (.int 8 t32)))
    (h35 : PySem.W.nsIn K mainGlobals "RESERVED" = some (some (.ref a34)))
    (h44 : K.lookup a34 = some ⟨.type "tuple", od41, .seq #[.str "key" t36, .str "limit" t37, .str "order" t38, .str "self" t39, .str "table" t40] n42, sl43⟩)
    (h46 : PySem.W.nsIn K mainGlobals "RULES" = some (some (.ref a45)))
    (h53 : K.lookup a45 = some ⟨.type "tuple", od50, .seq #[.str "restrict" t47, .str "clear" t48, .str "cascade" t49] n51, sl52⟩)
    (h54 : PySem.W.plainGet K c24 Str.empty = true)
    (h55 : PySem.W.hasDictIn K c24 = true)
    (h56 : PySem.W.plainOver K c24 = true)
    (h57 : PySem.W.findIn K (.ref c24) "__setattr__" = some (some (.builtin "object.__setattr__")))
    (h58 : PySem.W.makesIn K c24 = true)
    (h59 : PySem.W.keepIn K (.ref c24) = true)
    (h60 : PySem.W.findIn K (.ref c24) "name" = some none)
    (h61 : PySem.W.findIn K (.ref c24) "optional" = some none)
    (h63 : PySem.W.findIn K (.ref c24) "KIND" = some (some (.str "int" t62)))
    (h64 : PySem.W.specialIn K (.str "int" t62) "__get__" = some none)
    (h65 : PySem.W.plainGet K c26 Str.empty = true)
    (h66 : PySem.W.hasDictIn K c26 = true)
    (h67 : PySem.W.plainOver K c26 = true)
    (h68 : PySem.W.findIn K (.ref c26) "__setattr__" = some (some (.builtin "object.__setattr__")))
    (h69 : PySem.W.makesIn K c26 = true)
    (h70 : PySem.W.keepIn K (.ref c26) = true)
    (h71 : PySem.W.findIn K (.ref c26) "name" = some none)
    (h72 : PySem.W.findIn K (.ref c26) "optional" = some none)
    (h74 : PySem.W.findIn K (.ref c26) "KIND" = some (some (.str "text" t73)))
    (h75 : PySem.W.specialIn K (.str "text" t73) "__get__" = some none)
    (h76 : PySem.W.plainGet K c28 Str.empty = true)
    (h77 : PySem.W.hasDictIn K c28 = true)
    (h78 : PySem.W.plainOver K c28 = true)
    (h79 : PySem.W.findIn K (.ref c28) "__setattr__" = some (some (.builtin "object.__setattr__")))
    (h80 : PySem.W.makesIn K c28 = true)
    (h81 : PySem.W.keepIn K (.ref c28) = true)
    (h82 : PySem.W.findIn K (.ref c28) "name" = some none)
    (h83 : PySem.W.findIn K (.ref c28) "optional" = some none)
    (h85 : PySem.W.findIn K (.ref c28) "KIND" = some (some (.str "ref" t84)))
    (h86 : PySem.W.specialIn K (.str "ref" t84) "__get__" = some none)
    (h87 : PySem.W.findIn K (.ref c28) "target" = some none)
    (h88 : PySem.W.findIn K (.ref c28) "rule" = some none)
    (h104 : K.lookup c16 = some (excClassObj nm89 q90 c16 N91 bs92 bm93 true sn94 sub95 ab96 col97 dd98 m99 m100 m101 m102 m103 "ValueError.__new__"))
    (h105 : PySem.HandSPX.refsVE bm93 = true)
    (h106 : PySem.W.findIn K (.ref c16) "__setattr__" = some (some (.builtin "object.__setattr__")))
    (h107 : PySem.W.subIn K (.ref c16) (.type "BaseException") = some true)
    (h108 : PySem.W.typeIn K (.ref c16) = some (.type "type"))
    (h109 : PySem.W.keepIn K (.ref c16) = true)
    (h111 : PySem.W.findIn K (.ref c16) "__init__" = some (some (.ref f110)))
    (h112 : PySem.W.typeIn K (.ref f110) = some (.type "function"))
    (h123 : K.lookup f110 = some ⟨oc113, od118, .func (PySem.W.ksFn "__init__" "InvalidName.__init__" (defArgs s_InvalidName___init__) (defBody s_InvalidName___init__) (defScope s_InvalidName___init__) .none kV114 dc115 pm116 an119 (.ref ca122) ct117 cc121), sl120⟩)
    (h124 : PySem.W.codeIn K (.ref ca122) "InvalidName.__init__" = true)
    (h130 : K.lookup ca122 = some ⟨ol125, od127, .fields va126, sl128⟩)
    (h131 : va126[2]? = some (.str "/claim/cut.py" tf129))
    (h135 : K.lookup cc121 = some ⟨ol132, od133, .cell (some (.ref c16)), sl134⟩)
    (h136 : PySem.W.isClsIn K c16 = true)
    (h137 : PySem.W.keepIn K (.ref f110) = true)
    (h138 : PySem.W.ks_superIn K c16 c16 "__init__" = some (some (.builtin "ValueError.__init__")))
    (h139 : PySem.W.mroIn K c16 (.ref c16) = some true)
    (h140 : PySem.W.subIn K (.ref c16) (.type "ValueError") = some true)
    (h141 : PySem.W.findIn K (.ref c16) "name" = some none)
    (h142 : PySem.W.hasDictIn K c16 = true)
    (h158 : K.lookup c18 = some (excClassObj nm143 q144 c18 N145 bs146 bm147 true sn148 sub149 ab150 col151 dd152 m153 m154 m155 m156 m157 "ValueError.__new__"))
    (h159 : PySem.HandSPX.refsVE bm147 = true)
    (h160 : PySem.W.findIn K (.ref c18) "__setattr__" = some (some (.builtin "object.__setattr__")))
    (h161 : PySem.W.subIn K (.ref c18) (.type "BaseException") = some true)
    (h162 : PySem.W.typeIn K (.ref c18) = some (.type "type"))
    (h163 : PySem.W.keepIn K (.ref c18) = true)
    (h165 : PySem.W.findIn K (.ref c18) "__init__" = some (some (.ref f164)))
    (h166 : PySem.W.typeIn K (.ref f164) = some (.type "function"))
    (h177 : K.lookup f164 = some ⟨oc167, od172, .func (PySem.W.ksFn "__init__" "InvalidColumn.__init__" (defArgs s_InvalidColumn___init__) (defBody s_InvalidColumn___init__) (defScope s_InvalidColumn___init__) .none kV168 dc169 pm170 an173 (.ref ca176) ct171 cc175), sl174⟩)
    (h178 : PySem.W.codeIn K (.ref ca176) "InvalidColumn.__init__" = true)
    (h184 : K.lookup ca176 = some ⟨ol179, od181, .fields va180, sl182⟩)
    (h185 : va180[2]? = some (.str "/claim/cut.py" tf183))
    (h189 : K.lookup cc175 = some ⟨ol186, od187, .cell (some (.ref c18)), sl188⟩)
    (h190 : PySem.W.isClsIn K c18 = true)
    (h191 : PySem.W.keepIn K (.ref f164) = true)
    (h192 : PySem.W.ks_superIn K c18 c18 "__init__" = some (some (.builtin "ValueError.__init__")))
    (h193 : PySem.W.mroIn K c18 (.ref c18) = some true)
    (h194 : PySem.W.subIn K (.ref c18) (.type "ValueError") = some true)
    (h195 : PySem.W.findIn K (.ref c18) "name" = some none)
    (h196 : PySem.W.hasDictIn K c18 = true)
    (h212 : K.lookup c20 = some (excClassObj nm197 q198 c20 N199 bs200 bm201 true sn202 sub203 ab204 col205 dd206 m207 m208 m209 m210 m211 "ValueError.__new__"))
    (h213 : PySem.HandSPX.refsVE bm201 = true)
    (h214 : PySem.W.findIn K (.ref c20) "__setattr__" = some (some (.builtin "object.__setattr__")))
    (h215 : PySem.W.subIn K (.ref c20) (.type "BaseException") = some true)
    (h216 : PySem.W.typeIn K (.ref c20) = some (.type "type"))
    (h217 : PySem.W.keepIn K (.ref c20) = true)
    (h219 : PySem.W.findIn K (.ref c20) "__init__" = some (some (.ref f218)))
    (h220 : PySem.W.typeIn K (.ref f218) = some (.type "function"))
    (h231 : K.lookup f218 = some ⟨oc221, od226, .func (PySem.W.ksFn "__init__" "InvalidText.__init__" (defArgs s_InvalidText___init__) (defBody s_InvalidText___init__) (defScope s_InvalidText___init__) .none kV222 dc223 pm224 an227 (.ref ca230) ct225 cc229), sl228⟩)
    (h232 : PySem.W.codeIn K (.ref ca230) "InvalidText.__init__" = true)
    (h238 : K.lookup ca230 = some ⟨ol233, od235, .fields va234, sl236⟩)
    (h239 : va234[2]? = some (.str "/claim/cut.py" tf237))
    (h243 : K.lookup cc229 = some ⟨ol240, od241, .cell (some (.ref c20)), sl242⟩)
    (h244 : PySem.W.isClsIn K c20 = true)
    (h245 : PySem.W.keepIn K (.ref f218) = true)
    (h246 : PySem.W.ks_superIn K c20 c20 "__init__" = some (some (.builtin "ValueError.__init__")))
    (h247 : PySem.W.mroIn K c20 (.ref c20) = some true)
    (h248 : PySem.W.subIn K (.ref c20) (.type "ValueError") = some true)
    (h249 : PySem.W.findIn K (.ref c20) "line" = some none)
    (h250 : PySem.W.hasDictIn K c20 = true)
    (h251 : PySem.W.subIn K (.ref c14) (.type "BaseException") = some true)
    (h252 : PySem.W.hasDictIn K c14 = true)
    (h253 : PySem.W.typeIn K (.ref c14) = some (.type "type"))
    (h254 : PySem.W.subIn K (.ref c16) (.ref c18) = some false)
    (h255 : PySem.W.subIn K (.ref c16) (.ref c16) = some true)
    (h256 : PySem.W.subIn K (.ref c18) (.ref c18) = some true)
    (h257 : PySem.W.subIn K (.ref c18) (.ref c16) = some false)
    (h258 : PySem.W.specialIn K (.builtin "object.__class__") "__get__" = some (some (.builtin "getset_descriptor.__get__")))
    (h259 : PySem.W.takesIn K (.builtin "object.__class__") = some true)
    (h260 : PySem.W.findIn K (.ref c16) "__getattribute__" = some (some (.builtin "BaseException.__getattribute__")))
    (h261 : PySem.W.findIn K (.ref c16) "__getattr__" = some none)
    (h262 : PySem.W.findIn K (.ref c16) "__class__" = some (some (.builtin "object.__class__")))
    (h263 : PySem.W.mroIn K c16 (.type "object") = some true)
    (h264 : PySem.W.findIn K (.ref c18) "__getattribute__" = some (some (.builtin "BaseException.__getattribute__")))
    (h265 : PySem.W.findIn K (.ref c18) "__getattr__" = some none)
    (h266 : PySem.W.findIn K (.ref c18) "__class__" = some (some (.builtin "object.__class__")))
    (h267 : PySem.W.mroIn K c18 (.type "object") = some true)
    (h268 : trB K [c16, c18] c14 = true)
    (h270 : PySem.W.nsIn K mainGlobals "is_name" = some (some (.ref f269)))
    (h280 : K.lookup f269 = some ⟨oc271, od277, .func (PySem.W.fnOf "is_name" "is_name" (defArgs s_is_name) (defBody s_is_name) (defScope s_is_name) .none kV272 dc273 pm274 an278 cd275 ct276), sl279⟩)
    (h281 : PySem.W.codeIn K cd275 "is_name" = true)
    (h282 : PySem.W.keepIn K (.ref f269) = true)
    (h285 : PySem.W.findIn K (.ref c24) "__init__" = some (some (.ref f283)))
    (h286 : PySem.W.findIn K (.ref c26) "__init__" = some (some (.ref f283)))
    (h296 : K.lookup f283 = some ⟨oc287, od293, .func (PySem.W.fnOf "__init__" "Column.__init__" (defArgs s_Column___init__) (defBody s_Column___init__) (defScope s_Column___init__) .none (.ref D284) dc289 pm290 an294 cd291 ct292), sl295⟩)
    (h297 : PySem.W.codeIn K cd291 "Column.__init__" = true)
    (h298 : PySem.W.keepIn K (.ref f283) = true)
    (h299 : PySem.W.nsIn K D284 "optional" = some (some (.bool false)))
    (h300 : PySem.W.isFn K (.ref f283) = true)
    (h302 : PySem.W.findIn K (.ref c28) "__init__" = some (some (.ref f301)))
    (h303 : PySem.W.isFn K (.ref f301) = true)
    (h314 : K.lookup f301 = some ⟨oc304, od309, .func (PySem.W.ksFn "__init__" "RefColumn.__init__" (defArgs s_RefColumn___init__) (defBody s_RefColumn___init__) (defScope s_RefColumn___init__) .none kV305 dc306 pm307 an310 (.ref ca313) ct308 cc312), sl311⟩)
    (h315 : PySem.W.codeIn K (.ref ca313) "RefColumn.__init__" = true)
    (h321 : K.lookup ca313 = some ⟨ol316, od318, .fields va317, sl319⟩)
    (h322 : va317[2]? = some (.str "/claim/cut.py" tf320))
    (h326 : K.lookup cc312 = some ⟨ol323, od324, .cell (some (.ref c28)), sl325⟩)
    (h327 : PySem.W.isClsIn K c28 = true)
    (h328 : PySem.W.keepIn K (.ref f301) = true)
    (h329 : PySem.W.ks_superIn K c28 c28 "__init__" = some (some (.ref f283)))
    (h330 : PySem.W.typeIn K (.ref f283) = some (.type "function"))
    (h331 : PySem.W.fnIn K f283 = true)
    (h332 : PySem.W.mroIn K c28 (.ref c28) = some true)
    (h334 : PySem.W.findIn K (.ref c24) "words" = some (some (.ref f333)))
    (h335 : PySem.W.findIn K (.ref c26) "words" = some (some (.ref f333)))
    (h345 : K.lookup f333 = some ⟨oc336, od342, .func (PySem.W.fnOf "words" "Column.words" (defArgs s_Column_words) (defBody s_Column_words) (defScope s_Column_words) .none kV337 dc338 pm339 an343 cd340 ct341), sl344⟩)
    (h346 : PySem.W.codeIn K cd340 "Column.words" = true)
    (h347 : PySem.W.keepIn K (.ref f333) = true)
    (h348 : PySem.W.isFn K (.ref f333) = true)
    (h350 : PySem.W.findIn K (.ref c28) "words" = some (some (.ref f349)))
    (h351 : PySem.W.isFn K (.ref f349) = true)
    (h362 : K.lookup f349 = some ⟨oc352, od357, .func (PySem.W.ksFn "words" "RefColumn.words" (defArgs s_RefColumn_words) (defBody s_RefColumn_words) (defScope s_RefColumn_words) .none kV353 dc354 pm355 an358 (.ref ca361) ct356 cc360), sl359⟩)
    (h363 : PySem.W.codeIn K (.ref ca361) "RefColumn.words" = true)
    (h369 : K.lookup ca361 = some ⟨ol364, od366, .fields va365, sl367⟩)
    (h370 : va365[2]? = some (.str "/claim/cut.py" tf368))
    (h374 : K.lookup cc360 = some ⟨ol371, od372, .cell (some (.ref c28)), sl373⟩)
    (h375 : PySem.W.isClsIn K c28 = true)
    (h376 : PySem.W.keepIn K (.ref f349) = true)
    (h377 : PySem.W.ks_superIn K c28 c28 "words" = some (some (.ref f333)))
    (h378 : PySem.W.typeIn K (.ref f333) = some (.type "function"))
    (h379 : PySem.W.fnIn K f333 = true)
    (h380 : PySem.W.mroIn K c28 (.ref c28) = some true)
    (h383 : PySem.W.findIn K (.ref c24) "text" = some (some (.ref p381)))
    (h384 : PySem.W.findIn K (.ref c26) "text" = some (some (.ref p381)))
    (h385 : PySem.W.findIn K (.ref c28) "text" = some (some (.ref p381)))
    (h386 : PySem.W.specialIn K (.ref p381) "__get__" = some (some (.builtin "property.__get__")))
    (h387 : PySem.W.takesIn K (.ref p381) = some true)
    (h389 : PySem.W.recIn K p381 "property" = some (.ref g382 :: rs388))
    (h399 : K.lookup g382 = some ⟨oc390, od396, .func (PySem.W.fnOf "text" "Column.text" (defArgs s_Column_text) (defBody s_Column_text) (defScope s_Column_text) .none kV391 dc392 pm393 an397 cd394 ct395), sl398⟩)
    (h400 : PySem.W.codeIn K cd394 "Column.text" = true)
    (h401 : PySem.W.keepIn K (.ref g382) = true)
    (h403 : PySem.W.nsIn K mainGlobals "parsed_column" = some (some (.ref f402)))
    (h413 : K.lookup f402 = some ⟨oc404, od410, .func (PySem.W.fnOf "parsed_column" "parsed_column" (defArgs s_parsed_column) (defBody s_parsed_column) (defScope s_parsed_column) .none kV405 dc406 pm407 an411 cd408 ct409), sl412⟩)
    (h414 : PySem.W.codeIn K cd408 "parsed_column" = true)
    (h415 : PySem.W.keepIn K (.ref f402) = true)
    (h418 : PySem.W.findCls K (.ref c22) (.type "type") "parse" = some (.get (.builtin "staticmethod.__get__") (.ref p416) .none (.ref c22)))
    (h420 : PySem.W.recIn K p416 "staticmethod" = some (.ref g417 :: rs419))
    (h421 : PySem.W.readsIn K c22 (.type "type") = true)
    (h422 : PySem.W.specialIn K (.ref c22) "__getattribute__" = some (some (.builtin "type.__getattribute__")))
    (h432 : K.lookup g417 = some ⟨oc423, od429, .func (PySem.W.fnOf "parse" "Column.parse" (defArgs s_Column_parse) (defBody s_Column_parse) (defScope s_Column_parse) .none kV424 dc425 pm426 an430 cd427 ct428), sl431⟩)
    (h433 : PySem.W.codeIn K cd427 "Column.parse" = true)
    (h434 : PySem.W.keepIn K (.ref g417) = true)
    (h437 : PySem.W.findIn K (.ref c24) "kind" = some (some (.ref p435)))
    (h438 : PySem.W.findIn K (.ref c26) "kind" = some (some (.ref p435)))
    (h439 : PySem.W.findIn K (.ref c28) "kind" = some (some (.ref p435)))
    (h440 : PySem.W.specialIn K (.ref p435) "__get__" = some (some (.builtin "property.__get__")))
    (h441 : PySem.W.takesIn K (.ref p435) = some true)
    (h443 : PySem.W.recIn K p435 "property" = some (.ref g436 :: rs442))
    (h453 : K.lookup g436 = some ⟨oc444, od450, .func (PySem.W.fnOf "kind" "Column.kind" (defArgs s_Column_kind) (defBody s_Column_kind) (defScope s_Column_kind) .none kV445 dc446 pm447 an451 cd448 ct449), sl452⟩)
    (h454 : PySem.W.codeIn K cd448 "Column.kind" = true)
    (h455 : PySem.W.keepIn K (.ref g436) = true)
    (h457 : PySem.W.findIn K (.ref c24) "EMPTY" = some (some (.int 0 t456)))
    (h458 : PySem.W.specialIn K (.int 0 t456) "__get__" = some none)
    (h459 : PySem.W.findIn K (.ref c24) "__class__" = some (some (.builtin "object.__class__")))
    (h460 : PySem.W.mroIn K c24 (.type "object") = some true)
    (h462 : PySem.W.findIn K (.ref c26) "EMPTY" = some (some (.str Str.empty t461)))
    (h463 : PySem.W.specialIn K (.str Str.empty t461) "__get__" = some none)
    (h464 : PySem.W.findIn K (.ref c26) "__class__" = some (some (.builtin "object.__class__")))
    (h465 : PySem.W.mroIn K c26 (.type "object") = some true)
    (h467 : PySem.W.findIn K (.ref c28) "EMPTY" = some (some (.int 0 t466)))
    (h468 : PySem.W.specialIn K (.int 0 t466) "__get__" = some none)
    (h469 : PySem.W.findIn K (.ref c28) "__class__" = some (some (.builtin "object.__class__")))
    (h470 : PySem.W.mroIn K c28 (.type "object") = some true)
    (h471 : colB K c22 [c24, c26, c28] = true)
    (h472 : anyB K c22 [c24, c26, c28] = true)
    (h475 : PySem.W.findIn K (.ref c24) "default" = some (some (.ref p473)))
    (h476 : PySem.W.findIn K (.ref c26) "default" = some (some (.ref p473)))
    (h477 : PySem.W.findIn K (.ref c28) "default" = some (some (.ref p473)))
    (h478 : PySem.W.specialIn K (.ref p473) "__get__" = some (some (.builtin "property.__get__")))
    (h479 : PySem.W.takesIn K (.ref p473) = some true)
    (h481 : PySem.W.recIn K p473 "property" = some (.ref g474 :: rs480))
    (h491 : K.lookup g474 = some ⟨oc482, od488, .func (PySem.W.fnOf "default" "Column.default" (defArgs s_Column_default) (defBody s_Column_default) (defScope s_Column_default) .none kV483 dc484 pm485 an489 cd486 ct487), sl490⟩)
    (h492 : PySem.W.codeIn K cd486 "Column.default" = true)
    (h493 : PySem.W.keepIn K (.ref g474) = true)
    (h495 : PySem.W.nsIn K mainGlobals "is_integer" = some (some (.ref f494)))
    (h505 : K.lookup f494 = some ⟨oc496, od502, .func (PySem.W.fnOf "is_integer" "is_integer" (defArgs s_is_integer) (defBody s_is_integer) (defScope s_is_integer) .none kV497 dc498 pm499 an503 cd500 ct501), sl504⟩)
    (h506 : PySem.W.codeIn K cd500 "is_integer" = true)
    (h507 : PySem.W.keepIn K (.ref f494) = true)
    (h509 : PySem.W.nsIn K mainGlobals "is_key" = some (some (.ref f508)))
    (h519 : K.lookup f508 = some ⟨oc510, od516, .func (PySem.W.fnOf "is_key" "is_key" (defArgs s_is_key) (defBody s_is_key) (defScope s_is_key) .none kV511 dc512 pm513 an517 cd514 ct515), sl518⟩)
    (h520 : PySem.W.codeIn K cd514 "is_key" = true)
    (h521 : PySem.W.keepIn K (.ref f508) = true)
    (h523 : PySem.W.nsIn K mainGlobals "is_text" = some (some (.ref f522)))
    (h533 : K.lookup f522 = some ⟨oc524, od530, .func (PySem.W.fnOf "is_text" "is_text" (defArgs s_is_text) (defBody s_is_text) (defScope s_is_text) .none kV525 dc526 pm527 an531 cd528 ct529), sl532⟩)
    (h534 : PySem.W.codeIn K cd528 "is_text" = true)
    (h535 : PySem.W.keepIn K (.ref f522) = true)
    (h537 : PySem.W.findIn K (.ref c22) "accepts" = some (some (.ref f536)))
    (h547 : K.lookup f536 = some ⟨oc538, od544, .func (PySem.W.fnOf "accepts" "Column.accepts" (defArgs s_Column_accepts) (defBody s_Column_accepts) (defScope s_Column_accepts) .none kV539 dc540 pm541 an545 cd542 ct543), sl546⟩)
    (h548 : PySem.W.codeIn K cd542 "Column.accepts" = true)
    (h549 : PySem.W.keepIn K (.ref f536) = true)
    (h551 : PySem.W.findIn K (.ref c24) "accepts" = some (some (.ref f550)))
    (h552 : PySem.W.isFn K (.ref f550) = true)
    (h563 : K.lookup f550 = some ⟨oc553, od558, .func (PySem.W.ksFn "accepts" "IntColumn.accepts" (defArgs s_IntColumn_accepts) (defBody s_IntColumn_accepts) (defScope s_IntColumn_accepts) .none kV554 dc555 pm556 an559 (.ref ca562) ct557 cc561), sl560⟩)
    (h564 : PySem.W.codeIn K (.ref ca562) "IntColumn.accepts" = true)
    (h570 : K.lookup ca562 = some ⟨ol565, od567, .fields va566, sl568⟩)
    (h571 : va566[2]? = some (.str "/claim/cut.py" tf569))
    (h575 : K.lookup cc561 = some ⟨ol572, od573, .cell (some (.ref c24)), sl574⟩)
    (h576 : PySem.W.isClsIn K c24 = true)
    (h577 : PySem.W.keepIn K (.ref f550) = true)
    (h578 : PySem.W.ks_superIn K c24 c24 "accepts" = some (some (.ref f536)))
    (h579 : PySem.W.typeIn K (.ref f536) = some (.type "function"))
    (h580 : PySem.W.fnIn K f536 = true)
    (h581 : PySem.W.mroIn K c24 (.ref c24) = some true)
    (h583 : PySem.W.findIn K (.ref c26) "accepts" = some (some (.ref f582)))
    (h584 : PySem.W.isFn K (.ref f582) = true)
    (h595 : K.lookup f582 = some ⟨oc585, od590, .func (PySem.W.ksFn "accepts" "TextColumn.accepts" (defArgs s_TextColumn_accepts) (defBody s_TextColumn_accepts) (defScope s_TextColumn_accepts) .none kV586 dc587 pm588 an591 (.ref ca594) ct589 cc593), sl592⟩)
    (h596 : PySem.W.codeIn K (.ref ca594) "TextColumn.accepts" = true)
    (h602 : K.lookup ca594 = some ⟨ol597, od599, .fields va598, sl600⟩)
    (h603 : va598[2]? = some (.str "/claim/cut.py" tf601))
    (h607 : K.lookup cc593 = some ⟨ol604, od605, .cell (some (.ref c26)), sl606⟩)
    (h608 : PySem.W.isClsIn K c26 = true)
    (h609 : PySem.W.keepIn K (.ref f582) = true)
    (h610 : PySem.W.ks_superIn K c26 c26 "accepts" = some (some (.ref f536)))
    (h611 : PySem.W.typeIn K (.ref f536) = some (.type "function"))
    (h612 : PySem.W.fnIn K f536 = true)
    (h613 : PySem.W.mroIn K c26 (.ref c26) = some true)
    (h615 : PySem.W.findIn K (.ref c28) "accepts" = some (some (.ref f614)))
    (h616 : PySem.W.isFn K (.ref f614) = true)
    (h627 : K.lookup f614 = some ⟨oc617, od622, .func (PySem.W.ksFn "accepts" "RefColumn.accepts" (defArgs s_RefColumn_accepts) (defBody s_RefColumn_accepts) (defScope s_RefColumn_accepts) .none kV618 dc619 pm620 an623 (.ref ca626) ct621 cc625), sl624⟩)
    (h628 : PySem.W.codeIn K (.ref ca626) "RefColumn.accepts" = true)
    (h634 : K.lookup ca626 = some ⟨ol629, od631, .fields va630, sl632⟩)
    (h635 : va630[2]? = some (.str "/claim/cut.py" tf633))
    (h639 : K.lookup cc625 = some ⟨ol636, od637, .cell (some (.ref c28)), sl638⟩)
    (h640 : PySem.W.isClsIn K c28 = true)
    (h641 : PySem.W.keepIn K (.ref f614) = true)
    (h642 : PySem.W.ks_superIn K c28 c28 "accepts" = some (some (.ref f536)))
    (h643 : PySem.W.typeIn K (.ref f536) = some (.type "function"))
    (h644 : PySem.W.fnIn K f536 = true)
    (h645 : PySem.W.mroIn K c28 (.ref c28) = some true)
    (h647 : PySem.W.findIn K (.ref c24) "__eq__" = some (some (.ref f646)))
    (h648 : PySem.W.findIn K (.ref c26) "__eq__" = some (some (.ref f646)))
    (h649 : PySem.W.findIn K (.ref c28) "__eq__" = some (some (.ref f646)))
    (h650 : PySem.W.isFn K (.ref f646) = true)
    (h660 : K.lookup f646 = some ⟨oc651, od657, .func (PySem.W.fnOf "__eq__" "Column.__eq__" (defArgs s_Column___eq__) (defBody s_Column___eq__) (defScope s_Column___eq__) .none kV652 dc653 pm654 an658 cd655 ct656), sl659⟩)
    (h661 : PySem.W.codeIn K cd655 "Column.__eq__" = true)
    (h662 : PySem.W.keepIn K (.ref f646) = true)
    (h664 : PySem.W.findCls K (.ref c22) (.type "type") "KINDS" = some (.val (.ref a663)))
    (h671 : K.lookup a663 = some ⟨.type "tuple", od668, .seq #[.str "int" t665, .str "text" t666, .str "ref" t667] n669, sl670⟩)
    (h673 : PySem.W.nsIn K mainGlobals "_law_begun" = some (some (.ref f672)))
    (h683 : K.lookup f672 = some ⟨oc674, od680, .func (PySem.W.fnOf "_law_begun" "_law_begun" (defArgs s__law_begun) (defBody s__law_begun) (defScope s__law_begun) .none kV675 dc676 pm677 an681 cd678 ct679), sl682⟩)
    (h684 : PySem.W.codeIn K cd678 "_law_begun" = true)
    (h685 : PySem.W.keepIn K (.ref f672) = true)
    (h687 : PySem.W.nsIn K mainGlobals "_law_draw" = some (some (.ref f686)))
    (h697 : K.lookup f686 = some ⟨oc688, od694, .func (PySem.W.fnOf "_law_draw" "_law_draw" (defArgs s__law_draw) (defBody s__law_draw) (defScope s__law_draw) .none kV689 dc690 pm691 an695 cd692 ct693), sl696⟩)
    (h698 : PySem.W.codeIn K cd692 "_law_draw" = true)
    (h699 : PySem.W.keepIn K (.ref f686) = true)
    (h701 : PySem.W.nsIn K mainGlobals "_law_pick" = some (some (.ref f700)))
    (h711 : K.lookup f700 = some ⟨oc702, od708, .func (PySem.W.fnOf "_law_pick" "_law_pick" (defArgs s__law_pick) (defBody s__law_pick) (defScope s__law_pick) .none kV703 dc704 pm705 an709 cd706 ct707), sl710⟩)
    (h712 : PySem.W.codeIn K cd706 "_law_pick" = true)
    (h713 : PySem.W.keepIn K (.ref f700) = true)
    (h715 : PySem.W.nsIn K mainGlobals "_law_names" = some (some (.ref f714)))
    (h725 : K.lookup f714 = some ⟨oc716, od722, .func (PySem.W.fnOf "_law_names" "_law_names" (defArgs s__law_names) (defBody s__law_names) (defScope s__law_names) .none kV717 dc718 pm719 an723 cd720 ct721), sl724⟩)
    (h726 : PySem.W.codeIn K cd720 "_law_names" = true)
    (h727 : PySem.W.keepIn K (.ref f714) = true)
    (h729 : PySem.W.nsIn K mainGlobals "_law_column" = some (some (.ref f728)))
    (h739 : K.lookup f728 = some ⟨oc730, od736, .func (PySem.W.fnOf "_law_column" "_law_column" (defArgs s__law_column) (defBody s__law_column) (defScope s__law_column) .none kV731 dc732 pm733 an737 cd734 ct735), sl738⟩)
    (h740 : PySem.W.codeIn K cd734 "_law_column" = true)
    (h741 : PySem.W.keepIn K (.ref f728) = true)
    (h743 : PySem.W.nsIn K mainGlobals "_law_column_text" = some (some (.ref f742)))
    (h753 : K.lookup f742 = some ⟨oc744, od750, .func (PySem.W.fnOf "_law_column_text" "_law_column_text" (defArgs s__law_column_text) (defBody s__law_column_text) (defScope s__law_column_text) .none kV745 dc746 pm747 an751 cd748 ct749), sl752⟩)
    (h754 : PySem.W.codeIn K cd748 "_law_column_text" = true)
    (h755 : PySem.W.keepIn K (.ref f742) = true)
    (h757 : PySem.W.nsIn K mainGlobals "_law_made" = some (some (.ref f756)))
    (h767 : K.lookup f756 = some ⟨oc758, od764, .func (PySem.W.fnOf "_law_made" "_law_made" (defArgs s__law_made) (defBody s__law_made) (defScope s__law_made) .none kV759 dc760 pm761 an765 cd762 ct763), sl766⟩)
    (h768 : PySem.W.codeIn K cd762 "_law_made" = true)
    (h769 : PySem.W.keepIn K (.ref f756) = true)
    (h771 : PySem.W.nsIn K mainGlobals "_law_accepts" = some (some (.ref f770)))
    (h781 : K.lookup f770 = some ⟨oc772, od778, .func (PySem.W.fnOf "_law_accepts" "_law_accepts" (defArgs s__law_accepts) (defBody s__law_accepts) (defScope s__law_accepts) .none kV773 dc774 pm775 an779 cd776 ct777), sl780⟩)
    (h782 : PySem.W.codeIn K cd776 "_law_accepts" = true)
    (h783 : PySem.W.keepIn K (.ref f770) = true)
    (h785 : PySem.W.nsIn K mainGlobals "_law_value" = some (some (.ref f784)))
    (h795 : K.lookup f784 = some ⟨oc786, od792, .func (PySem.W.fnOf "_law_value" "_law_value" (defArgs s__law_value) (defBody s__law_value) (defScope s__law_value) .none kV787 dc788 pm789 an793 cd790 ct791), sl794⟩)
    (h796 : PySem.W.codeIn K cd790 "_law_value" = true)
    (h797 : PySem.W.keepIn K (.ref f784) = true)
    (h799 : PySem.W.nsIn K mainGlobals "_law_is_name" = some (some (.ref f798)))
    (h809 : K.lookup f798 = some ⟨oc800, od806, .func (PySem.W.fnOf "_law_is_name" "_law_is_name" (defArgs s__law_is_name) (defBody s__law_is_name) (defScope s__law_is_name) .none kV801 dc802 pm803 an807 cd804 ct805), sl808⟩)
    (h810 : PySem.W.codeIn K cd804 "_law_is_name" = true)
    (h811 : PySem.W.keepIn K (.ref f798) = true)
    (h813 : PySem.W.nsIn K mainGlobals "_law_due" = some (some (.ref f812)))
    (h823 : K.lookup f812 = some ⟨oc814, od820, .func (PySem.W.fnOf "_law_due" "_law_due" (defArgs s__law_due) (defBody s__law_due) (defScope s__law_due) .none kV815 dc816 pm817 an821 cd818 ct819), sl822⟩)
    (h824 : PySem.W.codeIn K cd818 "_law_due" = true)
    (h825 : PySem.W.keepIn K (.ref f812) = true)
    (h827 : PySem.W.nsIn K mainGlobals "_law_tried" = some (some (.ref f826)))
    (h837 : K.lookup f826 = some ⟨oc828, od834, .func (PySem.W.fnOf "_law_tried" "_law_tried" (defArgs s__law_tried) (defBody s__law_tried) (defScope s__law_tried) .none kV829 dc830 pm831 an835 cd832 ct833), sl836⟩)
    (h838 : PySem.W.codeIn K cd832 "_law_tried" = true)
    (h839 : PySem.W.keepIn K (.ref f826) = true)
    (h841 : PySem.W.nsIn K mainGlobals "_law_refused" = some (some (.ref f840)))
    (h851 : K.lookup f840 = some ⟨oc842, od848, .func (PySem.W.fnOf "_law_refused" "_law_refused" (defArgs s__law_refused) (defBody s__law_refused) (defScope s__law_refused) .none kV843 dc844 pm845 an849 (.ref ca854) ct847), sl850⟩)
    (h852 : PySem.W.codeIn K (.ref ca854) "_law_refused" = true)
    (h853 : PySem.W.keepIn K (.ref f840) = true)
    (h860 : K.lookup ca854 = some ⟨kc856, kd857, .fields vs859, ks858⟩)
    (h861 : (vs859[11]? : Option Value) = some (.ref pt855))
    (h862 : K.lookup pt855 = none)
    (h864 : PySem.W.nsIn K mainGlobals "law" = some (some (.ref f863)))
    (h874 : K.lookup f863 = some ⟨oc865, od871, .func (PySem.W.fnOf "law" "law" (defArgs s_law) (defBody s_law) (defScope s_law) .none kV866 dc867 pm868 an872 cd869 ct870), sl873⟩)
    (h875 : PySem.W.codeIn K cd869 "law" = true)
    (h876 : PySem.W.keepIn K (.ref f863) = true) :
    ∃ (fd : FuncData) (cds : List (Addr × Addr)) (sp : Sp), (∀ p ∈ cds, PySem.W.CodeHd h p.1 p.2 ∧ h.get? p.2 = some { cls := .none, data := .fields #[] }) ∧ (∀ p ∈ cds, K.lookup p.2 = none) ∧ (∀ (s : Shared) (v : Value), BindsTo s fd ⟨[v], []⟩ [("_law_script", v)]) ∧ (∀ (H : Hp) (a : Addr) (ns : List Int), ns.length ≤ 63 → (∀ p ∈ cds, H p.2 = some (.tbl #[])) → SqL K H a (ns.map V.int) → sp [.ref a] H (fun v _ => v = .bl true) fun _ _ _ => False) ∧ ∀ base : Heap, K.In base → base.Ns mainGlobals mg → (∀ p ∈ cds, LamX.TabB base mg p.1 p.2) → FnG P wo K mg base (L2.CX P wo) 12 fa fd ["_law_script"] sp := by
  have e := hfa.symm.trans (PySem.W.mg_of X G h864)
  cases e
  refine ⟨(PySem.W.fnOf "law" "law" (defArgs s_law) (defBody s_law) (defScope s_law) .none kV866 dc867 pm868 an872 cd869 ct870), ([(ca854, pt855)] : List (Addr × Addr)), spLaw K ([(pt855, (("_law_refused" : Str) ++ ".<locals>.") ++ "<lambda>")] : List (Addr × Str)), fun p hp => ?_, fun p hp => ?_, fun s v => .of_eq rfl, fun H a ns _ hH hS => ⟨a, ns, rfl, hS, tabs_nil fun p hp => ?_, fun _ => rfl⟩, fun base _ _ htb => ?_⟩
  · rw [List.mem_singleton] at hp
    subst hp
    exact tabs _ _ _ r2 (tab_mk h841 h851 rfl h860 h861)
  · rw [List.mem_singleton] at hp
    subst hp
    exact h862
  · rw [List.mem_singleton] at hp
    subst hp
    exact hH (ca854, pt855) (by simp)
  have hany := h1
  let A : Ad := ⟨c14, c16, c18, c20, c22, c24, c26, c28, a34, a45⟩
  have T : Txt K mg A := ⟨PySem.W.mg_none_of X G h2, PySem.W.mg_none_of X G h3, PySem.W.mg_none_of X G h4, PySem.W.mg_none_of X G h5, PySem.W.mg_none_of X G h6, PySem.W.mg_none_of X G h7, PySem.W.mg_none_of X G h8, PySem.W.mg_none_of X G h9, PySem.W.mg_none_of X G h10, PySem.W.mg_none_of X G h11, PySem.W.mg_none_of X G h12, PySem.W.mg_none_of X G h13, ⟨_, PySem.W.mg_of X G h15, rfl⟩, ⟨_, PySem.W.mg_of X G h17, rfl⟩, ⟨_, PySem.W.mg_of X G h19, rfl⟩, ⟨_, PySem.W.mg_of X G h21, rfl⟩, ⟨_, PySem.W.mg_of X G h23, rfl⟩, ⟨_, PySem.W.mg_of X G h25, rfl⟩, ⟨_, PySem.W.mg_of X G h27, rfl⟩, ⟨_, PySem.W.mg_of X G h29, rfl⟩, ⟨_, PySem.W.mg_of X G h31, ⟨_, rfl⟩⟩, ⟨_, PySem.W.mg_of X G h33, ⟨_, rfl⟩⟩, ⟨_, PySem.W.mg_of X G h35, rfl⟩, (fun H => Or.inr ⟨_, _, _, h44, rfl, rfl, by rw [sizeLine_eq]; show 5 ≤ 16777216; decide, .cons ⟨_, rfl⟩ (.cons ⟨_, rfl⟩ (.cons ⟨_, rfl⟩ (.cons ⟨_, rfl⟩ (.cons ⟨_, rfl⟩ (.nil)))))⟩), ⟨_, PySem.W.mg_of X G h46, rfl⟩, (fun H => Or.inr ⟨_, _, _, h53, rfl, rfl, by rw [sizeLine_eq]; show 3 ≤ 16777216; decide, .cons ⟨_, rfl⟩ (.cons ⟨_, rfl⟩ (.cons ⟨_, rfl⟩ (.nil)))⟩)⟩
  have U : SupTop P mg := ⟨T.nb_super, htop⟩
  have CF : ColF K A := ⟨(fun k => match k with | .int => ⟨h54, h55, h56, h57⟩ | .text => ⟨h65, h66, h67, h68⟩ | .ref => ⟨h76, h77, h78, h79⟩), (fun k => match k with | .int => h60 | .text => h71 | .ref => h82), (fun k => match k with | .int => h61 | .text => h72 | .ref => h83), h87, h88, (fun k => match k with | .int => ⟨_, h63, ⟨_, rfl⟩, h64, by decide +kernel⟩ | .text => ⟨_, h74, ⟨_, rfl⟩, h75, by decide +kernel⟩ | .ref => ⟨_, h85, ⟨_, rfl⟩, h86, by decide +kernel⟩)⟩
  have O_InvalidName : OexC K c16 := ⟨⟨_, _, _, _, _, _, _, _, _, _, _, _, _, _, _, h104, h105⟩, h106, h107, h108, h109⟩
  have S_InvalidName___init__ : FunS P K "__init__" "InvalidName.__init__" s_InvalidName___init__ f110 cc121 c16 ca122 _ := ⟨⟨_, _, _, _, _, _, _, _, _, rfl, h123⟩, h124, ⟨_, _, _, _, _, _, h130, h131, hfile⟩, ⟨_, _, _, h135⟩, Option.isSome_iff_exists.mp h136, h137⟩
  have M_InvalidName : SupE K c16 c16 := ⟨O_InvalidName, hany, h138, h139, h140⟩
  have E_InvalidName := @ok_exc1 P wo K mg base _ _ "name" _ _ _ _ _ _ _ _ _ _ _ _ _ _ _ _ _ S_InvalidName___init__ U M_InvalidName h141 ⟨rfl, rfl, rfl, by decide +kernel, rfl, by decide +kernel, by decide +kernel, by decide +kernel⟩ rfl rfl ⟨_, rfl, rfl, rfl⟩ rfl (fun _ => ⟨_, rfl⟩)
  have X_InvalidName : Exc1 P wo K mg base "InvalidName" c16 "name" := ⟨O_InvalidName, PySem.W.mg_of X G h17, f110, h111, h112, (cal0 E_InvalidName (bindsup2 fun _ _ => rfl) rfl).imp fun _ _ _ _ _ h => h⟩
  have O_InvalidColumn : OexC K c18 := ⟨⟨_, _, _, _, _, _, _, _, _, _, _, _, _, _, _, h158, h159⟩, h160, h161, h162, h163⟩
  have S_InvalidColumn___init__ : FunS P K "__init__" "InvalidColumn.__init__" s_InvalidColumn___init__ f164 cc175 c18 ca176 _ := ⟨⟨_, _, _, _, _, _, _, _, _, rfl, h177⟩, h178, ⟨_, _, _, _, _, _, h184, h185, hfile⟩, ⟨_, _, _, h189⟩, Option.isSome_iff_exists.mp h190, h191⟩
  have M_InvalidColumn : SupE K c18 c18 := ⟨O_InvalidColumn, hany, h192, h193, h194⟩
  have E_InvalidColumn := @ok_exc1 P wo K mg base _ _ "name" _ _ _ _ _ _ _ _ _ _ _ _ _ _ _ _ _ S_InvalidColumn___init__ U M_InvalidColumn h195 ⟨rfl, rfl, rfl, by decide +kernel, rfl, by decide +kernel, by decide +kernel, by decide +kernel⟩ rfl rfl ⟨_, rfl, rfl, rfl⟩ rfl (fun _ => ⟨_, rfl⟩)
  have X_InvalidColumn : Exc1 P wo K mg base "InvalidColumn" c18 "name" := ⟨O_InvalidColumn, PySem.W.mg_of X G h19, f164, h165, h166, (cal0 E_InvalidColumn (bindsup2 fun _ _ => rfl) rfl).imp fun _ _ _ _ _ h => h⟩
  have O_InvalidText : OexC K c20 := ⟨⟨_, _, _, _, _, _, _, _, _, _, _, _, _, _, _, h212, h213⟩, h214, h215, h216, h217⟩
  have S_InvalidText___init__ : FunS P K "__init__" "InvalidText.__init__" s_InvalidText___init__ f218 cc229 c20 ca230 _ := ⟨⟨_, _, _, _, _, _, _, _, _, rfl, h231⟩, h232, ⟨_, _, _, _, _, _, h238, h239, hfile⟩, ⟨_, _, _, h243⟩, Option.isSome_iff_exists.mp h244, h245⟩
  have M_InvalidText : SupE K c20 c20 := ⟨O_InvalidText, hany, h246, h247, h248⟩
  have E_InvalidText := @ok_exc1 P wo K mg base _ _ "line" _ _ _ _ _ _ _ _ _ _ _ _ _ _ _ _ _ S_InvalidText___init__ U M_InvalidText h249 ⟨rfl, rfl, rfl, by decide +kernel, rfl, by decide +kernel, by decide +kernel, by decide +kernel⟩ rfl rfl ⟨_, rfl, rfl, rfl⟩ rfl (fun _ => ⟨_, rfl⟩)
  have X_InvalidText : Exc1 P wo K mg base "InvalidText" c20 "line" := ⟨O_InvalidText, PySem.W.mg_of X G h21, f218, h219, h220, (cal0 E_InvalidText (bindsup2 fun _ _ => rfl) rfl).imp fun _ _ _ _ _ h => h⟩
  have EF : ExF K A := ⟨exm2 (PySem.W.exm_ref h161 h196 h162 h254) (PySem.W.exm_ref h107 h142 h108 h255), exm2 (PySem.W.exm_ref h161 h196 h162 h256) (PySem.W.exm_ref h107 h142 h108 h257)⟩
  have TR : TrF K A := trF_of (A := A) h268 (two2 (⟨h260, h261, h107, h142, h262, h258, h259, h263⟩) (⟨h264, h265, h161, h196, h266, h258, h259, h267⟩)) (two2 (⟨h260, h261, h107, h142⟩) (⟨h264, h265, h161, h196⟩))
  have TY : TyF K := ⟨kit_ty (by decide +kernel), kit_ty (by decide +kernel), kit_ty (by decide +kernel), kit_ty (by decide +kernel), kit_ty (by decide +kernel), kit_ty (by decide +kernel), kit_ty (by decide +kernel), kit_ty (by decide +kernel), kit_ty (by decide +kernel)⟩
  have F_is_name := fun_mk (st := s_is_name) h280 h281 h282
  have O_is_name := ok_is_name (P := P) (wo := wo) (base := base) F_is_name T
  have Gn : GFn P wo K mg base _ "is_name" _ _ _ := ⟨f269, PySem.W.mg_of X G h270, h282, cal0 O_is_name (F_is_name.binds (ps := ["value"]) fun _ _ _ _ _ _ us hl => match us, hl with | [_], _ => rfl) rfl⟩
  have F_ci : FunD K "__init__" "Column.__init__" (defArgs s_Column___init__) (defBody s_Column___init__) (defScope s_Column___init__) [] [("optional", .bl false)] f283 _ := ⟨⟨_, _, _, _, _, _, _, _, _, _, rfl, h296, h297, .inl ⟨rfl, rfl⟩, .inr ⟨_, rfl, fun q hq => by rw [List.mem_singleton] at hq; subst hq; exact ⟨_, h299, rfl⟩⟩⟩, h298⟩
  have O_ci := ok_col_init (P := P) (wo := wo) (base := base) F_ci T Gn X_InvalidName
  obtain ⟨mv, hb⟩ := F_ci.kbinds0 (ps := ["self", "name", "optional"]) 2 ["optional"] [] (fun us _ ws => us ++ ws) (by simp) (by simp) (fun r _ rz => r.append rz) (fun _ _ _ _ _ _ us mv ws l1 l2 l3 => match us, ws, mv, l1, l2, l3 with | [_, _], [_], [], _, _, _ => rfl)
  have C_init : Cal P wo K mg base 3 f283 2 ["optional"] (fun vs zs => spColInit K A (vs ++ zs)) := calK O_ci hb
  have S_RefColumn___init__ : FunS P K "__init__" "RefColumn.__init__" s_RefColumn___init__ f301 cc312 c28 ca313 _ := ⟨⟨_, _, _, _, _, _, _, _, _, rfl, h314⟩, h315, ⟨_, _, _, _, _, _, h321, h322, hfile⟩, ⟨_, _, _, h326⟩, Option.isSome_iff_exists.mp h327, h328⟩
  have O_ri := ok_ref_init S_RefColumn___init__ U T CF Gn X_InvalidName X_InvalidColumn (⟨hany, h329, h330, h331, h332, by decide +kernel⟩ : SupM K c28 c28 "__init__" f283) C_init
  have C_ri : Cal P wo K mg base 4 f301 3 ["optional", "rule"] (fun vs zs => spRefInit K A (vs ++ zs)) := calK O_ri ⟨fun s us ws X l1 l2 => BindsTo.of_looks fun M => PySem.W.Looks.of_pure (match us, ws, l1, l2 with | [_, _, _], [_, _], _, _ => rfl), fun r rz => r.append rz⟩
  have MR : GMk P wo K mg base 4 "RefColumn" A.RefColumn 2 ["optional", "rule"] (fun vs zs => spRefInit K A (vs ++ zs)) := ⟨PySem.W.mg_of X G h29, f301, ⟨h80, h302, h303, h81⟩, C_ri⟩
  have MI : GMk P wo K mg base 4 "IntColumn" A.IntColumn 1 ["optional"] (fun vs zs => spColInit K A (vs ++ zs)) := ⟨PySem.W.mg_of X G h25, f283, ⟨h58, h285, h300, h59⟩, C_init.mono (by decide)⟩
  have MT : GMk P wo K mg base 4 "TextColumn" A.TextColumn 1 ["optional"] (fun vs zs => spColInit K A (vs ++ zs)) := ⟨PySem.W.mg_of X G h27, f283, ⟨h69, h286, h300, h70⟩, C_init.mono (by decide)⟩
  have F_w := fun_mk (st := s_Column_words) h345 h346 h347
  have O_w := ok_words0 (P := P) (wo := wo) (base := base) F_w T CF
  have C_words : Cal P wo K mg base 1 f333 1 [] (fun vs _ => spWords0 A vs) := cal0 O_w (F_w.binds (ps := ["self"]) fun _ _ _ _ _ _ us hl => match us, hl with | [_], _ => rfl) rfl
  have S_RefColumn_words : FunS P K "words" "RefColumn.words" s_RefColumn_words f349 cc360 c28 ca361 _ := ⟨⟨_, _, _, _, _, _, _, _, _, rfl, h362⟩, h363, ⟨_, _, _, _, _, _, h369, h370, hfile⟩, ⟨_, _, _, h374⟩, Option.isSome_iff_exists.mp h375, h376⟩
  have O_rw := ok_ref_words S_RefColumn_words U T CF (⟨hany, h377, h378, h379, h380, by decide +kernel⟩ : SupM K c28 c28 "words" f333) C_words
  have C_rw := cal0 O_rw (bindsup1 fun _ => rfl) rfl
  have MW : ∀ k, GMt P wo K mg base 2 (kcls A k) "words" 0 [] (fun vs _ H Q E => ∃ G R x c, vs = [.ref x] ∧ Wd G R H ∧ ColAt A G x c ∧ c.k = k ∧ ∀ p H', G p = none → Wd (upd G p (.lst (c.words.map V.str))) R H' → Q (.ref p) H') := fun k => by
    cases k with
    | ref => exact ⟨CF.cls .ref, f349, ⟨h350, h351, h376⟩, C_rw⟩
    | int => exact ⟨CF.cls .int, f333, ⟨h334, h348, h347⟩, (C_words.mono (by decide)).imp fun _ _ _ _ _ h => by
        obtain ⟨G, R, x, c, e, w, hc, ck, q⟩ := h
        exact ⟨G, R, x, c, e, w, hc, by rw [words_not (by rw [ck]; exact fun z => nomatch z)] at q; exact q⟩⟩
    | text => exact ⟨CF.cls .text, f333, ⟨h335, h348, h347⟩, (C_words.mono (by decide)).imp fun _ _ _ _ _ h => by
        obtain ⟨G, R, x, c, e, w, hc, ck, q⟩ := h
        exact ⟨G, R, x, c, e, w, hc, by rw [words_not (by rw [ck]; exact fun z => nomatch z)] at q; exact q⟩⟩
  have F_t := fun_mk (st := s_Column_text) h399 h400 h401
  have O_t := ok_text F_t T MW
  have GT : ∀ k, GPr P wo K mg base 3 (kcls A k) "text" (fun vs _ => spText A vs) := fun k => ⟨CF.cls k, p381, g382, ⟨(match k with | .int => h383 | .text => h384 | .ref => h385), h386, h387, ⟨_, h389⟩⟩, cal0 O_t (F_t.binds (ps := ["self"]) fun _ _ _ _ _ _ us hl => match us, hl with | [_], _ => rfl) rfl⟩
  have F_parsed_column := fun_mk (st := s_parsed_column) h413 h414 h415
  have O_parsed_column := ok_parsed F_parsed_column T CF EF MR MI MT
  have Gpc : GFn P wo K mg base _ "parsed_column" _ _ _ := ⟨f402, PySem.W.mg_of X G h403, h415, cal0 O_parsed_column (F_parsed_column.binds (ps := ["words"]) fun _ _ _ _ _ _ us hl => match us, hl with | [_], _ => rfl) rfl⟩
  have F_p := fun_mk (st := s_Column_parse) h432 h433 h434
  have O_p := ok_parse F_p T CF Gpc GT X_InvalidText
  have Gpar : GSt P wo K mg base 7 "Column" "parse" 1 [] (fun vs _ => spParse K A vs) := ⟨c22, _, p416, g417, PySem.W.mg_of X G h23, ⟨h421, h422⟩, ⟨h418, ⟨_, h420⟩, h434⟩, cal0 O_p (F_p.binds (ps := ["text"]) fun _ _ _ _ _ _ us hl => match us, hl with | [_], _ => rfl) rfl⟩
  have F_kind := fun_mk (st := s_Column_kind) h453 h454 h455
  have O_kind := ok_kind (P := P) (wo := wo) (base := base) (mg := mg) F_kind CF
  have GK : ∀ k, GPr P wo K mg base 1 (kcls A k) "kind" (fun vs _ => spKind A vs) := fun k => ⟨CF.cls k, p435, g436, ⟨(match k with | .int => h437 | .text => h438 | .ref => h439), h440, h441, ⟨_, h443⟩⟩, cal0 O_kind (F_kind.binds (ps := ["self"]) fun _ _ _ _ _ _ us hl => match us, hl with | [_], _ => rfl) rfl⟩
  have CB := colB_of (A := A) h471
  have CG : ColG K A := ⟨(fun k => match k with | .int => ⟨_, h457, ⟨_, rfl⟩, h458, by decide +kernel⟩ | .text => ⟨_, h462, ⟨_, rfl⟩, h463, by decide +kernel⟩ | .ref => ⟨_, h467, ⟨_, rfl⟩, h468, by decide +kernel⟩), (fun k => match k with | .int => h459 | .text => h464 | .ref => h469), h258, h259, (fun k => match k with | .int => h460 | .text => h465 | .ref => h470), CB.1, fun k j => (CB.2 k j).1, fun k j => (CB.2 k j).2⟩
  have AF : AnyF K A := anyF_of h472 fun t ht => by
    simp only [List.mem_cons, List.not_mem_nil, or_false] at ht
    rcases ht with rfl | rfl | rfl <;> exact ⟨kit_ty (by decide +kernel), kit_ty (by decide +kernel)⟩
  have F_dflt := fun_mk (st := s_Column_default) h491 h492 h493
  have O_dflt := ok_default (P := P) (wo := wo) (base := base) F_dflt T CF CG
  have GD : ∀ k, GPr P wo K mg base 1 (kcls A k) "default" (fun vs _ => spDefault A vs) := fun k => ⟨CF.cls k, p473, g474, ⟨(match k with | .int => h475 | .text => h476 | .ref => h477), h478, h479, ⟨_, h481⟩⟩, cal0 O_dflt (F_dflt.binds (ps := ["self"]) fun _ _ _ _ _ _ us hl => match us, hl with | [_], _ => rfl) rfl⟩
  have F_is_integer := fun_mk (st := s_is_integer) h505 h506 h507
  have O_is_integer := ok_is_int (P := P) (wo := wo) (base := base) F_is_integer T TY
  have Gii : GFn P wo K mg base _ "is_integer" _ _ _ := ⟨f494, PySem.W.mg_of X G h495, h507, cal0 O_is_integer (F_is_integer.binds (ps := ["value"]) fun _ _ _ _ _ _ us hl => match us, hl with | [_], _ => rfl) rfl⟩
  have F_is_key := fun_mk (st := s_is_key) h519 h520 h521
  have O_is_key := ok_is_key F_is_key T Gii
  have Gik : GFn P wo K mg base _ "is_key" _ _ _ := ⟨f508, PySem.W.mg_of X G h509, h521, cal0 O_is_key (F_is_key.binds (ps := ["value"]) fun _ _ _ _ _ _ us hl => match us, hl with | [_], _ => rfl) rfl⟩
  have F_is_text := fun_mk (st := s_is_text) h533 h534 h535
  have O_is_text := ok_is_text (P := P) (wo := wo) (base := base) F_is_text T TY
  have Git : GFn P wo K mg base _ "is_text" _ _ _ := ⟨f522, PySem.W.mg_of X G h523, h535, cal0 O_is_text (F_is_text.binds (ps := ["value"]) fun _ _ _ _ _ _ us hl => match us, hl with | [_], _ => rfl) rfl⟩
  have F_ac := fun_mk (st := s_Column_accepts) h547 h548 h549
  have O_ac := ok_acc0 (P := P) (wo := wo) (base := base) F_ac T CF
  have C_ac : Cal P wo K mg base 1 f536 2 [] (fun vs _ => spAcc0 K A vs) := cal0 O_ac (F_ac.binds (ps := ["self", "value"]) fun _ _ _ _ _ _ us hl => match us, hl with | [_, _], _ => rfl) rfl
  have S_IntColumn_accepts : FunS P K "accepts" "IntColumn.accepts" s_IntColumn_accepts f550 cc561 c24 ca562 _ := ⟨⟨_, _, _, _, _, _, _, _, _, rfl, h563⟩, h564, ⟨_, _, _, _, _, _, h570, h571, hfile⟩, ⟨_, _, _, h575⟩, Option.isSome_iff_exists.mp h576, h577⟩
  have O_ac_IntColumn := ok_iacc S_IntColumn_accepts U T Gii (⟨hany, h578, h579, h580, h581, by decide +kernel⟩ : SupM K c24 c24 "accepts" f536) C_ac
  have S_TextColumn_accepts : FunS P K "accepts" "TextColumn.accepts" s_TextColumn_accepts f582 cc593 c26 ca594 _ := ⟨⟨_, _, _, _, _, _, _, _, _, rfl, h595⟩, h596, ⟨_, _, _, _, _, _, h602, h603, hfile⟩, ⟨_, _, _, h607⟩, Option.isSome_iff_exists.mp h608, h609⟩
  have O_ac_TextColumn := ok_tacc S_TextColumn_accepts U T Git (⟨hany, h610, h611, h612, h613, by decide +kernel⟩ : SupM K c26 c26 "accepts" f536) C_ac
  have S_RefColumn_accepts : FunS P K "accepts" "RefColumn.accepts" s_RefColumn_accepts f614 cc625 c28 ca626 _ := ⟨⟨_, _, _, _, _, _, _, _, _, rfl, h627⟩, h628, ⟨_, _, _, _, _, _, h634, h635, hfile⟩, ⟨_, _, _, h639⟩, Option.isSome_iff_exists.mp h640, h641⟩
  have O_ac_RefColumn := ok_racc S_RefColumn_accepts U T Gik (⟨hany, h642, h643, h644, h645, by decide +kernel⟩ : SupM K c28 c28 "accepts" f536) C_ac
  have GA : ∀ k, GMt P wo K mg base 3 (kcls A k) "accepts" 1 [] (fun vs _ => spAcc K A k vs) := fun k => match k with
    | .int => ⟨CF.cls .int, f550, ⟨h551, h552, h577⟩, cal0 O_ac_IntColumn (bindsup2 fun _ _ => rfl) rfl⟩
    | .text => ⟨CF.cls .text, f582, ⟨h583, h584, h609⟩, cal0 O_ac_TextColumn (bindsup2 fun _ _ => rfl) rfl⟩
    | .ref => ⟨CF.cls .ref, f614, ⟨h615, h616, h641⟩, cal0 O_ac_RefColumn (bindsup2 fun _ _ => rfl) rfl⟩
  have F_eq := fun_mk (st := s_Column___eq__) h660 h661 h662
  have O_eq := ok_ceq F_eq T CF CG GT
  have GE : ∀ k, GMt P wo K mg base 5 (kcls A k) "__eq__" 1 [] (fun vs _ => spCEq K A vs) := fun k => ⟨CF.cls k, f646, ⟨(match k with | .int => h647 | .text => h648 | .ref => h649), h650, h662⟩, cal0 O_eq (F_eq.binds (ps := ["self", "other"]) fun _ _ _ _ _ _ us hl => match us, hl with | [_, _], _ => rfl) rfl⟩
  have KI : ∃ mc kt u, ClX.CRead K A.Column mc ∧ ClX.CVal K A.Column mc "KINDS" (.ref kt) u ∧ ∀ H, SqT K H kt [.str "int", .str "text", .str "ref"] := ⟨_, a663, _, ⟨h421, h422⟩, ⟨h664, rfl⟩, fun H => Or.inr ⟨_, _, _, h671, rfl, rfl, by rw [sizeLine_eq]; show 3 ≤ 16777216; decide, .cons ⟨_, rfl⟩ (.cons ⟨_, rfl⟩ (.cons ⟨_, rfl⟩ .nil))⟩⟩
  obtain ⟨mv0, hb0⟩ := F_ci.kbinds0 (ps := ["self", "name", "optional"]) 2 [] [("optional", V.bl false)] (fun us mv ws => us ++ (mv ++ ws)) (by simp) (by simp) (fun r rm rz => r.append (rm.append rz)) (fun _ _ _ _ _ _ us mv ws l1 l2 l3 => match us, mv, ws, l1, l2, l3 with | [_, _], [_], [], _, _, _ => ⟨_, _, _, _, _, _, rfl, rfl, rfl⟩)
  have C_init0 : Cal P wo K mg base 3 f283 2 [] (fun vs zs => spColInit K A (vs ++ ([.bl false] ++ zs))) := calK O_ci hb0
  have MT0 : GMk P wo K mg base 4 "TextColumn" A.TextColumn 1 [] (fun vs zs => spColInit K A (vs ++ ([.bl false] ++ zs))) := ⟨PySem.W.mg_of X G h27, f283, ⟨h69, h286, h300, h70⟩, C_init0.mono (by decide)⟩
  have F__law_begun := fun_mk (st := s__law_begun) h683 h684 h685
  have O__law_begun := ok_begun (P := P) (wo := wo) (base := base) F__law_begun T
  have Gb : GFn P wo K mg base _ "_law_begun" _ _ _ := ⟨f672, PySem.W.mg_of X G h673, h685, cal0 O__law_begun (F__law_begun.binds (ps := ["_law_script"]) fun _ _ _ _ _ _ us hl => match us, hl with | [_], _ => rfl) rfl⟩
  have F__law_draw := fun_mk (st := s__law_draw) h697 h698 h699
  have O__law_draw := ok_draw (P := P) (wo := wo) (base := base) F__law_draw T
  have Gd : GFn P wo K mg base _ "_law_draw" _ _ _ := ⟨f686, PySem.W.mg_of X G h687, h699, cal0 O__law_draw (F__law_draw.binds (ps := ["_law_state", "_law_bound"]) fun _ _ _ _ _ _ us hl => match us, hl with | [_, _], _ => rfl) rfl⟩
  have F__law_pick := fun_mk (st := s__law_pick) h711 h712 h713
  have O__law_pick := ok_pick F__law_pick T Gd
  have Gp : GFn P wo K mg base _ "_law_pick" _ _ _ := ⟨f700, PySem.W.mg_of X G h701, h713, cal0 O__law_pick (F__law_pick.binds (ps := ["_law_state", "_law_some"]) fun _ _ _ _ _ _ us hl => match us, hl with | [_, _], _ => rfl) rfl⟩
  have F__law_names := fun_mk (st := s__law_names) h725 h726 h727
  have O__law_names := ok_names F__law_names T Gd Gp
  have Gns : GFn P wo K mg base _ "_law_names" _ _ _ := ⟨f714, PySem.W.mg_of X G h715, h727, cal0 O__law_names (F__law_names.binds (ps := ["_law_state", "_law_count"]) fun _ _ _ _ _ _ us hl => match us, hl with | [_, _], _ => rfl) rfl⟩
  have F__law_column := fun_mk (st := s__law_column) h739 h740 h741
  have O__law_column := ok_column F__law_column T Gd Gp
  have Glc : GFn P wo K mg base _ "_law_column" _ _ _ := ⟨f728, PySem.W.mg_of X G h729, h741, cal0 O__law_column (F__law_column.binds (ps := ["_law_state", "_law_tables", "_law_name"]) fun _ _ _ _ _ _ us hl => match us, hl with | [_, _, _], _ => rfl) rfl⟩
  have F__law_column_text := fun_mk (st := s__law_column_text) h753 h754 h755
  have O__law_column_text := ok_column_text (P := P) (wo := wo) (base := base) F__law_column_text T
  have Glct : GFn P wo K mg base _ "_law_column_text" _ _ _ := ⟨f742, PySem.W.mg_of X G h743, h755, cal0 O__law_column_text (F__law_column_text.binds (ps := ["_law_column_here"]) fun _ _ _ _ _ _ us hl => match us, hl with | [_], _ => rfl) rfl⟩
  have F__law_made := fun_mk (st := s__law_made) h767 h768 h769
  have O__law_made := ok_made F__law_made T CF MR MI MT
  have Glm : GFn P wo K mg base _ "_law_made" _ _ _ := ⟨f756, PySem.W.mg_of X G h757, h769, cal0 O__law_made (F__law_made.binds (ps := ["_law_column_here"]) fun _ _ _ _ _ _ us hl => match us, hl with | [_], _ => rfl) rfl⟩
  have F__law_accepts := fun_mk (st := s__law_accepts) h781 h782 h783
  have O__law_accepts := ok_lacc (P := P) (wo := wo) (base := base) F__law_accepts T TY
  have Gla : GFn P wo K mg base _ "_law_accepts" _ _ _ := ⟨f770, PySem.W.mg_of X G h771, h783, cal0 O__law_accepts (F__law_accepts.binds (ps := ["_law_column_here", "_law_value_here"]) fun _ _ _ _ _ _ us hl => match us, hl with | [_, _], _ => rfl) rfl⟩
  have F__law_value := fun_mk (st := s__law_value) h795 h796 h797
  have O__law_value := ok_lval F__law_value T TY AF Gp
  have Glv : GFn P wo K mg base _ "_law_value" _ _ _ := ⟨f784, PySem.W.mg_of X G h785, h797, cal0 O__law_value (F__law_value.binds (ps := ["_law_state"]) fun _ _ _ _ _ _ us hl => match us, hl with | [_], _ => rfl) rfl⟩
  have F__law_is_name := fun_mk (st := s__law_is_name) h809 h810 h811
  have O__law_is_name := ok_lnm (P := P) (wo := wo) (base := base) F__law_is_name T TY
  have Gln : GFn P wo K mg base _ "_law_is_name" _ _ _ := ⟨f798, PySem.W.mg_of X G h799, h811, cal0 O__law_is_name (F__law_is_name.binds (ps := ["_law_value_here"]) fun _ _ _ _ _ _ us hl => match us, hl with | [_], _ => rfl) rfl⟩
  have F__law_due := fun_mk (st := s__law_due) h823 h824 h825
  have O__law_due := ok_lduec F__law_due T TY Gln
  have Gldu : GFn P wo K mg base _ "_law_due" _ _ _ := ⟨f812, PySem.W.mg_of X G h813, h825, cal0 O__law_due (F__law_due.binds (ps := ["_law_name", "_law_target", "_law_empty", "_law_law_rule"]) fun _ _ _ _ _ _ us hl => match us, hl with | [_, _, _, _], _ => rfl) rfl⟩
  have F__law_tried := fun_mk (st := s__law_tried) h837 h838 h839
  have Gtr : GLam P wo K mg base "_law_tried" (TTried A) := ⟨⟨f826, "_law_work", _, _, _, _, _, _, _, _, _, _, _, _, _, PySem.W.mg_of X G h827, h839, h837, h838, (F__law_tried.binds (ps := ["_law_work"]) fun _ _ _ _ _ _ us hl => match us, hl with | [_], _ => rfl), sc__law_tried, rfl, (by first | exact .inl rfl | exact .inr (.inl rfl)), by decide +kernel, by decide +kernel, gives_tried T TR⟩⟩
  have F__law_refused := fun_mk (st := s__law_refused) h851 h852 h853
  have F_law := fun_mk (st := s_law) h874 h875 h876
  have huL : ∀ p ∈ ([(pt855, (("_law_refused" : Str) ++ ".<locals>.") ++ "<lambda>")] : List (Addr × Str)), p.1 = pt855 → p.2 = (("_law_refused" : Str) ++ ".<locals>.") ++ "<lambda>" := fun p hp e => by rw [List.mem_singleton] at hp; subst hp; rfl
  have O_refused := ok_refused (TL := ([(pt855, (("_law_refused" : Str) ++ ".<locals>.") ++ "<lambda>")] : List (Addr × Str))) F__law_refused rfl (htb (ca854, pt855) (by simp)) (by simp) huL T TY AF CF Gd Gp Gln Gldu MR MI MT0 Gtr
  have Glrf : GFg P wo K mg base 9 "_law_refused" 1 [] (fun vs _ => spRefused K ([(pt855, (("_law_refused" : Str) ++ ".<locals>.") ++ "<lambda>")] : List (Addr × Str)) vs) := ⟨⟨f840, PySem.W.mg_of X G h841, h853, calG0 O_refused (F__law_refused.binds (ps := ["_law_state"]) fun _ _ _ _ _ _ us hl => match us, hl with | [_], _ => rfl) rfl⟩⟩
  exact ok_law (TL := ([(pt855, (("_law_refused" : Str) ++ ".<locals>.") ++ "<lambda>")] : List (Addr × Str))) F_law T TY AF CF CG KI Gb Gd Gp Gns Glc Glct Glm Gla Glv Gpar GT GK GD GA GE Glrf

theorem walk {l : PySem.W.OpenLaw} {q : Program} {loose : List Str} {XP : (Str → Option Value) → Heap → Prop} {YP : World → Heap → Prop} {d : DefRec} {K : Params → PySem.W.Frag} (hn : l.most = some 63) (hdf : d.params.defaults = [])
    (hY : ∀ (w : World) (h : Heap), YP w h → (K w.params).In h)
    (F : ∀ (w : World) (mg : Str → Option Value) (fa : Addr) (h : Heap), (K w.params).In h → h.Ns mainGlobals mg → mg d.name = some (.ref fa) →
      (∀ (y : Str) (c P : Addr), ((recsOf q).find? (fun e => e.name == y)).isSome = true → PySem.W.tabIn (K w.params) y = some (c, P) → PySem.W.CodeHd h c P ∧ h.get? P = some { cls := .none, data := .fields #[] }) → LawAtG l w (K w.params) (L2.CX l.prog w) 12 63 "_law_script" mg fa h) :
    PySem.W.WalkO q loose XP YP l.row.toRowW d [] (fun f vs => PySem.call f vs) :=
  walk_ofTG (n := 63) (k := 12) (x := "_law_script") (CX := fun w => L2.CX l.prog w) hn (by rw [sizeLine_eq]; decide) hdf ⟨rfl, by decide, by decide⟩ hY F fun _ _ _ _ _ ⟨_, _, _, _, _, _, _, _, _, _, _, _, z⟩ => z
end Sv

open PySem PySem.W PyProof.Rows in
set_option maxRecDepth 100000 in
set_option maxHeartbeats 0 in
theorem PySem.Challenge.cw_savewise_k01_columns_accept_values_holds : PySem.Challenge.rw_savewise_k01_columns_accept_values.Holds := by
  w_on; o_law; k_head; (case hw => w_witness2)
  k_fill
  refine Sv.walk (l := PySem.Challenge.rw_savewise_k01_columns_accept_values) rfl rfl (fun w h Y => PySem.W.km_in_of Y) ?F
  case F =>
    intro w mg fa h KX G hmg tabs
    refine' Sv.all_mk KX G hmg tabs (by decide +kernel) (by decide +kernel) (by decide +kernel) ?h1 ?h2 ?h3 ?h4 ?h5 ?h6 ?h7 ?h8 ?h9 ?h10 ?h11 ?h12 ?h13 ?h15 ?h17 ?h19 ?h21 ?h23 ?h25 ?h27 ?h29 ?h31 ?h33 ?h35 ?h44 ?h46 ?h53 ?h54 ?h55 ?h56 ?h57 ?h58 ?h59 ?h60 ?h61 ?h63 ?h64 ?h65 ?h66 ?h67 ?h68 ?h69 ?h70 ?h71 ?h72 ?h74 ?h75 ?h76 ?h77 ?h78 ?h79 ?h80 ?h81 ?h82 ?h83 ?h85 ?h86 ?h87 ?h88 ?h104 ?h105 ?h106 ?h107 ?h108 ?h109 ?h111 ?h112 ?h123 ?h124 ?h130 ?h131 ?h135 ?h136 ?h137 ?h138 ?h139 ?h140 ?h141 ?h142 ?h158 ?h159 ?h160 ?h161 ?h162 ?h163 ?h165 ?h166 ?h177 ?h178 ?h184 ?h185 ?h189 ?h190 ?h191 ?h192 ?h193 ?h194 ?h195 ?h196 ?h212 ?h213 ?h214 ?h215 ?h216 ?h217 ?h219 ?h220 ?h231 ?h232 ?h238 ?h239 ?h243 ?h244 ?h245 ?h246 ?h247 ?h248 ?h249 ?h250 ?h251 ?h252 ?h253 ?h254 ?h255 ?h256 ?h257 ?h258 ?h259 ?h260 ?h261 ?h262 ?h263 ?h264 ?h265 ?h266 ?h267 ?h268 ?h270 ?h280 ?h281 ?h282 ?h285 ?h286 ?h296 ?h297 ?h298 ?h299 ?h300 ?h302 ?h303 ?h314 ?h315 ?h321 ?h322 ?h326 ?h327 ?h328 ?h329 ?h330 ?h331 ?h332 ?h334 ?h335 ?h345 ?h346 ?h347 ?h348 ?h350 ?h351 ?h362 ?h363 ?h369 ?h370 ?h374 ?h375 ?h376 ?h377 ?h378 ?h379 ?h380 ?h383 ?h384 ?h385 ?h386 ?h387 ?h389 ?h399 ?h400 ?h401 ?h403 ?h413 ?h414 ?h415 ?h418 ?h420 ?h421 ?h422 ?h432 ?h433 ?h434 ?h437 ?h438 ?h439 ?h440 ?h441 ?h443 ?h453 ?h454 ?h455 ?h457 ?h458 ?h459 ?h460 ?h462 ?h463 ?h464 ?h465 ?h467 ?h468 ?h469 ?h470 ?h471 ?h472 ?h475 ?h476 ?h477 ?h478 ?h479 ?h481 ?h491 ?h492 ?h493 ?h495 ?h505 ?h506 ?h507 ?h509 ?h519 ?h520 ?h521 ?h523 ?h533 ?h534 ?h535 ?h537 ?h547 ?h548 ?h549 ?h551 ?h552 ?h563 ?h564 ?h570 ?h571 ?h575 ?h576 ?h577 ?h578 ?h579 ?h580 ?h581 ?h583 ?h584 ?h595 ?h596 ?h602 ?h603 ?h607 ?h608 ?h609 ?h610 ?h611 ?h612 ?h613 ?h615 ?h616 ?h627 ?h628 ?h634 ?h635 ?h639 ?h640 ?h641 ?h642 ?h643 ?h644 ?h645 ?h647 ?h648 ?h649 ?h650 ?h660 ?h661 ?h662 ?h664 ?h671 ?h673 ?h683 ?h684 ?h685 ?h687 ?h697 ?h698 ?h699 ?h701 ?h711 ?h712 ?h713 ?h715 ?h725 ?h726 ?h727 ?h729 ?h739 ?h740 ?h741 ?h743 ?h753 ?h754 ?h755 ?h757 ?h767 ?h768 ?h769 ?h771 ?h781 ?h782 ?h783 ?h785 ?h795 ?h796 ?h797 ?h799 ?h809 ?h810 ?h811 ?h813 ?h823 ?h824 ?h825 ?h827 ?h837 ?h838 ?h839 ?h841 ?h851 ?h852 ?h853 ?h860 ?h861 ?h862 ?h864 ?h874 ?h875 ?h876
    (case h1 => k_is)
    (case h2 => k_is)
    (case h3 => k_is)
    (case h4 => k_is)
    (case h5 => k_is)
    (case h6 => k_is)
    (case h7 => k_is)
    (case h8 => k_is)
    (case h9 => k_is)
    (case h10 => k_is)
    (case h11 => k_is)
    (case h12 => k_is)
    (case h13 => k_is)
    (case h15 => k_is)
    (case h17 => k_is)
    (case h19 => k_is)
    (case h21 => k_is)
    (case h23 => k_is)
    (case h25 => k_is)
    (case h27 => k_is)
    (case h29 => k_is)
    (case h31 => k_is)
    (case h33 => k_is)
    (case h35 => k_is)
    (case h44 => k_is)
    (case h46 => k_is)
    (case h53 => k_is)
    (case h54 => k_is)
    (case h55 => k_is)
    (case h56 => k_is)
    (case h57 => k_is)
    (case h58 => k_is)
    (case h59 => k_is)
    (case h60 => k_is)
    (case h61 => k_is)
    (case h63 => k_is)
    (case h64 => k_is)
    (case h65 => k_is)
    (case h66 => k_is)
    (case h67 => k_is)
    (case h68 => k_is)
    (case h69 => k_is)
    (case h70 => k_is)
    (case h71 => k_is)
    (case h72 => k_is)
    (case h74 => k_is)
    (case h75 => k_is)
    (case h76 => k_is)
    (case h77 => k_is)
    (case h78 => k_is)
    (case h79 => k_is)
    (case h80 => k_is)
    (case h81 => k_is)
    (case h82 => k_is)
    (case h83 => k_is)
    (case h85 => k_is)
    (case h86 => k_is)
    (case h87 => k_is)
    (case h88 => k_is)
    (case h104 => k_is)
    (case h105 => decide +kernel)
    (case h106 => k_is)
    (case h107 => k_is)
    (case h108 => k_is)
    (case h109 => k_is)
    (case h111 => k_is)
    (case h112 => k_is)
    (case h123 => k_is)
    (case h124 => k_is)
    (case h130 => k_is)
    (case h131 => rfl)
    (case h135 => k_is)
    (case h136 => k_is)
    (case h137 => k_is)
    (case h138 => ks_is)
    (case h139 => k_is)
    (case h140 => k_is)
    (case h141 => k_is)
    (case h142 => k_is)
    (case h158 => k_is)
    (case h159 => decide +kernel)
    (case h160 => k_is)
    (case h161 => k_is)
    (case h162 => k_is)
    (case h163 => k_is)
    (case h165 => k_is)
    (case h166 => k_is)
    (case h177 => k_is)
    (case h178 => k_is)
    (case h184 => k_is)
    (case h185 => rfl)
    (case h189 => k_is)
    (case h190 => k_is)
    (case h191 => k_is)
    (case h192 => ks_is)
    (case h193 => k_is)
    (case h194 => k_is)
    (case h195 => k_is)
    (case h196 => k_is)
    (case h212 => k_is)
    (case h213 => decide +kernel)
    (case h214 => k_is)
    (case h215 => k_is)
    (case h216 => k_is)
    (case h217 => k_is)
    (case h219 => k_is)
    (case h220 => k_is)
    (case h231 => k_is)
    (case h232 => k_is)
    (case h238 => k_is)
    (case h239 => rfl)
    (case h243 => k_is)
    (case h244 => k_is)
    (case h245 => k_is)
    (case h246 => ks_is)
    (case h247 => k_is)
    (case h248 => k_is)
    (case h249 => k_is)
    (case h250 => k_is)
    (case h251 => k_is)
    (case h252 => k_is)
    (case h253 => k_is)
    (case h254 => k_is)
    (case h255 => k_is)
    (case h256 => k_is)
    (case h257 => k_is)
    (case h258 => k_is)
    (case h259 => k_is)
    (case h260 => k_is)
    (case h261 => k_is)
    (case h262 => k_is)
    (case h263 => k_is)
    (case h264 => k_is)
    (case h265 => k_is)
    (case h266 => k_is)
    (case h267 => k_is)
    (case h268 => kernel_rfl)
    (case h270 => k_is)
    (case h280 => k_is)
    (case h281 => k_is)
    (case h282 => k_is)
    (case h285 => k_is)
    (case h286 => k_is)
    (case h296 => k_is)
    (case h297 => k_is)
    (case h298 => k_is)
    (case h299 => k_is)
    (case h300 => k_is)
    (case h302 => k_is)
    (case h303 => k_is)
    (case h314 => k_is)
    (case h315 => k_is)
    (case h321 => k_is)
    (case h322 => rfl)
    (case h326 => k_is)
    (case h327 => k_is)
    (case h328 => k_is)
    (case h329 => ks_is)
    (case h330 => k_is)
    (case h331 => k_is)
    (case h332 => k_is)
    (case h334 => k_is)
    (case h335 => k_is)
    (case h345 => k_is)
    (case h346 => k_is)
    (case h347 => k_is)
    (case h348 => k_is)
    (case h350 => k_is)
    (case h351 => k_is)
    (case h362 => k_is)
    (case h363 => k_is)
    (case h369 => k_is)
    (case h370 => rfl)
    (case h374 => k_is)
    (case h375 => k_is)
    (case h376 => k_is)
    (case h377 => ks_is)
    (case h378 => k_is)
    (case h379 => k_is)
    (case h380 => k_is)
    (case h383 => k_is)
    (case h384 => k_is)
    (case h385 => k_is)
    (case h386 => k_is)
    (case h387 => k_is)
    (case h389 => k_is)
    (case h399 => k_is)
    (case h400 => k_is)
    (case h401 => k_is)
    (case h403 => k_is)
    (case h413 => k_is)
    (case h414 => k_is)
    (case h415 => k_is)
    (case h418 => k_is)
    (case h420 => k_is)
    (case h421 => k_is)
    (case h422 => k_is)
    (case h432 => k_is)
    (case h433 => k_is)
    (case h434 => k_is)
    (case h437 => k_is)
    (case h438 => k_is)
    (case h439 => k_is)
    (case h440 => k_is)
    (case h441 => k_is)
    (case h443 => k_is)
    (case h453 => k_is)
    (case h454 => k_is)
    (case h455 => k_is)
    (case h457 => k_is)
    (case h458 => k_is)
    (case h459 => k_is)
    (case h460 => k_is)
    (case h462 => k_is)
    (case h463 => k_is)
    (case h464 => k_is)
    (case h465 => k_is)
    (case h467 => k_is)
    (case h468 => k_is)
    (case h469 => k_is)
    (case h470 => k_is)
    (case h471 => kernel_rfl)
    (case h472 => kernel_rfl)
    (case h475 => k_is)
    (case h476 => k_is)
    (case h477 => k_is)
    (case h478 => k_is)
    (case h479 => k_is)
    (case h481 => k_is)
    (case h491 => k_is)
    (case h492 => k_is)
    (case h493 => k_is)
    (case h495 => k_is)
    (case h505 => k_is)
    (case h506 => k_is)
    (case h507 => k_is)
    (case h509 => k_is)
    (case h519 => k_is)
    (case h520 => k_is)
    (case h521 => k_is)
    (case h523 => k_is)
    (case h533 => k_is)
    (case h534 => k_is)
    (case h535 => k_is)
    (case h537 => k_is)
    (case h547 => k_is)
    (case h548 => k_is)
    (case h549 => k_is)
    (case h551 => k_is)
    (case h552 => k_is)
    (case h563 => k_is)
    (case h564 => k_is)
    (case h570 => k_is)
    (case h571 => rfl)
    (case h575 => k_is)
    (case h576 => k_is)
    (case h577 => k_is)
    (case h578 => ks_is)
    (case h579 => k_is)
    (case h580 => k_is)
    (case h581 => k_is)
    (case h583 => k_is)
    (case h584 => k_is)
    (case h595 => k_is)
    (case h596 => k_is)
    (case h602 => k_is)
    (case h603 => rfl)
    (case h607 => k_is)
    (case h608 => k_is)
    (case h609 => k_is)
    (case h610 => ks_is)
    (case h611 => k_is)
    (case h612 => k_is)
    (case h613 => k_is)
    (case h615 => k_is)
    (case h616 => k_is)
    (case h627 => k_is)
    (case h628 => k_is)
    (case h634 => k_is)
    (case h635 => rfl)
    (case h639 => k_is)
    (case h640 => k_is)
    (case h641 => k_is)
    (case h642 => ks_is)
    (case h643 => k_is)
    (case h644 => k_is)
    (case h645 => k_is)
    (case h647 => k_is)
    (case h648 => k_is)
    (case h649 => k_is)
    (case h650 => k_is)
    (case h660 => k_is)
    (case h661 => k_is)
    (case h662 => k_is)
    (case h664 => k_is)
    (case h671 => k_is)
    (case h673 => k_is)
    (case h683 => k_is)
    (case h684 => k_is)
    (case h685 => k_is)
    (case h687 => k_is)
    (case h697 => k_is)
    (case h698 => k_is)
    (case h699 => k_is)
    (case h701 => k_is)
    (case h711 => k_is)
    (case h712 => k_is)
    (case h713 => k_is)
    (case h715 => k_is)
    (case h725 => k_is)
    (case h726 => k_is)
    (case h727 => k_is)
    (case h729 => k_is)
    (case h739 => k_is)
    (case h740 => k_is)
    (case h741 => k_is)
    (case h743 => k_is)
    (case h753 => k_is)
    (case h754 => k_is)
    (case h755 => k_is)
    (case h757 => k_is)
    (case h767 => k_is)
    (case h768 => k_is)
    (case h769 => k_is)
    (case h771 => k_is)
    (case h781 => k_is)
    (case h782 => k_is)
    (case h783 => k_is)
    (case h785 => k_is)
    (case h795 => k_is)
    (case h796 => k_is)
    (case h797 => k_is)
    (case h799 => k_is)
    (case h809 => k_is)
    (case h810 => k_is)
    (case h811 => k_is)
    (case h813 => k_is)
    (case h823 => k_is)
    (case h824 => k_is)
    (case h825 => k_is)
    (case h827 => k_is)
    (case h837 => k_is)
    (case h838 => k_is)
    (case h839 => k_is)
    (case h841 => k_is)
    (case h851 => k_is)
    (case h852 => k_is)
    (case h853 => k_is)
    (case h860 => k_is)
    (case h861 => exact rfl)
    (case h862 => kernel_rfl)
    (case h864 => k_is)
    (case h874 => k_is)
    (case h875 => k_is)
    (case h876 => k_is)
