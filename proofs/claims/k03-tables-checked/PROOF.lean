import PyProof.Rows.All
import Wide.All
import OpenK.AllK
import Wide.FinOn
import KE.KExcSuper
import HandS.ForMost
import HandS.Exc
import HandS.ExcOwn
import HandS.ExcInit
import HandS.WordsExc
import HandS.ClsMeth
import HandS.Defaults
import HandS.Property
import HandS.MakeKwOnly
import HandS.TryOnly
import HandS.TryMany
import HandS.ExcIs
import HandS.IsInst
import HandS.Flow
import HandS.Style
import HandS.Steps
import HandS.StrMore
import HandS.TupAny
import HandS.Evl
import KE.KUnpackStar
import KE.KTryMore
import HandS.Star
import HandS.ExcField
import HandS.Ends
import KE.KDictList
import HandS.Iter
import HandS.Dict
import HandS.More
import HandS.Strs
import HandS.ExcValue
import HandS.FStr
import HandS.Comp
import KE.GoesRaise
import PySem.Challenge.RW_savewise_k03_tables_checked
import KE.GoesMore
import HandS.Lambda
import HandS.Deep
import HandS.TupMul
import HandS.EndTab
import KE.KNest
import KE.RegKSuper
set_option Elab.async false
set_option linter.all false
set_option maxRecDepth 100000
set_option maxHeartbeats 4000000
/-! SwSup: defs with super() (a closure over the class), by wpAt; super().m(..); the __init__ of an own exception that says super().__init__(text). -/
namespace Sw
open PySem PySem.Spec PyProof.Rows L2

structure SScope (N P : List Str) (sc : Scope) : Prop where
  kind : sc.kind = .function
  co : sc.isCoroutine = false
  gen : sc.isGenerator = false
  nd : N.Nodup
  pre : N.take P.length = P
  par : ∀ x ∈ P, sc.names.lookup x = some .local
  nocell : ∀ y ∈ sc.names, y.2 ≠ .cell
  free : ∀ y ∈ sc.names, y.2 = .free → y.1 = "__class__"

def cxS (CX : CXT) (P : Program) (w : World) (K : PySem.W.Frag) (mg : Str → Option Value) (base : Heap) (N : List Str) (qual : Str) (scope : Scope) (f : Addr) (cd : Value) (cc : Addr) (A : Around) (outer : List Env) (s : Shared) (H : Hp) (E : XK) : Cx where
  prog := P
  w := w
  K := K
  mg := mg
  base := base
  A := A.deeper (PySem.W.ksEnv qual scope s.heap.objs.size f cd cc)
  N := N
  s_0 := s
  H_0 := H
  env := PySem.W.ksEnv qual scope s.heap.objs.size f cd cc
  outer := outer
  stack := PySem.W.ksEnv qual scope s.heap.objs.size f cd cc :: outer
  ex := []
  calm := true
  fn := fun _ => false
  pn := []
  xe := fun e s' => wpAny (model P w) (A.deeper (PySem.W.ksEnv qual scope s.heap.objs.size f cd cc)) (leaving (PySem.W.ksEnv qual scope s.heap.objs.size f cd cc) e) (fun _ s'' => CX outer H s E e s'') (fun e' s'' => CX outer H s E e' s'') s'

theorem zip_fst_sub : ∀ (ps : List Str) (us : List Value), ((ps.zip us).map (·.1)).Sublist ps
  | [], _ => by simp
  | _ :: _, [] => by simp
  | p :: ps, u :: us => by
    rw [List.zip_cons_cons, List.map_cons]
    exact (zip_fst_sub ps us).cons_cons p
theorem zip_rev_look : ∀ {ps : List Str} {us : List Value} {i : Nat} {x : Str} {u : Value}, ps.Nodup → ps[i]? = some x → us[i]? = some u → (ps.zip us).reverse.lookup x = some u := by
  intro ps us i x u nd hp hu
  have hmem : (x, u) ∈ (ps.zip us).reverse := by
    rw [List.mem_reverse]
    refine List.mem_iff_getElem?.mpr ⟨i, ?_⟩
    rw [List.getElem?_zip_eq_some]
    exact ⟨hp, hu⟩
  have key : ∀ (l : List (Str × Value)), (l.map (·.1)).Nodup → (x, u) ∈ l → l.lookup x = some u := by
    intro l
    induction l with
    | nil => intro _ h; cases h
    | cons p l ih =>
      intro hn hm
      obtain ⟨y, v⟩ := p
      rw [List.map_cons, List.nodup_cons] at hn
      rcases List.mem_cons.mp hm with e | hm
      · injection e with e1 e2
        subst e1 e2
        simp [List.lookup]
      · have hne : x ≠ y := fun e => hn.1 (by rw [← e]; exact List.mem_map_of_mem (f := (·.1)) hm)
        have hb : (x == y) = false := by simpa using hne
        rw [List.lookup, hb]
        exact ih hn.2 hm
  refine key _ ?_ hmem
  rw [List.map_reverse]
  refine List.pairwise_reverse.mpr (List.Pairwise.imp (fun h => Ne.symm h) ?_)
  exact nd.sublist (zip_fst_sub ps us)

section
variable {CX : CXT} {P : Program} {w : World} {K : PySem.W.Frag} {mg : Str → Option Value} {base : Heap} {N ps : List Str} {qual : Str} {scope : Scope} {f cc D : Addr} {cd : Value} {A : Around} {outer : List Env} {s : Shared} {H : Hp} {E : XK} {us : List Value} {vs : List V}
theorem inv_startS {h₁ : Heap} {tk : Nat} {cl : Value} {cld : Option Addr} {csl : Array (Option Value)} (S : SScope N ps scope) (hd : A.handled = none) (e0 : Env0 P w K mg base A outer s H) (hl : vs.length = ps.length) (r : Vals vs us)
    (hcc : K.lookup cc = some ⟨cl, cld, .cell (some (.ref D)), csl⟩) (hns : h₁.Ns s.heap.objs.size fun y => (ps.zip us).reverse.lookup y) (hk : ∀ b o, s.heap.get? b = some o → h₁.get? b = some o) :
    Inv (cxS CX P w K mg base N qual scope f cd cc A outer s H E) [] (L2.start N vs) H { s with heap := h₁, toks := tk } := by
  have hpl : ps.length ≤ N.length := by have := congrArg List.length S.pre; rw [List.length_take] at this; omega
  have noA : ∀ b : Addr, b ∉ (cxS CX P w K mg base N qual scope f cd cc A outer s H E).ex := fun b z => absurd (show b ∈ ([] : List Addr) from z) (by simp)
  have hbc : base.get? cc = some ⟨cl, cld, .cell (some (.ref D)), csl⟩ := e0.mod.kin _ _ hcc
  have look1 : ∀ {x : Str} {c : Addr}, (cxS CX P w K mg base N qual scope f cd cc A outer s H E).env.cells.lookup x = some c → x = "__class__" ∧ c = cc := fun {x c} h => by
    have h' : List.lookup x [(("__class__" : Str), cc)] = some c := h
    by_cases e : x = "__class__"
    · subst e
      simp [List.lookup] at h'
      exact ⟨rfl, h'.symm⟩
    · have eb : (x == ("__class__" : Str)) = false := by simpa using e
      simp [List.lookup, eb] at h'
  refine ⟨⟨e0.mod, S.kind, rfl, rfl, Nat.le_refl _, fun y z c h1 h2 => (look1 h1).1.trans (look1 h2).1.symm, fun y hy => ?_, fun y c h => (Bool.noConfusion h), fun _ => hd, Around.frames_deeper e0.frames, .inr ⟨rfl, rfl⟩, fun b z => absurd z (noA b), e0.bs, e0.bsz, fun b _ _ => noA b, fun b z => absurd z (noA b), e0.funs, e0.frf⟩,
    rfl, e0.bare, Un.kept hk, ⟨_, hns, fun i y v h1 h2 h3 => ?_⟩, fun y c h => ?_, e0.hok.fresh (Nat.le_refl _), fun y c h => ?_, fun p hp => absurd (show p ∈ ([] : List (Addr × Obj)) from hp) (by simp), e0.hok.kept hk, ?_⟩
  · have hy : scope.names.lookup y = some .cell ∨ scope.names.lookup y = some .free := hy
    rcases hy with hy | hy
    · exact absurd rfl (S.nocell _ (PySem.mem_of_lookup hy))
    · have e := S.free _ (PySem.mem_of_lookup hy) rfl
      have e' : y = "__class__" := e
      exact ⟨cc, by subst e'; show List.lookup _ [_] = _; simp [List.lookup]⟩
  · have hi : i < vs.length := by
      unfold L2.start at h2
      by_cases hi : i < vs.length
      · exact hi
      · rw [List.getElem?_append_right (by simpa using hi)] at h2
        rw [List.getElem?_replicate] at h2
        split at h2 <;> cases h2
    have ha : vs[i]? = some v := by
      unfold L2.start at h2
      rw [List.getElem?_append_left (by simpa using hi), List.getElem?_map] at h2
      cases e : vs[i]? with
      | none => rw [e] at h2; cases h2
      | some a => rw [e] at h2; cases h2; rfl
    obtain ⟨u, hu, rv⟩ := r.get ha
    have hp : ps[i]? = some y := by
      rw [← S.pre, List.getElem?_take_of_lt (by omega)]; exact h1
    have ndP : ps.Nodup := by rw [← S.pre]; exact S.nd.sublist (List.take_sublist _ _)
    exact ⟨u, rv, .inl ⟨S.par y (List.mem_of_getElem? hp), zip_rev_look ndP hp hu⟩⟩
  · obtain ⟨_, rfl⟩ := look1 h
    exact ⟨_, _, hk _ _ (e0.bs _ _ hbc).1, rfl⟩
  · obtain ⟨_, rfl⟩ := look1 h
    exact (e0.bs _ _ hbc).2
  · unfold L2.start
    show _ = N.length
    rw [List.length_append, List.length_map, List.length_replicate]
    omega
end

/-! ### the judgements at the body's own activation -/
structure PSt (X : Cx) (body : List Stmt) (st : Stmt) (t : TS) : Prop where
  run : ∀ (pins : List (Addr × Obj)) (s : Shared) (σ : L2.St) (H : Hp) (D : Ends), Inv X pins σ H s → t D σ H → _root_.PySem.wpAt (model X.prog X.w) X.A (.func body X.env) (exec st X.env) (SP X pins D) X.xe s
structure PSst (X : Cx) (body : List Stmt) (st : List Stmt) (t : TS) : Prop where
  run : ∀ (pins : List (Addr × Obj)) (s : Shared) (σ : L2.St) (H : Hp) (D : Ends), Inv X pins σ H s → t D σ H → _root_.PySem.wpAt (model X.prog X.w) X.A (.func body X.env) (execs st X.env) (SP X pins D) X.xe s
structure PEt (X : Cx) (body : List Stmt) (e : Expr) (t : TE) : Prop where
  run : ∀ (pins : List (Addr × Obj)) (s : Shared) (σ : L2.St) (H : Hp) (Q : VK), Inv X pins σ H s → t σ H Q → _root_.PySem.wpAt (model X.prog X.w) X.A (.func body X.env) (eval e X.env) (EP X pins σ Q) X.xe s
section
variable {X : Cx} {body : List Stmt} {st : Stmt} {rest : List Stmt} {t u : TS} {e : Expr} {te : TE} {pos : Pos}
theorem PSt.of (h : PS X st t) : PSt X body st t := ⟨fun pins s σ H D I hw => wpAt_of_wpAny (h.run pins s σ H D I hw)⟩
theorem PSst.of (h : PSs X rest t) : PSst X body rest t := ⟨fun pins s σ H D I hw => wpAt_of_wpAny (h.run pins s σ H D I hw)⟩
theorem PEt.of (h : PE X e te) : PEt X body e te := ⟨fun pins s σ H Q I hw => wpAt_of_wpAny (h.run pins s σ H Q I hw)⟩
theorem PSst.cons (h1 : PSt X body st t) (h2 : PSst X body rest u) : PSst X body (st :: rest) (tSeq t u) := by
  refine ⟨fun pins s σ H D I h => ?_⟩
  refine ks_wpAt_execs_cons (ks_wpAt_mono (h1.run pins s σ H { D with nx := u D } I h) (fun f s1 q => ?_) fun _ _ z => z)
  cases f with
  | next =>
    obtain ⟨σ', H', I', q⟩ := q
    exact h2.run pins s1 σ' H' D I' q
  | ret v => exact q
  | brk => exact q
  | cont => exact q
theorem PSst.one (h1 : PSt X body st t) : PSst X body [st] t := by
  refine ⟨fun pins s σ H D I h => ?_⟩
  refine ks_wpAt_execs_cons (ks_wpAt_mono (h1.run pins s σ H D I h) (fun f s1 q => ?_) fun _ _ z => z)
  cases f with
  | next => exact wpAt_of_wpAny (wpAny_execs_nil q)
  | ret v => exact q
  | brk => exact q
  | cont => exact q
theorem pst_expr (he : PEt X body e te) (hs : swapsWith e none pos.line X.env = pure false := by rfl) : PSt X body (.Expr e pos) (tDrop te) := by
  refine ⟨fun pins s σ H D I h => ?_⟩
  exact ks_wpAt_Expr_any (ks_wpAt_mono (he.run pins s σ H _ I h) (fun v s1 ⟨x, H1, I1, r1, q1⟩ => ⟨σ, H1, I1, q1⟩) fun _ _ z => z) I.quiet hs
theorem pst_ret (he : PEt X body e te) : PSt X body (.Return (some e) pos) (tRet te) := by
  refine ⟨fun pins s σ H D I h => ?_⟩
  exact ks_wpAt_Return_some (ks_wpAt_mono (he.run pins s σ H _ I h) (fun v s1 ⟨x, H1, I1, r1, q1⟩ => ⟨x, σ, H1, I1, r1, q1⟩) fun _ _ z => z)
end

/-! ### THE RULE for a def with super() -/
section
variable {CX : CXT} {P : Program} {w : World} {K : PySem.W.Frag} {mg : Str → Option Value} {base : Heap} {k : Nat} {f cc D : Addr} {name qual : Str} {params : Arguments} {body : List Stmt} {scope : Scope} {dV kV doc pm cdv ct oc cl : Value} {an od cld : Option Addr}
    {osl csl : Array (Option Value)} {N ps : List Str} {sp : Sp}
theorem fn_sup (lk : K.lookup f = some ⟨oc, od, .func (PySem.W.ksFn name qual params body scope dV kV doc pm an cdv ct cc), osl⟩) (hcd : PySem.W.codeIn K cdv qual = true) (hcc : K.lookup cc = some ⟨cl, cld, .cell (some (.ref D)), csl⟩) (S : SScope N ps scope)
    (len : ∀ vs H Q E, sp vs H Q E → vs.length = ps.length)
    (hbody : ∀ (A : Around) (outer : List Env) (s : Shared) (H : Hp) (vs : List V) (Q : VK) (E : XK), Room k (A.deeper (PySem.W.ksEnv qual scope s.heap.objs.size f cdv cc)) → sp vs H Q E →
      ∃ t, PSst (cxS CX P w K mg base N qual scope f cdv cc A outer s H E) body body t ∧ t { nx := fun _ H' => Q .non H', rt := Q } (L2.start N vs) H) :
    FnOk P w K mg base CX (k + 1) f (PySem.W.ksFn name qual params body scope dV kV doc pm an cdv ct cc) ps sp := by
  refine ⟨len, fun A outer s H args us vs Q E hr e0 hb r hsp => ?_⟩
  have hl := len _ _ _ _ hsp
  have KX : K.In s.heap := e0.mod.kin.keeps fun b o e => (e0.bs b o e).1
  have lim : s.heap.NoLimit := e0.mod.nolimit.keeps fun b o e => (e0.bs b o e).1
  refine ks_codeAny_call_defAt (fd := PySem.W.ksFn name qual params body scope dV kV doc pm an cdv ct cc) (body := body) (binds := ps.zip us) hr.depth (KX _ _ lk) rfl lim (PySem.W.codeRec_of KX hcd) rfl hb S.nocell
    (fun x hx => S.par _ (List.of_mem_zip hx).1) (fun h₁ hns hk => ?_) S.co S.gen S.kind
  obtain ⟨t, ht, hq⟩ := hbody A outer s H vs Q E (hr.deeper _) hsp
  have I : Inv (cxS CX P w K mg base N qual scope f cdv cc A outer s H E) [] (L2.start N vs) H { s with heap := h₁, toks := s.toks + (ps.zip us).length } := inv_startS S hr.hd e0 hl r hcc hns hk
  refine ks_wpAt_mono (ht.run [] _ (L2.start N vs) H _ I hq) (fun fl s' hs => ?_) fun e s' hs => hs
  have fin : ∀ {σ' : L2.St} {H' : Hp} {v : V} {u : Value}, Inv (cxS CX P w K mg base N qual scope f cdv cc A outer s H E) [] σ' H' s' → RelV v u → Q v H' → CE outer P w H s Q u s' :=
    fun {σ' H' v u} J rv q => ⟨v, H', J.os, J.bare, J.base, J.hok, rv, q⟩
  cases fl with
  | ret u =>
    obtain ⟨v, σ', H', J, rv, q⟩ := hs
    exact fin J rv q
  | next =>
    obtain ⟨σ', H', J, q⟩ := hs
    exact fin (v := V.non) (u := Value.none) J rfl q
  | brk =>
    obtain ⟨_, _, _, q⟩ := hs
    exact False.elim q
  | cont =>
    obtain ⟨_, _, _, q⟩ := hs
    exact False.elim q
end
end Sw

set_option Elab.async false
set_option linter.all false
set_option maxRecDepth 100000
set_option maxHeartbeats 4000000
namespace Sw
open PySem PySem.Spec PyProof.Rows L2

/-! ### super() -/
/-- what the written part and the text must say around a super() in the def at f, a method of the class D, called with an instance of C -/
structure SupT (X : Cx) (f cda cc D : Addr) : Prop where
  fu : X.env.func = some f
  co : X.env.code = .ref cda
  fd : ∃ oc od fd osl ar, X.K.lookup f = some ⟨oc, od, .func fd, osl⟩ ∧ (fd.params.posonlyargs ++ fd.params.args).head? = some ar ∧ X.N[0]? = some ar.arg ∧ X.env.scope.names.lookup ar.arg = some .local
  cd : ∃ ccl cdd vs ccs file tf, X.K.lookup cda = some ⟨ccl, cdd, .fields vs, ccs⟩ ∧ vs[2]? = some (.str file tf) ∧ ((X.prog.main.file : Str) == file) = true
  ce : ∃ cl cld csl, X.K.lookup cc = some ⟨cl, cld, .cell (some (.ref D)), csl⟩
  cz : X.env.cells.lookup ("__class__" : Str) = some cc
  dc : ∃ cdD, PySem.W.clsIn X.K D = some cdD
  su : X.mg "super" = none
  ks : X.env.scope.names.lookup ("super" : Str) = some .globalImplicit
  kc : X.env.scope.names.lookup ("__class__" : Str) = some .free
  tp : (X.prog.main.scope.names.lookup ("super" : Str)).isSome = false

section
variable {X : Cx} {pins : List (Addr × Obj)} {σ : L2.St} {H : Hp} {s : Shared} {a C D f cda cc : Addr} {ox : Obj} {odx : Option Obj} {body : List Stmt} {E : Value → Shared → Prop}
theorem super_base {p0 p1 : Pos} {attr : Str} {whole : Sem Value} {Q : Value → Shared → Prop} (T : SupT X f cda cc D) (I : Inv X pins σ H s) (h0 : σ[0]? = some (some (.ref a))) (J : PySem.W.InstAt s.heap a ox C odx)
    (hsub : PySem.W.mroIn X.K C (.ref D) = some true) (hat : (attr == ("__class__" : Str)) = false)
    (h : ∀ s', Inv X ((s.heap.objs.size, PySem.W.ks_superObj D a C) :: pins) σ H s' → (∀ b o, s.heap.get? b = some o → s'.heap.get? b = some o) → Q (.ref s.heap.objs.size) s') :
    _root_.PySem.wpAt (model X.prog X.w) X.A (.func body X.env) (attributeBase (.Call (.Name "super" p0) [] [] p1) attr X.env whole) Q E s := by
  obtain ⟨oc, od, fd, osl, ar, hf, hp, hN0, hka⟩ := T.fd
  obtain ⟨ccl, cdd, vs, ccs, file, tf, hcode, hvs, hfile⟩ := T.cd
  obtain ⟨cl, cld, csl, hcell⟩ := T.ce
  obtain ⟨cdD, hD⟩ := T.dc
  have KX : X.K.In s.heap := I.kIn
  have I0 := I
  obtain ⟨m, hn, hl⟩ := I.loc
  obtain ⟨u, ru, lk⟩ := hl 0 _ _ hN0 h0 (.inl hka)
  obtain rfl : u = Value.ref a := ru
  have hm : m ar.arg = some (.ref a) := by
    rcases lk with ⟨_, e⟩ | ⟨k, _⟩
    · exact e
    · have k' : X.env.scope.names.lookup ar.arg = some .cell ∨ X.env.scope.names.lookup ar.arg = some .free := k
      rw [hka] at k'
      rcases k' with k' | k' <;> cases k'
  obtain ⟨hh, g, d, t, os⟩ := s
  obtain ⟨oD, hD1, hD2⟩ : ∃ oD, hh.get? D = some oD ∧ oD.data = .cls cdD := by
    unfold PySem.W.clsIn at hD
    split at hD
    · rename_i c d cd' sl ho
      cases hD
      exact ⟨_, KX _ _ ho, rfl⟩
    · cases hD
  obtain ⟨mb, hb1, hb2⟩ := I.mod.blt
  refine ks_wpAt_super_base (env := X.env) (cc := cda) T.ks T.kc hat T.fu (KX _ _ hf) rfl hp T.co (KX _ _ hcode) rfl hvs hfile T.tp ?_
  refine PySem.W.ks_loadName_global I.ok.kind T.ks (Calls.loadGlobal_builtin (by rw [I.ok.glob]; exact I.mod.glob.keeps I.bk) T.su (by rw [I.ok.blt]; exact hb1.keeps I.bk) ((hb2 "super" (by decide +kernel)).trans (by first | boot_by_name | rfl | kernel_rfl)) ⟨rfl, ?_⟩)
  refine wpAny_loadName_free I.ok.kind T.kc T.cz ⟨_, KX _ _ hcell, rfl⟩ ?_
  refine wpAny_loadName_local I.ok.kind hka hn hm ?_
  refine ks_wpAny_isType_cls hD1 hD2 ⟨rfl, ?_⟩
  refine ks_wpAny_call_super hD1 hD2 J.at_ J.cls (fun c e => ?_) (PySem.W.looks_mroIn KX hsub) (fun h' e k => ?_)
  · have := J.no
    unfold PySem.W.notCls at this
    rw [e] at this
    exact Bool.noConfusion this
  · exact h _ (ClX.pin_new I0 k (Nat.le_refl _) e (fun v z => nomatch z)) k

/-- the method found above D in the order of C -/
structure SupM (K : PySem.W.Frag) (C D : Addr) (m : Str) (g : Addr) : Prop where
  any : PySem.W.nsIn K PySem.cStatics "thirdparty.any" = some none
  at_ : PySem.W.ks_superIn K C D m = some (some (.ref g))
  ty : PySem.W.typeIn K (.ref g) = some (.type "function")
  fi : PySem.W.fnIn K g = true
  sub : PySem.W.mroIn K C (.ref D) = some true
  nc : (m == ("__class__" : Str)) = false

theorem super_meth {m : Str} {g so : Addr} {pl : Sem Bool} {A : Around} {Q : Value × List Value → Shared → Prop} (M : SupM X.K C D m g) (I : Inv X ((so, PySem.W.ks_superObj D a C) :: pins) σ H s) (J : PySem.W.InstAt s.heap a ox C odx)
    (h : ∀ s', Inv X ((s.heap.objs.size, PySem.W.methodObj (.ref g) (.ref a)) :: pins) σ H s' → Q (.ref s.heap.objs.size, []) s') : wpAny (model X.prog X.w) A (getMethod (.ref so) m pl) Q E s := by
  have KX : X.K.In s.heap := I.kIn
  have hso := ClX.pin_at I
  have hm := M.at_
  have I0 := I
  obtain ⟨hh, gg, d, t, os⟩ := s
  cases hc : PySem.W.clsIn X.K C with
  | none => unfold PySem.W.ks_superIn at hm; rw [hc] at hm; cases hm
  | some cd =>
    unfold PySem.W.ks_superIn at hm
    rw [hc] at hm
    obtain ⟨of, hof, hofc⟩ : ∃ of, hh.get? g = some of ∧ of.cls = .type "function" := by
      have ht' : (X.K.lookup g).map (·.cls) = some (.type "function") := M.ty
      cases z : X.K.lookup g with
      | none => rw [z] at ht'; cases ht'
      | some of => rw [z] at ht'; exact ⟨of, KX _ _ z, Option.some.inj ht'⟩
    refine ks_wpAny_getMethod_super hso (PySem.W.looks_opaque KX M.any) (l₀ := cd.mro) ?_ rfl KX hm hof hofc (PySem.W.ks_ne KX J hc) M.nc ?_
    · exact fun A Q E s k q => wpAny_bind ((PySem.W.looks_clsIn KX hc) A _ E s k (wpAny_pure q))
    · exact h _ (ClX.pin_new (ClX.unpin I0) (fun b o e => Heap.get?_push_of_some _ e) (Nat.le_refl _) (Heap.get?_push_size _ rfl) (fun v z => nomatch z))


end

/-! ### callees by their conventions: n positional values, keywords ks -/
abbrev SpC := List V → List V → Hp → VK → XK → Prop
def Cal (P : Program) (w : World) (K : PySem.W.Frag) (mg : Str → Option Value) (base : Heap) (k : Nat) (f : Addr) (n : Nat) (ks : List Str) (sp : SpC) : Prop :=
  ∀ (A : Around) (outer : List Env) (s : Shared) (H : Hp) (us ws : List Value) (vs zs : List V) (Q : VK) (E : XK), Room k A → Env0 P w K mg base A outer s H → Vals vs us → Vals zs ws → vs.length = n → zs.length = ks.length → sp vs zs H Q E →
    codeAny (model P w) A (.call (.ref f) ⟨us, ks.zip ws⟩) (CR (L2.CX P w) outer P w H s Q E) s
section
variable {P : Program} {w : World} {K : PySem.W.Frag} {mg : Str → Option Value} {base : Heap} {j k : Nat} {f : Addr} {fd : FuncData} {ps ks : List Str} {n : Nat} {sp : Sp} {spc spc' : SpC}
theorem ok_lift {sp : Sp} (F : FnOk P w K mg base CX0 k f fd ps sp) : FnOk P w K mg base (L2.CX P w) k f fd ps sp :=
  ⟨F.len, fun A outer s H args us vs Q E hr e0 hb r h => codeAny_mono (F.run A outer s H args us vs Q E hr e0 hb r h) fun r s' hq => by
    cases r with
    | error e => exact False.elim hq
    | ok fl => cases fl <;> exact hq⟩
theorem calK {g : List Value → List Value → List Value} {gV : List V → List V → List V} (F : FnOk P w K mg base (L2.CX P w) k f fd ps sp) (hb : KBn K fd ps n ks g gV) : Cal P w K mg base k f n ks (fun vs zs => sp (gV vs zs)) :=
  fun A outer s H us ws vs zs Q E hr e0 r rz l1 l2 h =>
    F.run A outer s H ⟨us, ks.zip ws⟩ (g us ws) (gV vs zs) Q E hr e0 (hb.to s us ws (e0.mod.kin.keeps fun b o e => (e0.bs b o e).1) (r.length.symm.trans l1) (rz.length.symm.trans l2)) (hb.rel r rz) h
/-- positional values, the defaults behind them -/
theorem calP {ds : List Value} {dvs : List V} (F : FnOk P w K mg base (L2.CX P w) k f fd ps sp) (hb : Binds K fd ps ds) (hd : Vals dvs ds) (hn : n + ds.length = ps.length) : Cal P w K mg base k f n [] (fun vs _ => sp (vs ++ dvs)) :=
  fun A outer s H us ws vs zs Q E hr e0 r rz l1 l2 h => by
    have e : (⟨us, ([] : List Str).zip ws⟩ : Args) = ⟨us, []⟩ := by rw [List.zip_nil_left]
    rw [e]
    exact F.run A outer s H ⟨us, []⟩ (us ++ ds) (vs ++ dvs) Q E hr e0 (hb s us (e0.mod.kin.keeps fun b o e => (e0.bs b o e).1) (by rw [List.length_append, ← r.length, l1, hn])) (r.append hd) h
theorem cal0 (F : FnOk P w K mg base (L2.CX P w) k f fd ps sp) (hb : Binds K fd ps []) (hn : n = ps.length) : Cal P w K mg base k f n [] (fun vs _ => sp vs) :=
  fun A outer s H us ws vs zs Q E hr e0 r rz l1 l2 h => by
    have e : (⟨us, ([] : List Str).zip ws⟩ : Args) = ⟨us, []⟩ := by rw [List.zip_nil_left]
    rw [e]
    have hl : (us ++ []).length = ps.length := by rw [List.append_nil, ← r.length, l1, hn]
    have hb' := hb s us (e0.mod.kin.keeps fun b o e => (e0.bs b o e).1) hl
    rw [List.append_nil] at hb'
    exact F.run A outer s H ⟨us, []⟩ us vs Q E hr e0 hb' r h
theorem Cal.mono (F : Cal P w K mg base j f n ks spc) (h : j ≤ k) : Cal P w K mg base k f n ks spc := fun A outer s H us ws vs zs Q E hr => F A outer s H us ws vs zs Q E (hr.mono h)
theorem Cal.imp (F : Cal P w K mg base k f n ks spc) (h : ∀ vs zs H Q E, spc' vs zs H Q E → spc vs zs H Q E) : Cal P w K mg base k f n ks spc' := fun A outer s H us ws vs zs Q E hr e0 r rz l1 l2 q => F A outer s H us ws vs zs Q E hr e0 r rz l1 l2 (h _ _ _ _ _ q)
/-- a global def by its name -/
structure GFn (P : Program) (w : World) (K : PySem.W.Frag) (mg : Str → Option Value) (base : Heap) (k : Nat) (x : Str) (n : Nat) (ks : List Str) (sp : SpC) : Prop where
  ex : ∃ f, mg x = some (.ref f) ∧ PySem.W.keepIn K (.ref f) = true ∧ Cal P w K mg base k f n ks sp
/-- a class by its name: C(..) with its __init__ -/
structure GMk (P : Program) (w : World) (K : PySem.W.Frag) (mg : Str → Option Value) (base : Heap) (k : Nat) (x : Str) (C : Addr) (n : Nat) (ks : List Str) (sp : SpC) : Prop where
  at_ : mg x = some (.ref C)
  ex : ∃ f, Mk K C f ∧ Cal P w K mg base k f (n + 1) ks sp
/-- a method of the class at C -/
structure GMt (P : Program) (w : World) (K : PySem.W.Frag) (mg : Str → Option Value) (base : Heap) (k : Nat) (C : Addr) (m : Str) (n : Nat) (ks : List Str) (sp : SpC) : Prop where
  cl : Cls K C
  ex : ∃ f, Meth K C m f ∧ Cal P w K mg base k f (n + 1) ks sp
/-- a property of the class at C -/
structure GPr (P : Program) (w : World) (K : PySem.W.Frag) (mg : Str → Option Value) (base : Heap) (k : Nat) (C : Addr) (m : Str) (sp : SpC) : Prop where
  cl : Cls K C
  ex : ∃ p g, PropOf K C m p g ∧ Cal P w K mg base k g 1 [] sp
end

section
variable {X : Cx} {k n : Nat} {f C : Addr} {ks : List Str} {sp : SpC} {W : WX} {x : Str}
theorem run_cal {pins : List (Addr × Obj)} {σ : L2.St} {H : Hp} {s : Shared} {Q : VK} {us ws : List Value} {vs zs : List V} (F : Cal X.prog X.w X.K X.mg X.base k f n ks sp) (hr : Room k X.A) (tw : Takes X W) (I : Inv X pins σ H s) (r : Vals vs us) (rz : Vals zs ws)
    (l1 : vs.length = n) (l2 : zs.length = ks.length) (h : sp vs zs H Q (WE W σ)) :
    codeAny (model X.prog X.w) X.A (.call (.ref f) ⟨us, ks.zip ws⟩) (fun r s' => match r with | .ok (.ret v) => EP X pins σ Q v s' | .ok _ => False | .error e => X.xe e s') s := by
  refine codeAny_mono (F X.A X.stack s H us ws vs zs Q (WE W σ) hr I.env0 r rz l1 l2 h) fun r s' hq => ?_
  cases r with
  | error e => exact passAt tw σ pins H s e s' I hq
  | ok fl =>
    cases fl with
    | ret u => exact I.after hq
    | next => exact False.elim hq
    | brk => exact False.elim hq
    | cont => exact False.elim hq
end

/-- f(e, .., k = v, ..) -/
def tCalG (n m : Nat) (sp : SpC) (W : WX) (t tk : TA) : TE := fun σ H Q => t σ H fun vs H1 => tk σ H1 fun zs H2 => vs.length = n ∧ zs.length = m ∧ sp vs zs H2 Q (WE W σ)
/-- C(e, .., k = v, ..) -/
def tMkG (C : Addr) (n m : Nat) (sp : SpC) (W : WX) (t tk : TA) : TE := fun σ H Q => t σ H fun vs H1 => tk σ H1 fun zs H2 => vs.length = n ∧ zs.length = m ∧ ∀ x dx, H2 x = none → H2 dx = none → dx ≠ x →
  sp (.ref x :: vs) zs (upd (upd H2 dx (.own x)) x (.ins C dx [])) (fun v H3 => v = .non ∧ Q (.ref x) H3) (WE W σ)
section
variable {X : Cx} {k n : Nat} {f C : Addr} {ks : List Str} {sp : SpC} {W : WX} {x m : Str} {p pos apos : Pos} {e o : Expr} {es : List Expr} {kws : List Keyword} {t tk : TA} {ta : TE}
theorem pe_callG (G : GFn X.prog X.w X.K X.mg X.base k x n ks sp) (hr : Room k X.A) (tw : Takes X W) (ha : PA X (e :: es) t) (hkw : PK X kws tk) (hg : Gl X x := by rfl)
    (hall : (backToKw pos (keywordEach kws X.env)).all (·.1.isSome) = true := by rfl) (hks : (backToKw pos (keywordEach kws X.env)).filterMap (·.1) = ks := by rfl) (hdb : (x == ("__debug__" : Str)) = false := by decide)
    (he : starEach (e :: es) X.env = (false, eval e X.env) :: starEach es X.env := by rfl)
    (hpl : ((backTo pos (starEach (e :: es) X.env)).any (·.1) || (backToKw pos (keywordEach kws X.env)).any (·.1.isNone)) = false := by rfl) :
    PE X (.Call (.Name x p) (e :: es) kws pos) (tCalG n ks.length sp W t tk) := by
  refine ⟨fun pins s σ H Q I h => ?_⟩
  obtain ⟨f, hm, hk, F⟩ := G.ex
  refine wpAny_Call_Name_kw (ld_glob I hg hm ?_ hdb)
  refine PySem.W.callWith_KW (h₀ := X.base) I.ok.mod.kin hk hall (thn (ha.run pos pins s σ H _ I h) fun us s1 ⟨vs, H1, I1, r, q⟩ => ?_) hpl he
  refine thn (hkw.run pos pins s1 σ H1 _ I1 q) fun ws s2 ⟨zs, H2, I2, rz, l1, l2, q2⟩ => ⟨I2.kIn, ?_⟩
  rw [hks]
  exact wpAny_call (run_cal F hr tw I2 r rz l1 l2 q2)
theorem pe_callG0 (G : GFn X.prog X.w X.K X.mg X.base k x n ks sp) (hr : Room k X.A) (tw : Takes X W) (hkw : PK X kws tk) (hg : Gl X x := by rfl)
    (hall : (backToKw pos (keywordEach kws X.env)).all (·.1.isSome) = true := by rfl) (hks : (backToKw pos (keywordEach kws X.env)).filterMap (·.1) = ks := by rfl) (hdb : (x == ("__debug__" : Str)) = false := by decide)
    (hpl : ((backTo pos (starEach [] X.env)).any (·.1) || (backToKw pos (keywordEach kws X.env)).any (·.1.isNone)) = false := by rfl) :
    PE X (.Call (.Name x p) [] kws pos) (tCalG n ks.length sp W tNil tk) := by
  refine ⟨fun pins s σ H Q I h => ?_⟩
  obtain ⟨f, hm, hk, F⟩ := G.ex
  refine wpAny_Call_Name_kw (ld_glob I hg hm ?_ hdb)
  refine PySem.W.callWith_KW0 (h₀ := X.base) I.ok.mod.kin hk hall ?_ hpl
  refine thn (hkw.run pos pins s σ H _ I h) fun ws s2 ⟨zs, H2, I2, rz, l1, l2, q2⟩ => ⟨I2.kIn, ?_⟩
  rw [hks]
  exact wpAny_call (run_cal (us := []) (vs := []) F hr tw I2 .nil rz l1 l2 q2)
theorem run_mk {pins : List (Addr × Obj)} {σ : L2.St} {H : Hp} {s : Shared} {Q : VK} {us ws : List Value} {vs zs : List V} (M : Mk X.K C f) (F : Cal X.prog X.w X.K X.mg X.base k f (n + 1) ks sp) (hr : Room (k + 1) X.A) (tw : Takes X W)
    (I : Inv X pins σ H s) (r : Vals vs us) (rz : Vals zs ws) (l1 : vs.length = n) (l2 : zs.length = ks.length)
    (h : ∀ x dx, H x = none → H dx = none → dx ≠ x → sp (.ref x :: vs) zs (upd (upd H dx (.own x)) x (.ins C dx [])) (fun v H2 => v = .non ∧ Q (.ref x) H2) (WE W σ)) :
    wpAny (model X.prog X.w) X.A (call (.ref C) us (ks.zip ws)) (EP X pins σ Q) X.xe s := by
  have hq := h (s.heap.objs.size + 1) s.heap.objs.size (I.hok.fresh (Nat.le_succ _)) (I.hok.fresh (Nat.le_refl _)) (Nat.ne_of_lt (Nat.lt_succ_self _))
  have I2 := Inv.made (C := C) I
  have r1 : Vals (V.ref (s.heap.objs.size + 1) :: vs) (Value.ref (s.heap.objs.size + 1) :: us) := .cons rfl r
  have n1 : (V.ref (s.heap.objs.size + 1) :: vs).length = n + 1 := by
    rw [List.length_cons, l1]
  refine wpAny_call (make_map (f := f) I.kIn M.makes M.init (beq_iff_eq.mp M.fn) (codeAny_mono (F _ X.stack _ _ (Value.ref (s.heap.objs.size + 1) :: us) ws _ _ _ (WE W σ) (hr.make C us (ks.zip ws))
    (I2.env0.make C us (ks.zip ws)) r1 rz n1 l2 hq) fun r s' hq' => ?_))
  cases r with
  | error e => exact passAt tw σ pins _ _ e s' I2 hq'
  | ok fl =>
    cases fl with
    | ret u =>
      obtain ⟨v, H', I3, rv, ev, q3⟩ := I2.after hq'
      subst ev
      exact ⟨rv, ⟨V.ref (s.heap.objs.size + 1), H', I3, rfl, q3⟩⟩
    | next => exact False.elim hq'
    | brk => exact False.elim hq'
    | cont => exact False.elim hq'
theorem pe_makeG (G : GMk X.prog X.w X.K X.mg X.base k x C n ks sp) (hr : Room (k + 1) X.A) (tw : Takes X W) (ha : PA X (e :: es) t) (hkw : PK X kws tk) (hg : Gl X x := by rfl)
    (hall : (backToKw pos (keywordEach kws X.env)).all (·.1.isSome) = true := by rfl) (hks : (backToKw pos (keywordEach kws X.env)).filterMap (·.1) = ks := by rfl) (hdb : (x == ("__debug__" : Str)) = false := by decide)
    (he : starEach (e :: es) X.env = (false, eval e X.env) :: starEach es X.env := by rfl) (hpl : ((backTo pos (starEach (e :: es) X.env)).any (·.1) || (backToKw pos (keywordEach kws X.env)).any (·.1.isNone)) = false := by rfl) :
    PE X (.Call (.Name x p) (e :: es) kws pos) (tMkG C n ks.length sp W t tk) := by
  refine ⟨fun pins s σ H Q I h => ?_⟩
  obtain ⟨f, M, F⟩ := G.ex
  refine wpAny_Call_Name_kw (ld_glob I hg G.at_ ?_ hdb)
  refine PySem.W.callWith_KW (h₀ := X.base) I.ok.mod.kin M.kp hall (thn (ha.run pos pins s σ H _ I h) fun us s1 ⟨vs, H1, I1, r, q⟩ => ?_) hpl he
  refine thn (hkw.run pos pins s1 σ H1 _ I1 q) fun ws s2 ⟨zs, H2, I2, rz, l1, l2, q2⟩ => ⟨I2.kIn, ?_⟩
  rw [hks]
  exact run_mk M F hr tw I2 r rz l1 l2 q2
theorem pe_makeG0 (G : GMk X.prog X.w X.K X.mg X.base k x C n ks sp) (hr : Room (k + 1) X.A) (tw : Takes X W) (hkw : PK X kws tk) (hg : Gl X x := by rfl)
    (hall : (backToKw pos (keywordEach kws X.env)).all (·.1.isSome) = true := by rfl) (hks : (backToKw pos (keywordEach kws X.env)).filterMap (·.1) = ks := by rfl) (hdb : (x == ("__debug__" : Str)) = false := by decide)
    (hpl : ((backTo pos (starEach [] X.env)).any (·.1) || (backToKw pos (keywordEach kws X.env)).any (·.1.isNone)) = false := by rfl) :
    PE X (.Call (.Name x p) [] kws pos) (tMkG C n ks.length sp W tNil tk) := by
  refine ⟨fun pins s σ H Q I h => ?_⟩
  obtain ⟨f, M, F⟩ := G.ex
  refine wpAny_Call_Name_kw (ld_glob I hg G.at_ ?_ hdb)
  refine PySem.W.callWith_KW0 (h₀ := X.base) I.ok.mod.kin M.kp hall ?_ hpl
  refine thn (hkw.run pos pins s σ H _ I h) fun ws s2 ⟨zs, H2, I2, rz, l1, l2, q2⟩ => ⟨I2.kIn, ?_⟩
  rw [hks]
  exact run_mk (us := []) (vs := []) M F hr tw I2 .nil rz l1 l2 q2
/-- o.m(e, .., k = v, ..), whatever class o is of -/
def tMtG (P : Program) (w : World) (K : PySem.W.Frag) (mg : Str → Option Value) (base : Heap) (k : Nat) (m : Str) (n : Nat) (ks : List Str) (W : WX) (ta : TE) (t tk : TA) : TE := fun σ H Q => ta σ H fun x H1 => ∃ a C dx fs sp, x = .ref a ∧ H1 a = some (.ins C dx fs) ∧ fs.lookup m = none ∧
  GMt P w K mg base k C m n ks sp ∧ t σ H1 fun vs H2 => tk σ H2 fun zs H3 => vs.length = n ∧ zs.length = ks.length ∧ sp (.ref a :: vs) zs H3 Q (WE W σ)
theorem pe_methG {pl : Sem Bool} (he : PE X o ta) (hr : Room k X.A) (tw : Takes X W) (ha : PA X (e :: es) t) (hkw : PK X kws tk)
    (hall : (backToKw pos (keywordEach kws X.env)).all (·.1.isSome) = true := by rfl) (hks : (backToKw pos (keywordEach kws X.env)).filterMap (·.1) = ks := by rfl)
    (hst : starEach (e :: es) X.env = (false, eval e X.env) :: starEach es X.env := by rfl) (hpl : ((backTo pos (starEach (e :: es) X.env)).any (·.1) || (backToKw pos (keywordEach kws X.env)).any (·.1.isNone)) = false := by rfl)
    (ht : eval (.Call (.Attribute o m apos) (e :: es) kws pos) X.env = (do
      let ov ← eval o X.env
      standAt apos.atName
      let (f, first) ← holding [ov] (getMethod ov m pl)
      callWith pos f first (backTo pos (starEach (e :: es) X.env)) (backToKw pos (keywordEach kws X.env))) := by rfl) :
    PE X (.Call (.Attribute o m apos) (e :: es) kws pos) (tMtG X.prog X.w X.K X.mg X.base k m n ks W ta t tk) := by
  refine ⟨fun pins s σ H Q I h => ?_⟩
  refine PySem.W.methodCall_KW (pl := pl) (thn (he.run pins s σ H _ I h) fun u s1 ⟨x, H1, I1, rx, a, C, dx, fs, sp, ex, ea, l, G, q⟩ => ?_) ht
  subst ex
  obtain rfl : u = Value.ref a := rx
  obtain ⟨f, M, F⟩ := G.ex
  refine getmeth_ok I1 ea G.cl M l ?_
  refine PySem.W.callWith_KW (h₀ := X.base) I.ok.mod.kin M.kp hall (thn (ha.run pos pins s1 σ H1 _ I1 q) fun us s2 ⟨vs, H2, I2, r, q⟩ => ?_) hpl hst
  refine thn (hkw.run pos pins s2 σ H2 _ I2 q) fun ws s3 ⟨zs, H3, I3, rz, l1, l2, q3⟩ => ⟨I3.kIn, ?_⟩
  rw [hks]
  exact wpAny_call (run_cal (us := .ref a :: us) (vs := .ref a :: vs) F hr tw I3 (.cons rfl r) rz (by rw [List.length_cons, l1]) l2 q3)
theorem pe_methG0 {pl : Sem Bool} (he : PE X o ta) (hr : Room k X.A) (tw : Takes X W) (hkw : PK X kws tk)
    (hall : (backToKw pos (keywordEach kws X.env)).all (·.1.isSome) = true := by rfl) (hks : (backToKw pos (keywordEach kws X.env)).filterMap (·.1) = ks := by rfl)
    (hpl : ((backTo pos (starEach [] X.env)).any (·.1) || (backToKw pos (keywordEach kws X.env)).any (·.1.isNone)) = false := by rfl)
    (ht : eval (.Call (.Attribute o m apos) [] kws pos) X.env = (do
      let ov ← eval o X.env
      standAt apos.atName
      let (f, first) ← holding [ov] (getMethod ov m pl)
      callWith pos f first (backTo pos (starEach [] X.env)) (backToKw pos (keywordEach kws X.env))) := by rfl) :
    PE X (.Call (.Attribute o m apos) [] kws pos) (tMtG X.prog X.w X.K X.mg X.base k m n ks W ta tNil tk) := by
  refine ⟨fun pins s σ H Q I h => ?_⟩
  refine PySem.W.methodCall_KW (pl := pl) (thn (he.run pins s σ H _ I h) fun u s1 ⟨x, H1, I1, rx, a, C, dx, fs, sp, ex, ea, l, G, q⟩ => ?_) ht
  subst ex
  obtain rfl : u = Value.ref a := rx
  obtain ⟨f, M, F⟩ := G.ex
  refine getmeth_ok I1 ea G.cl M l ?_
  refine PySem.W.callWith_KW0 (h₀ := X.base) I.ok.mod.kin M.kp hall ?_ hpl
  refine thn (hkw.run pos pins s1 σ H1 _ I1 q) fun ws s3 ⟨zs, H3, I3, rz, l1, l2, q3⟩ => ⟨I3.kIn, ?_⟩
  rw [hks]
  exact wpAny_call (run_cal (us := [.ref a]) (vs := [.ref a]) F hr tw I3 (.cons rfl .nil) rz (by rw [← l1]; rfl) l2 q3)
/-- o.f, a property, whatever class o is of -/
def tPrG (P : Program) (w : World) (K : PySem.W.Frag) (mg : Str → Option Value) (base : Heap) (k : Nat) (m : Str) (ta : TE) : TE := fun σ H Q => ta σ H fun x H1 => ∃ a C dx fs sp, x = .ref a ∧ H1 a = some (.ins C dx fs) ∧
  GPr P w K mg base k C m sp ∧ sp [.ref a] [] H1 Q E0
theorem pe_propG (he : PE X o ta) (hr : Room (k + 1) X.A)
    (hab : attributeBase o m X.env (eval o X.env) = eval o X.env := by rfl) : PE X (.Attribute o m pos) (tPrG X.prog X.w X.K X.mg X.base k m ta) := by
  refine ⟨fun pins s σ H Q I h => ?_⟩
  refine attr_of hab (thn (he.run pins s σ H _ I h) fun u s1 ⟨x, H1, I1, rx, a, C, dx, fs, sp, ex, ea, G, q⟩ => ?_)
  subst ex
  obtain rfl : u = Value.ref a := rx
  obtain ⟨p, g, hp, F⟩ := G.ex
  obtain ⟨mA, O, _, _, _, _⟩ := ins_get I1.hok ea
  obtain ⟨od, J, _⟩ := O.look
  obtain ⟨rest, hrec⟩ := hp.rec_
  have I2 := I1.tok (s1.toks + 1)
  have hc : (PySem.W.clsIn X.K C).isSome = true := by
    obtain ⟨cd, hc, _⟩ := PySem.W.any_some G.cl.hd
    rw [hc]
    rfl
  refine PySem.W.get_bind I1.kIn J (PySem.W.plainGet_of (G.cl.get m)).1 (PySem.W.findObj_data hc hp.at_ hp.get hp.tak) (PySem.W.plainGet_of (G.cl.get m)).2 (wpAny_call (PySem.W.prop_get (s := { s1 with toks := s1.toks + 1 }) I1.kIn hrec ?_))
  refine codeAny_mono (F X.A.in1 X.stack { s1 with toks := s1.toks + 1 } H1 [.ref a] [] [.ref a] [] Q E0 hr.in1 I2.env0.in1 (.cons rfl .nil) .nil rfl rfl q) fun r s' hq => ?_
  cases r with
  | error er => exact False.elim (passL (X := X.nox) pins σ H1 { s1 with toks := s1.toks + 1 } er s' (I2.wish _) hq)
  | ok fl =>
    cases fl with
    | ret u =>
      obtain ⟨v, H', I3, rv, q3⟩ := I2.after hq
      show wpAny _ _ (handedOut u) _ _ _
      rw [PySem.W.handedOut_of (handed_of rv)]
      exact wpAny_pure ⟨v, H', I3, rv, q3⟩
    | next => exact False.elim hq
    | brk => exact False.elim hq
    | cont => exact False.elim hq
end
end Sw

set_option Elab.async false
set_option linter.all false
set_option maxRecDepth 100000
set_option maxHeartbeats 4000000
namespace Sw
open PySem PySem.Spec PyProof.Rows L2

theorem run_sup {X : Cx} {pins : List (Addr × Obj)} {σ : L2.St} {H : Hp} {s : Shared} {a : Addr} {k n : Nat} {g q : Addr} {ks : List Str} {sp : SpC} {W : WX} {Q : VK} {us ws : List Value} {vs zs : List V} (F : Cal X.prog X.w X.K X.mg X.base k g (n + 1) ks sp) (hr : Room k X.A) (tw : Takes X W)
    (I : Inv X ((q, PySem.W.methodObj (.ref g) (.ref a)) :: pins) σ H s) (r : Vals vs us) (rz : Vals zs ws) (l1 : vs.length = n) (l2 : zs.length = ks.length) (h : sp (.ref a :: vs) zs H Q (WE W σ)) : wpAny (model X.prog X.w) X.A (call (.ref q) us (ks.zip ws)) (EP X pins σ Q) X.xe s := by
  have hrun := run_cal (us := .ref a :: us) (vs := .ref a :: vs) F hr tw I (.cons rfl r) rz (by rw [List.length_cons, l1]) l2 h
  have z : wpAny (model X.prog X.w) X.A (call (.ref q) us (ks.zip ws)) (EP X ((q, PySem.W.methodObj (.ref g) (.ref a)) :: pins) σ Q) X.xe s :=
    wpAny_call (PySem.W.method_call (ClX.pin_at I) hrun)
  exact thn z fun _ _ y => ClX.unpinE y

/-- a method call on super(), with keywords too -/
theorem wpAt_superCall {M : Model} {A : Around} {c : Code} {env : Env} {o : Expr} {name : Str} {apos pos : Pos} {args : List Expr} {kws : List Keyword} {pl : Sem Bool} {E : Value → Shared → Prop} {s : Shared} {Q : Value → Shared → Prop}
    (h : _root_.PySem.wpAt M A c (attributeBase o name env (eval o env)) (fun ov s₁ => wpAny M A (getMethod ov name pl) (fun fx s₂ => wpAny M A (callWith pos fx.1 fx.2 (backTo pos (starEach args env)) (backToKw pos (keywordEach kws env))) Q E s₂) E s₁) E s)
    (he : eval (.Call (.Attribute o name apos) args kws pos) env = (do
      let ov ← attributeBase o name env (eval o env)
      standAt apos.atName
      let (f, first) ← holding [ov] (getMethod ov name pl)
      callWith pos f first (backTo pos (starEach args env)) (backToKw pos (keywordEach kws env)))) :
    _root_.PySem.wpAt M A c (eval (.Call (.Attribute o name apos) args kws pos) env) Q E s := by
  rw [he]
  refine PySem.wpAt_bind (ks_wpAt_mono h (fun ov s₁ h₁ => wpAt_of_wpAny (wpAny_bind (wpAny_standAt (wpAny_bind (wpAny_holding (wpAny_mono h₁ (fun fx s₂ h₂ => ?_) fun _ _ x => x)))))) fun _ _ x => x)
  exact h₂

/-- super().m(e, .., k = v, ..) in a method of D called with an instance of C: the def found above D -/
def tSup (C : Addr) (n : Nat) (ks : List Str) (sp : SpC) (W : WX) (t tk : TA) : TE := fun σ H Q => ∃ a dx fs, σ[0]? = some (some (.ref a)) ∧ H a = some (.ins C dx fs) ∧
  t σ H fun vs H1 => tk σ H1 fun zs H2 => vs.length = n ∧ zs.length = ks.length ∧ sp (.ref a :: vs) zs H2 Q (WE W σ)
section
variable {X : Cx} {k n : Nat} {f g C D cda cc : Addr} {ks : List Str} {sp : SpC} {W : WX} {m : Str} {p0 p1 pos apos : Pos} {e : Expr} {es : List Expr} {kws : List Keyword} {t tk : TA} {body : List Stmt} {pl : Sem Bool}
theorem pet_sup (T : SupT X f cda cc D) (M : SupM X.K C D m g) (F : Cal X.prog X.w X.K X.mg X.base k g (n + 1) ks sp) (hr : Room k X.A) (tw : Takes X W) (ha : PA X (e :: es) t) (hkw : PK X kws tk)
    (hall : (backToKw pos (keywordEach kws X.env)).all (·.1.isSome) = true := by rfl) (hks : (backToKw pos (keywordEach kws X.env)).filterMap (·.1) = ks := by rfl)
    (hst : starEach (e :: es) X.env = (false, eval e X.env) :: starEach es X.env := by rfl) (hpl : ((backTo pos (starEach (e :: es) X.env)).any (·.1) || (backToKw pos (keywordEach kws X.env)).any (·.1.isNone)) = false := by rfl)
    (ht : eval (.Call (.Attribute (.Call (.Name "super" p0) [] [] p1) m apos) (e :: es) kws pos) X.env = (do
      let ov ← attributeBase (.Call (.Name "super" p0) [] [] p1) m X.env (eval (.Call (.Name "super" p0) [] [] p1) X.env)
      standAt apos.atName
      let (f, first) ← holding [ov] (getMethod ov m pl)
      callWith pos f first (backTo pos (starEach (e :: es) X.env)) (backToKw pos (keywordEach kws X.env))) := by rfl) :
    PEt X body (.Call (.Attribute (.Call (.Name "super" p0) [] [] p1) m apos) (e :: es) kws pos) (tSup C n ks sp W t tk) := by
  refine ⟨fun pins s σ H Q I h => ?_⟩
  obtain ⟨a, dx, fs, h0, ea, q⟩ := h
  obtain ⟨mA, O, _, _, _, _⟩ := ins_get I.hok ea
  obtain ⟨od, J, _⟩ := O.look
  refine wpAt_superCall (pl := pl) (super_base T I h0 J M.sub M.nc fun s1 I1 k1 => ?_) ht
  obtain ⟨mA1, O1, _, _, _, _⟩ := ins_get I1.hok ea
  obtain ⟨od1, J1, _⟩ := O1.look
  refine super_meth M I1 J1 fun s2 I2 => ?_
  have hq := ClX.pin_at I2
  have hb : X.base.get? s1.heap.objs.size = none := ClX.base_none I1 (Nat.le_refl _)
  refine PySem.W.callWith_of hpl (P := PySem.W.MethP X.K s1.heap.objs.size g (.ref a)) (PySem.W.keeps_M M.fi) (PyProof.Rows.evalArgs_kw2 hall (thn (ha.run pos _ s2 σ H _ I2 q) fun us s3 ⟨vs, H1, I3, r, q⟩ => ?_) hst)
  refine thn (hkw.run pos _ s3 σ H1 _ I3 q) fun ws s4 ⟨zs, H2, I4, rz, l1, l2, q4⟩ => ⟨⟨ClX.pin_at I4, I4.kIn⟩, ?_⟩
  rw [hks]
  exact run_sup F hr tw I4 r rz l1 l2 q4
theorem pet_sup0 (T : SupT X f cda cc D) (M : SupM X.K C D m g) (F : Cal X.prog X.w X.K X.mg X.base k g (n + 1) ks sp) (hr : Room k X.A) (tw : Takes X W) (hkw : PK X kws tk)
    (hall : (backToKw pos (keywordEach kws X.env)).all (·.1.isSome) = true := by rfl) (hks : (backToKw pos (keywordEach kws X.env)).filterMap (·.1) = ks := by rfl)
    (hpl : ((backTo pos (starEach [] X.env)).any (·.1) || (backToKw pos (keywordEach kws X.env)).any (·.1.isNone)) = false := by rfl)
    (ht : eval (.Call (.Attribute (.Call (.Name "super" p0) [] [] p1) m apos) [] kws pos) X.env = (do
      let ov ← attributeBase (.Call (.Name "super" p0) [] [] p1) m X.env (eval (.Call (.Name "super" p0) [] [] p1) X.env)
      standAt apos.atName
      let (f, first) ← holding [ov] (getMethod ov m pl)
      callWith pos f first (backTo pos (starEach [] X.env)) (backToKw pos (keywordEach kws X.env))) := by rfl) :
    PEt X body (.Call (.Attribute (.Call (.Name "super" p0) [] [] p1) m apos) [] kws pos) (tSup C n ks sp W tNil tk) := by
  refine ⟨fun pins s σ H Q I h => ?_⟩
  obtain ⟨a, dx, fs, h0, ea, q⟩ := h
  obtain ⟨mA, O, _, _, _, _⟩ := ins_get I.hok ea
  obtain ⟨od, J, _⟩ := O.look
  refine wpAt_superCall (pl := pl) (super_base T I h0 J M.sub M.nc fun s1 I1 k1 => ?_) ht
  obtain ⟨mA1, O1, _, _, _, _⟩ := ins_get I1.hok ea
  obtain ⟨od1, J1, _⟩ := O1.look
  refine super_meth M I1 J1 fun s2 I2 => ?_
  refine PySem.W.callWith_of hpl (P := PySem.W.MethP X.K s1.heap.objs.size g (.ref a)) (PySem.W.keeps_M M.fi) (PyProof.Rows.evalArgs_kw2_nil hall ?_)
  refine thn (hkw.run pos _ s2 σ H _ I2 q) fun ws s4 ⟨zs, H2, I4, rz, l1, l2, q4⟩ => ⟨⟨ClX.pin_at I4, I4.kIn⟩, ?_⟩
  rw [hks]
  exact run_sup (us := []) (vs := []) F hr tw I4 .nil rz l1 l2 q4
end

/-! ### an own exception's __init__: super().__init__(text), then the fields -/
/-- what the written part says of the class C (over ValueError by own classes), above D its __init__ is ValueError's -/
structure SupE (K : PySem.W.Frag) (C D : Addr) : Prop where
  ox : OexC K C
  any : PySem.W.nsIn K PySem.cStatics "thirdparty.any" = some none
  at_ : PySem.W.ks_superIn K C D "__init__" = some (some (.builtin "ValueError.__init__"))
  sub : PySem.W.mroIn K C (.ref D) = some true
  ve : PySem.W.subIn K (.ref C) (.type "ValueError") = some true
/-- super().__init__(e, ..): nothing of it is told -/
def tSupE (C : Addr) (t : TA) : TE := fun σ H Q => ∃ a, σ[0]? = some (some (.ref a)) ∧ H a = some (exo a C none) ∧ t σ H fun vs H1 => vs.length ≤ 1000 ∧ H1 a = some (exo a C none) ∧ Q .non H1
section
variable {X : Cx} {f C D cda cc : Addr} {p0 p1 pos apos : Pos} {e : Expr} {es : List Expr} {t : TA} {body : List Stmt} {pl : Sem Bool}
theorem call_mw {pins : List (Addr × Obj)} {σ : L2.St} {H : Hp} {s : Shared} {a u : Addr} {rest : List Value} {Q : Value → Shared → Prop} {A : Around} {E : Value → Shared → Prop} (T : OexC X.K C) (I : Inv X ((u, PySem.W.kxs_mw "ValueError.__init__" a) :: pins) σ H s) (e : H a = some (exo a C none)) (hl : rest.length ≤ sizeLine)
    (h : ∀ s', Inv X pins σ H s' → Q .none s') : wpAny (model X.prog X.w) A (call (.ref u) rest) Q E s := by
  obtain ⟨nm, q, N, bs, bm, sn, sub, ab, col, dd, k0, k1, k2, k3, k5, hC, hbm⟩ := T.cls
  have hu := ClX.pin_at I
  have KX := I.kIn
  obtain ⟨t1, ho⟩ := exo_at I.hok e
  have I0 := ClX.unpin I
  obtain ⟨hp, g, d, tk, os⟩ := s
  refine wpAny_call (codeAny_of_tree ?_)
  show wpAny _ A.in1 (callAny (.ref u) ⟨rest, []⟩) _ _ _
  simp only [callAny]
  refine wpAny_bind (wpAny_load hu ?_)
  simp only [PySem.W.kxs_mw, show (Value.type "method-wrapper" == Value.type "method" || Value.type "method-wrapper" == Value.type "builtin_function_or_method" || Value.type "method-wrapper" == Value.type "method-wrapper") = true by decide, if_true]
  refine PySem.W.KFB.if_so (by decide) ?_
  refine wpAny_bind (PySem.W.check_bound_init F.excBase_ValueError.toExcCallFacts (KX _ _ hC) ho rfl ?_)
  refine wpAny_bind (wpAny_pure (wpAny_pure ?_))
  refine ⟨PySem.plainId_quiet F.excBase_ValueError.init.plain _, codeAny_builtin F.excBase_ValueError.initEntry ?_⟩
  refine PySem.W.exc_init_tree (cls := .ref C) (t0 := t1) (dv := none) (c2 := .none) (c3 := .none) (b4 := .bool false) ho hl fun h' k hx _ => ?_
  have J := I0.write (t' := tk) (x := a) (e := a) (o := exo a C none) (by rw [e]; exact True.intro) (.inl rfl) k ⟨_, hx⟩ (exo_ok hx)
  have eu : upd H a (exo a C none) = H := by
    funext b
    by_cases hb : b = a
    · rw [hb, upd_same, e]
    · rw [upd_ne hb]
  rw [eu] at J
  exact h _ J
theorem pet_supE (T : SupT X f cda cc D) (M : SupE X.K C D) (ha : PA X (e :: es) t)
    (hst : starEach (e :: es) X.env = (false, eval e X.env) :: starEach es X.env := by rfl) (hpl : (backTo pos (starEach es X.env)).any (·.1) = false := by rfl)
    (ht : eval (.Call (.Attribute (.Call (.Name "super" p0) [] [] p1) "__init__" apos) (e :: es) [] pos) X.env = (do
      let ov ← attributeBase (.Call (.Name "super" p0) [] [] p1) "__init__" X.env (eval (.Call (.Name "super" p0) [] [] p1) X.env)
      standAt apos.atName
      let (f, first) ← holding [ov] (getMethod ov "__init__" pl)
      callWith pos f first (backTo pos (starEach (e :: es) X.env)) (backToKw pos (keywordEach [] X.env))) := by rfl) :
    PEt X body (.Call (.Attribute (.Call (.Name "super" p0) [] [] p1) "__init__" apos) (e :: es) [] pos) (tSupE C t) := by
  refine ⟨fun pins s σ H Q I h => ?_⟩
  obtain ⟨a, h0, ea, q⟩ := h
  have mk : ∀ {s : Shared} {pins : List (Addr × Obj)} {H : Hp}, Inv X pins σ H s → H a = some (exo a C none) → ∃ ox, PySem.W.InstAt s.heap a ox C none := fun I ea => by
    obtain ⟨t1, ho⟩ := exo_at I.hok ea
    exact ⟨_, ho, rfl, rfl, trivial⟩
  obtain ⟨ox, J⟩ := mk I ea
  refine wpAt_superCall (pl := pl) (super_base T I h0 J M.sub (by decide +kernel) fun s1 I1 k1 => ?_) ht
  obtain ⟨ox1, J1⟩ := mk I1 ea
  have KX : X.K.In s1.heap := I1.kIn
  have hso := ClX.pin_at I1
  have hm := M.at_
  have hI : PySem.W.Looks (model X.prog X.w) s1.heap (isInstance (.ref a) (.type "ValueError")) true := J1.type.andThen (PySem.W.looks_subIn KX M.ve)
  obtain ⟨hh, gg, d, tt, os⟩ := s1
  cases hc : PySem.W.clsIn X.K C with
  | none => unfold PySem.W.ks_superIn at hm; rw [hc] at hm; cases hm
  | some cd =>
    unfold PySem.W.ks_superIn at hm
    rw [hc] at hm
    refine PySem.W.kxs_getMethod PySem.W.kxs_ValueError hso (PySem.W.looks_opaque KX M.any) (l₀ := cd.mro) ?_ rfl KX hm hI (PySem.W.ks_ne KX J1 hc) (by decide +kernel) ?_
    · exact fun A Q E s k q => wpAny_bind ((PySem.W.looks_clsIn KX hc) A _ E s k (wpAny_pure q))
    · have I2 : Inv X ((hh.objs.size, PySem.W.kxs_mw "ValueError.__init__" a) :: pins) σ H ⟨hh.push (PySem.W.kxs_mw "ValueError.__init__" a), gg, d, tt + 1, os⟩ :=
        ClX.pin_new (s := ⟨hh, gg, d, tt, os⟩) (t' := tt + 1) (ClX.unpin I1) (fun b o e => Heap.get?_push_of_some _ e) (Nat.le_refl _) (Heap.get?_push_size hh rfl) (fun v z => nomatch z)
      show wpAny _ _ (callWith pos (.ref hh.objs.size) [] (backTo pos (starEach (e :: es) X.env)) []) _ _ _
      rw [hst]
      refine PySem.W.kxs_callWith (i := "ValueError.__init__") (u := hh.objs.size) (x := a) (first := []) (by show (false || (backTo pos (starEach es X.env)).any (·.1)) = false; rw [hpl]; rfl) ?_
      have hrun := thn (ha.run pos _ _ σ H _ I2 q) (Q' := fun us s3 => PySem.W.KxsAt "ValueError.__init__" hh.objs.size a s3.heap ∧ wpAny (model X.prog X.w) X.A (call (.ref hh.objs.size) us) (EP X pins σ Q) X.xe s3) fun us s3 ⟨vs, H1, I3, r, hl, e3, q3⟩ =>
        ⟨ClX.pin_at I3, call_mw M.ox I3 e3 (by rw [← r.length, sizeLine_eq]; omega) fun s4 I4 => ⟨.non, H1, I4, rfl, q3⟩⟩
      rw [hst] at hrun
      exact PySem.Calls.evalArgs_plain hrun
end
end Sw

set_option Elab.async false
set_option linter.all false
set_option maxRecDepth 100000
set_option maxHeartbeats 4000000
namespace Sw
open PySem PySem.Spec PyProof.Rows L2

/-! ### a def with super() as it stands behind the top -/
structure FunS (P : Program) (K : PySem.W.Frag) (x qual : Str) (st : Stmt) (f cc D cda : Addr) (fd : FuncData) : Prop where
  ex : ∃ (oc : Value) (od : Option Addr) (dV kV doc pm : Value) (an : Option Addr) (ct : Value) (osl : Array (Option Value)), fd = PySem.W.ksFn x qual (defArgs st) (defBody st) (defScope st) dV kV doc pm an (.ref cda) ct cc ∧ K.lookup f = some ⟨oc, od, .func fd, osl⟩
  cd : PySem.W.codeIn K (.ref cda) qual = true
  co : ∃ ccl cdd vs ccs file tf, K.lookup cda = some ⟨ccl, cdd, .fields vs, ccs⟩ ∧ vs[2]? = some (.str file tf) ∧ ((P.main.file : Str) == file) = true
  ce : ∃ cl cld csl, K.lookup cc = some ⟨cl, cld, .cell (some (.ref D)), csl⟩
  dc : ∃ cdD, PySem.W.clsIn K D = some cdD
  kp : PySem.W.keepIn K (.ref f) = true
/-- what the text and the top say of super -/
structure SupTop (P : Program) (mg : Str → Option Value) : Prop where
  su : mg "super" = none
  tp : (P.main.scope.names.lookup ("super" : Str)).isSome = false

section
variable {P : Program} {w : World} {K : PySem.W.Frag} {mg : Str → Option Value} {base : Heap}
theorem FunS.ok {x qual : Str} {st : Stmt} {f cc D cda : Addr} {fd : FuncData} {N ps : List Str} {k : Nat} {sp : Sp} (F : FunS P K x qual st f cc D cda fd) (S : SScope N ps (defScope st)) (U : SupTop P mg)
    (ks : (defScope st).names.lookup ("super" : Str) = some .globalImplicit) (kc : (defScope st).names.lookup ("__class__" : Str) = some .free)
    (hp : ∃ ar, ((defArgs st).posonlyargs ++ (defArgs st).args).head? = some ar ∧ N[0]? = some ar.arg ∧ (defScope st).names.lookup ar.arg = some .local)
    (len : ∀ vs H Q E, sp vs H Q E → vs.length = ps.length)
    (hbody : ∀ (A : Around) (outer : List Env) (s : Shared) (H : Hp) (vs : List V) (Q : VK) (E : XK), Room k (A.deeper (PySem.W.ksEnv qual (defScope st) s.heap.objs.size f (.ref cda) cc)) →
      SupT (cxS (L2.CX P w) P w K mg base N qual (defScope st) f (.ref cda) cc A outer s H E) f cda cc D → Takes (cxS (L2.CX P w) P w K mg base N qual (defScope st) f (.ref cda) cc A outer s H E) (fun cls d _ H => E cls d H) → sp vs H Q E →
      ∃ t, PSst (cxS (L2.CX P w) P w K mg base N qual (defScope st) f (.ref cda) cc A outer s H E) (defBody st) (defBody st) t ∧ t { nx := fun _ H' => Q .non H', rt := Q } (L2.start N vs) H) : FnOk P w K mg base (L2.CX P w) (k + 1) f fd ps sp := by
  obtain ⟨oc, od, dV, kV, doc, pm, an, ct, osl, rfl, lk⟩ := F.ex
  obtain ⟨cl, cld, csl, hcc⟩ := F.ce
  obtain ⟨ar, h1, h2, h3⟩ := hp
  exact fn_sup lk F.cd hcc S len fun A outer s H vs Q E hr hsp => hbody A outer s H vs Q E hr
    ⟨rfl, rfl, ⟨oc, od, _, osl, ar, lk, h1, h2, h3⟩, F.co, F.ce, by show List.lookup ("__class__" : Str) [(("__class__" : Str), cc)] = _; simp [List.lookup], F.dc, U.su, ks, kc, U.tp⟩ (takes_of rfl rfl rfl rfl) hsp
/-- a plain def: its takes and its frame's handing on at hand -/
theorem okT {x qual : Str} {st : Stmt} {f : Addr} {fd : FuncData} {N ps : List Str} {k : Nat} {sp : Sp} (F : Fun K x qual st f fd) (S : FnScope N ps (defScope st)) (len : ∀ vs H Q E, sp vs H Q E → vs.length = ps.length)
    (hbody : ∀ (cdv : Value) (A : Around) (outer : List Env) (s : Shared) (H : Hp) (vs : List V) (Q : VK) (E : XK), Room k (A.deeper (envOfC qual (defScope st) s.heap.objs.size f cdv)) →
      Takes (cxOf (L2.CX P w) P w K mg base N qual (defScope st) f cdv A outer s H E) (fun cls d _ H => E cls d H) →
      PassesOwn (model P w) (A.deeper (envOfC qual (defScope st) s.heap.objs.size f cdv)) (envOfC qual (defScope st) s.heap.objs.size f cdv) (cxOf (L2.CX P w) P w K mg base N qual (defScope st) f cdv A outer s H E).xe → sp vs H Q E →
      ∃ t, PSs (cxOf (L2.CX P w) P w K mg base N qual (defScope st) f cdv A outer s H E) (defBody st) t ∧ t { nx := fun _ H' => Q .non H', rt := Q } (L2.start N vs) H) : FnOk P w K mg base (L2.CX P w) (k + 1) f fd ps sp :=
  F.okX S len fun cdv A outer s H vs Q E hr h => hbody cdv A outer s H vs Q E hr (takes_of rfl rfl rfl rfl) (passes_of (X := cxOf (L2.CX P w) P w K mg base N qual (defScope st) f cdv A outer s H E) rfl) h

/-! ### the __init__ of an exception with one field -/
def spExc1 (C : Addr) (fld : Str) : Sp := fun vs H Q _ => ∃ a v, vs = [.ref a, v] ∧ H a = some (exo a C none) ∧ ∀ d, H d = none → d ≠ a → Q .non (upd (upd H d (exd d [(fld, v)])) a (exo a C (some d)))
theorem ok_exc1 {qual msg fld : Str} {st : Stmt} {f cc C cda : Addr} {fd : FuncData} {p0 p1 p2 p3 p4 p5 q1 q2 q3 q4 : Pos} {j : Nat} (F : FunS P K "__init__" qual st f cc C cda fd) (U : SupTop P mg) (M : SupE K C C) (hno : PySem.W.findIn K (.ref C) fld = some none)
    (S : SScope ["self", fld] ["self", fld] (defScope st))
    (ks : (defScope st).names.lookup ("super" : Str) = some .globalImplicit) (kc : (defScope st).names.lookup ("__class__" : Str) = some .free)
    (hp : ∃ ar, ((defArgs st).posonlyargs ++ (defArgs st).args).head? = some ar ∧ (["self", fld] : List Str)[0]? = some ar.arg ∧ (defScope st).names.lookup ar.arg = some .local)
    (hb : defBody st = [.Expr (.Call (.Attribute (.Call (.Name "super" p0) [] [] p1) "__init__" p2) [.Constant (.str msg) j p3] [] p4) p5, .Assign [.Attribute (.Name "self" q1) fld q2] (.Name fld q3) q4])
    (ht : ∀ env : Env, ∃ pl, eval (.Call (.Attribute (.Call (.Name "super" p0) [] [] p1) "__init__" p2) [.Constant (.str msg) j p3] [] p4) env = (do
      let ov ← attributeBase (.Call (.Name "super" p0) [] [] p1) "__init__" env (eval (.Call (.Name "super" p0) [] [] p1) env)
      standAt p2.atName
      let (f, first) ← holding [ov] (getMethod ov "__init__" pl)
      callWith p4 f first (backTo p4 (starEach [.Constant (.str msg) j p3] env)) (backToKw p4 (keywordEach [] env))))
    (hd : (fld == ("__debug__" : Str)) = false := by decide) (hcd : (fld == ("__classdict__" : Str)) = false := by decide) :
    FnOk P w K mg base (L2.CX P w) 1 f fd ["self", fld] (spExc1 C fld) := by
  refine F.ok S U ks kc hp (fun vs H Q E h => ?_) (fun A outer s H vs Q E hr T tk h => ?_)
  · obtain ⟨a, v, rfl, _⟩ := h
    rfl
  · obtain ⟨a, v, rfl, ha, q⟩ := h
    rw [hb]
    obtain ⟨pl, hte⟩ := ht (PySem.W.ksEnv qual (defScope st) s.heap.objs.size f (.ref cda) cc)
    refine ⟨_, PSst.cons (pst_expr (pet_supE (pl := pl) T M (pa_cons pe_str pa_nil) rfl rfl hte) rfl)
      (PSst.of (pss_one (ps_ost (pe_var (i := 0) rfl (.inl (S.par "self" (List.Mem.head _)))) (pe_var (i := 1) rfl (.inl (S.par fld (List.Mem.tail _ (List.Mem.head _)))) hd hcd) rfl))), ?_⟩
    refine ⟨a, rfl, ha, by show 1 ≤ 1000; decide, ha, v, rfl, .ref a, rfl, a, C, rfl, M.ox, hno, .inl ⟨ha, fun dx n ne => q dx n ne⟩⟩
end

/-! ### X(e), to be raised -/
structure Exc1 (P : Program) (w : World) (K : PySem.W.Frag) (mg : Str → Option Value) (base : Heap) (x : Str) (C : Addr) (fld : Str) : Prop where
  ox : OexC K C
  at_ : mg x = some (.ref C)
  ex : ∃ f, PySem.W.findIn K (.ref C) "__init__" = some (some (.ref f)) ∧ PySem.W.typeIn K (.ref f) = some (.type "function") ∧ Cal P w K mg base 1 f 2 [] (fun vs _ => spExc1 C fld vs)
/-- X(e): its class C, its dict new, the field in it -/
def tExc1 (C : Addr) (fld : Str) (ta : TA) : L2.St → Hp → XK → Prop := fun σ H Q => ta σ H fun vs H1 => ∃ v, vs = [v] ∧ ∀ d, H1 d = none → Q (.ref C) (some d) (upd H1 d (.xd [(fld, v)]))
section
variable {X : Cx} {x fld : Str} {C : Addr} {e : Expr} {p pos : Pos} {ta : TA}
theorem pmk_exc1 (T : Exc1 X.prog X.w X.K X.mg X.base x C fld) (hr : Room 2 X.A) (ha : PA X [e] ta) (hg : Gl X x := by rfl)
    (hdb : (x == ("__debug__" : Str)) = false := by decide) (he : starEach (e :: []) X.env = (false, eval e X.env) :: starEach [] X.env := by rfl) (hpl : (backTo pos (starEach [] X.env)).any (·.1) = false := by rfl) :
    PMk X (.Call (.Name x p) [e] [] pos) (tExc1 C fld ta) := by
  intro pins s σ H Q I h
  obtain ⟨nm, q, N, bs, bm, sn, sub, ab, col, dd, k0, k1, k2, k3, k5, hC, hbm⟩ := T.ox.cls
  obtain ⟨fI, iC, tI, F1⟩ := T.ex
  refine wpAny_Call_Name_kw (ld_glob I hg T.at_ ?_ hdb)
  refine PySem.W.callWith_K (h₀ := X.base) I.ok.mod.kin T.ox.kC (thn (ha.run pos pins s σ H _ I h) fun us s1 ⟨vs, H1, I1, r1, v, ev, q1⟩ => ⟨I1.kIn, ?_⟩) he hpl
  subst ev
  show wpAny _ _ (call (.ref C) us) _ _ _
  obtain ⟨hp, g, dr, tk, os⟩ := s1
  have hsz : hp.objs.size ≤ hp.objs.size + 1 := Nat.le_succ _
  have hn : H1 (hp.objs.size + 1) = none := I1.hok.fresh hsz
  have kk : ∀ b o, hp.get? b = some o → ((hp.push (PySem.W.kdv_tup us)).push (PySem.HandSPX.excO C hp.objs.size)).get? b = some o := fun b o e => Heap.get?_push_of_some _ (Heap.get?_push_of_some _ e)
  have hget : ((hp.push (PySem.W.kdv_tup us)).push (PySem.HandSPX.excO C hp.objs.size)).get? (hp.objs.size + 1) = some (PySem.HandSPX.excO C hp.objs.size) := by heap_get
  have I2 : Inv X pins σ (upd H1 (hp.objs.size + 1) (exo (hp.objs.size + 1) C none)) ⟨(hp.push (PySem.W.kdv_tup us)).push (PySem.HandSPX.excO C hp.objs.size), g, dr, tk, os⟩ :=
    I1.laid (t' := tk) (a := hp.objs.size + 1) (o := exo (hp.objs.size + 1) C none) (h' := (hp.push (PySem.W.kdv_tup us)).push (PySem.HandSPX.excO C hp.objs.size)) kk hsz (exo_ok hget)
  have r2 : Vals [V.ref (hp.objs.size + 1), v] (Value.ref (hp.objs.size + 1) :: us) := .cons rfl r1
  have hus : us.length ≤ sizeLine := by
    rw [← Paired.length r1, sizeLine_eq]
    show 1 ≤ 16777216
    decide
  have hq : spExc1 C fld [V.ref (hp.objs.size + 1), v] (upd H1 (hp.objs.size + 1) (exo (hp.objs.size + 1) C none))
      (fun u H2 => u = .non ∧ ∃ (d : Addr) (fs : List (Str × V)), H2 (hp.objs.size + 1) = some (exo (hp.objs.size + 1) C (some d)) ∧ H2 d = some (exd d fs) ∧ H1 d = none ∧ Q (.ref C) (some d) (upd (del H2 (hp.objs.size + 1)) d (.xd fs))) (fun _ _ _ => False) := by
    refine ⟨_, v, rfl, upd_same, fun d hd hne => ⟨rfl, d, _, upd_same, (upd_ne hne).trans upd_same, ?_, ?_⟩⟩
    · rw [upd_ne hne] at hd
      exact hd
    · have hd1 : H1 d = none := by
        rw [upd_ne hne] at hd
        exact hd
      have e : upd (del (upd (upd (upd H1 (hp.objs.size + 1) (exo (hp.objs.size + 1) C none)) d (exd d [(fld, v)])) (hp.objs.size + 1) (exo (hp.objs.size + 1) C (some d))) (hp.objs.size + 1)) d (.xd [(fld, v)]) = upd H1 d (.xd [(fld, v)]) := by
        funext b
        by_cases hb : b = d
        · rw [hb, upd_same, upd_same]
        · rw [upd_ne hb, upd_ne hb]
          by_cases ha : b = hp.objs.size + 1
          · rw [ha, del_same, hn]
          · rw [del_ne ha, upd_ne ha, upd_ne hb, upd_ne ha]
      rw [e]
      exact q1 d hd1
  refine wpAny_call (PySem.HandSPX.call_own F.excBase_ValueError (fun Y => PySem.HandSPX.refsVE_contains Y bm hbm) (I1.kIn _ _ hC) (PySem.W.looks_findIn I1.kIn iC) (fun self => PySem.W.bind_fn I1.kIn self tI) hus
    (codeAny_mono (F1 _ X.stack _ _ (Value.ref (hp.objs.size + 1) :: us) [] _ [] _ (fun _ _ _ => False) ((hr.mono (by decide : 2 ≤ 2)).make C us []) (I2.env0.make C us []) r2 .nil rfl rfl hq) fun r s' hq' => ?_))
  cases r with
  | error er => exact passL (X := X) pins σ _ _ er s' I2 hq'
  | ok fl =>
    cases fl with
    | ret u =>
      obtain ⟨v, H2, os2, bare2, un2, hok2, rv, ev, d, fs, ea, ed, hd1, q2⟩ := hq'
      subst ev
      obtain ⟨h2, g2, d2, t2, os'⟩ := s'
      exact ⟨rv, mk_end (raises_own T.ox.exC T.ox.tyC) I1 hsz kk un2 hok2 os2 bare2 ea ed hd1 q2⟩
    | next => exact False.elim hq'
    | brk => exact False.elim hq'
    | cont => exact False.elim hq'
end
end Sw

set_option Elab.async false
set_option linter.all false
set_option maxRecDepth 100000
set_option maxHeartbeats 4000000
namespace Sw
open PySem PySem.Spec PyProof.Rows L2

/-! ### worlds: what is known of the heap (G), and a resource that changes (R) -/
structure Res where
  L : List Addr
  S : Hp → Prop
  st : ∀ H H', S H → (∀ b ∈ L, H' b = H b) → S H'
  dm : ∀ H, S H → ∀ b ∈ L, H b ≠ none
structure Wd (G : Hp) (R : Res) (H : Hp) : Prop where
  sub : Same G H
  out : ∀ b ∈ R.L, G b = none
  res : R.S H
def R0 : Res := ⟨[], fun _ => True, fun _ _ _ _ => True.intro, fun _ _ b h => by cases h⟩
section
variable {G G' H H' : Hp} {R : Res} {p : Addr} {o o' : HO}
theorem Wd.get (w : Wd G R H) (h : G p = some o) : H p = some o := w.sub _ _ h
theorem Wd.free (w : Wd G R H) (h : H p = none) : G p = none := Same.free w.sub h
theorem Wd.notin (w : Wd G R H) (h : G p = some o) : p ∉ R.L := fun hp => by
  have := w.out p hp
  rw [h] at this
  cases this
theorem Wd.notin' (w : Wd G R H) (h : H p = none) : p ∉ R.L := fun hp => w.res |> fun r => R.dm H r p hp h
theorem Wd.same (w : Wd G R H) (e : Same H H') : Wd G R H' := ⟨Same.trans w.sub e, w.out, R.st _ _ w.res fun b hb => by
  cases q : H b with
  | none => exact absurd q (R.dm H w.res b hb)
  | some u => exact e b u q⟩
theorem Wd.new (w : Wd G R H) (h : H p = none) : Wd (upd G p o) R (upd H p o) := by
  refine ⟨fun b u e => ?_, fun b hb => ?_, R.st _ _ w.res fun b hb => ?_⟩
  · by_cases hb : b = p
    · subst hb; rw [upd_same] at e ⊢; exact e
    · rw [upd_ne hb] at e ⊢; exact w.sub _ _ e
  · rw [upd_ne (fun e => w.notin' h (by rw [← e]; exact hb))]
    exact w.out b hb
  · rw [upd_ne (fun e => w.notin' h (by rw [← e]; exact hb))]
theorem Wd.set (w : Wd G R H) (h : G p = some o) : Wd (upd G p o') R (upd H p o') := by
  refine ⟨fun b u e => ?_, fun b hb => ?_, R.st _ _ w.res fun b hb => ?_⟩
  · by_cases hb : b = p
    · subst hb; rw [upd_same] at e ⊢; exact e
    · rw [upd_ne hb] at e ⊢; exact w.sub _ _ e
  · rw [upd_ne (fun e => w.notin h (by rw [← e]; exact hb))]
    exact w.out b hb
  · rw [upd_ne (fun e => w.notin h (by rw [← e]; exact hb))]
/-- a new object that stands already -/
theorem Wd.add (w : Wd G R H) (e : Same H H') (h : H p = none) (h' : H' p = some o) : Wd (upd G p o) R H' := by
  have w' := w.same e
  refine ⟨fun b u e => ?_, fun b hb => ?_, w'.res⟩
  · by_cases hb : b = p
    · subst hb; rw [upd_same] at e; cases e; exact h'
    · rw [upd_ne hb] at e; exact w'.sub _ _ e
  · rw [upd_ne (fun e => w.notin' h (by rw [← e]; exact hb))]
    exact w.out b hb
theorem Wd.drop (w : Wd G R H) (e : Same G' G) : Wd G' R H := ⟨Same.trans e w.sub, fun b hb => Same.free e (w.out b hb), w.res⟩
theorem Same.newG (h : G p = none) : Same G (upd G p o) := fun b u e => by
  rw [upd_ne (ne_of_none e h)]
  exact e
theorem Wd.r0 (H : Hp) : Wd H R0 H := ⟨Same.refl H, fun b h => absurd h (by simp [R0]), True.intro⟩
theorem upd_old {a b : Addr} (h : G b = some o) (hn : G a = none) : upd G a o' b = some o := by
  rw [upd_ne (ne_of_none h hn)]
  exact h
theorem upd_oth {a b : Addr} (h : G b = some o) (hn : b ≠ a) : upd G a o' b = some o := by
  rw [upd_ne hn]
  exact h
theorem upd_nonne {a b : Addr} (h : upd G a o b = none) : G b = none ∧ b ≠ a := by
  have : b ≠ a := fun e => by
    subst e
    rw [upd_same] at h
    cases h
  rw [upd_ne this] at h
  exact ⟨h, this⟩
end

/-! ### one step of a reading -/
/-- a new object -/
def NewO (o : HO) (H : Hp) (Q : VK) : Prop := ∀ p, H p = none → Q (.ref p) (upd H p o)
section
variable {σ : L2.St} {H : Hp} {Q : VK} {K : PySem.W.Frag} {i : Nat} {v x y : V} {ta tb te tv to ti tk : TE} {t u c : TT} {D : Ends} {s1 s2 : TS} {g : TG} {tr tq : TA} {QA : List V → Hp → Prop} {QT : Bool → Hp → Prop}
theorem g_var (h : σ[i]? = some (some v)) (k : Q v H) : tVar i σ H Q := ⟨v, h, k⟩
theorem g_c (k : Q v H) : tC v σ H Q := k
theorem g_op {r : R2} (k : ta σ H fun x H1 => tb σ H1 fun y H2 => r x y H2 Q) : tOp r ta tb σ H Q := k
theorem g_un {r : V → Hp → VK → Prop} (k : ta σ H fun x H1 => r x H1 Q) : tUn r ta σ H Q := k
theorem g_I0 {f : Int → Int → V} {a b : Int} (k : Q (f a b) H) : rI0 f (.int a) (.int b) H Q := ⟨a, b, rfl, rfl, k⟩
theorem g_I {C : Int → Int → Prop} {f : Int → Int → V} {a b : Int} (hc : C a b) (k : Q (f a b) H) : rI C f (.int a) (.int b) H Q := ⟨a, b, rfl, rfl, hc, k⟩
theorem g_test {q : TE} (k : q σ H fun x H' => ∃ b, x = .bl b ∧ QT b H') : tTest q σ H QT := k
theorem g_B {q : TE} (k : q σ H fun x H' => ∃ b, x = .bl b ∧ QT b H') : tB q σ H QT := k
theorem g_bl {b : Bool} {P : Bool → Prop} (k : P b) : ∃ c, V.bl b = .bl c ∧ P c := ⟨b, rfl, k⟩
theorem g_and (k : t σ H fun b H1 => if b = true then u σ H1 QT else QT false H1) : tAnd t u σ H QT := k
theorem g_or (k : t σ H fun b H1 => if b = true then QT true H1 else u σ H1 QT) : tOr t u σ H QT := k
theorem g_not (k : t σ H fun b H1 => QT (!b) H1) : tNot t σ H QT := k
theorem g_if (k : c σ H fun b H1 => if b = true then ta σ H1 Q else tb σ H1 Q) : tIf c ta tb σ H Q := k
theorem g_nil (k : QA [] H) : tNil σ H QA := k
theorem g_cons (k : ta σ H fun x H1 => tr σ H1 fun xs H2 => QA (x :: xs) H2) : tCons ta tr σ H QA := k
theorem g_tup (k : tr σ H fun xs H1 => xs.length ≤ sizeLine ∧ NewO (.tup xs) H1 Q) : tTup tr σ H Q := k
theorem g_lst (k : tr σ H fun xs H1 => xs.length ≤ sizeLine ∧ NewO (.lst xs) H1 Q) : tLst tr σ H Q := k
theorem g_seq (k : s1 { D with nx := s2 D } σ H) : tSeq s1 s2 D σ H := k
theorem g_next (k : D.nx σ H) : tNext D σ H := k
theorem g_asg (k : te σ H fun x H1 => g x σ H1 D.nx) : tAsg te g D σ H := k
theorem g_name {P : L2.St → Hp → Prop} (k : P (σ.set i (some v)) H) : gName i v σ H P := k
theorem g_sub {ts : TSet} {P : L2.St → Hp → Prop} (k : to σ H fun o H1 => ti σ H1 fun i H2 => ts o i v H2 fun H3 => P σ H3) : gSub to ti ts v σ H P := k
theorem g_drop (k : te σ H fun _ H1 => D.nx σ H1) : tDrop te D σ H := k
theorem g_ret (k : te σ H D.rt) : tRet te D σ H := k
theorem g_retN (k : D.rt .non H) : tRetN D σ H := k
theorem g_ifS (k : c σ H fun b H1 => if b = true then s1 D σ H1 else s2 D σ H1) : tIfS c s1 s2 D σ H := k
theorem g_callB {r : List V → Hp → VK → Prop} (k : tr σ H fun vs H1 => r vs H1 Q) : tCB r tr σ H Q := k
theorem g_calG {n m : Nat} {sp : SpC} {W : WX} (k : tr σ H fun vs H1 => tq σ H1 fun zs H2 => vs.length = n ∧ zs.length = m ∧ sp vs zs H2 Q (WE W σ)) : tCalG n m sp W tr tq σ H Q := k
theorem g_mkG {n m : Nat} {C : Addr} {sp : SpC} {W : WX} (k : tr σ H fun vs H1 => tq σ H1 fun zs H2 => vs.length = n ∧ zs.length = m ∧ ∀ x dx, H2 x = none → H2 dx = none → dx ≠ x → sp (.ref x :: vs) zs (upd (upd H2 dx (.own x)) x (.ins C dx [])) (fun v H3 => v = .non ∧ Q (.ref x) H3) (WE W σ)) : tMkG C n m sp W tr tq σ H Q := k
theorem iteD {P A B : Prop} [Decidable P] (h1 : P → A) (h2 : ¬ P → B) : if decide P = true then A else B := by
  by_cases h : P
  · rw [decide_eq_true h]; exact iteT (h1 h)
  · rw [decide_eq_false h]; exact iteF (h2 h)
theorem iteN {P A B : Prop} [Decidable P] (h1 : ¬ P → A) (h2 : P → B) : if (!decide P) = true then A else B := by
  by_cases h : P
  · rw [decide_eq_true h]; exact iteF (h2 h)
  · rw [decide_eq_false h]; exact iteT (h1 h)
theorem iteB {b : Bool} {A B : Prop} (h1 : b = true → A) (h2 : b = false → B) : if b = true then A else B := by
  cases b
  · exact iteF (h2 rfl)
  · exact iteT (h1 rfl)
theorem iteNT {A B : Prop} (h : B) : if (!true) = true then A else B := iteF h
theorem iteNF {A B : Prop} (h : A) : if (!false) = true then A else B := iteT h
theorem iteBN {b : Bool} {A B : Prop} (h1 : b = false → A) (h2 : b = true → B) : if (!b) = true then A else B := by
  cases b
  · exact iteT (h1 rfl)
  · exact iteF (h2 rfl)
end
end Sw

set_option Elab.async false
set_option linter.all false
set_option maxRecDepth 100000
set_option maxHeartbeats 4000000
namespace Sw
open PySem PySem.Spec PyProof.Rows L2

/-! ### operators whatever the kinds -/
abbrev rAddI : R2 := rI0 fun i j => .int (i + j)
abbrev rAddS : R2 := fun x y H Q => ∃ i j, x = .str i ∧ y = .str j ∧ i.length + j.length ≤ sizeLine ∧ Q (.str (i ++ j)) H
def aAdd (K : PySem.W.Frag) : R2 := fun x y H Q => rAddI x y H Q ∨ (rAddS x y H Q ∨ (rCat x y H Q ∨ rCatA K x y H Q))
def aMul (K : PySem.W.Frag) : R2 := fun x y H Q => rI CMul (fun i j => .int (i * j)) x y H Q ∨ rRep x y H Q
/-- lists of flat values, item by item -/
def eqVs : List V → List V → Bool
  | [], [] => true
  | x :: xs, y :: ys => eqV x y && eqVs xs ys
  | [], _ :: _ => false
  | _ :: _, [] => false
theorem eqVs_len : ∀ {xs ys : List V}, xs.length ≠ ys.length → eqVs xs ys = false
  | [], [], h => absurd rfl h
  | [], _ :: _, _ => rfl
  | _ :: _, [], _ => rfl
  | x :: xs, y :: ys, h => by
    show (eqV x y && eqVs xs ys) = false
    rw [eqVs_len (xs := xs) (ys := ys) fun e => h (by rw [List.length_cons, List.length_cons, e]), Bool.and_false]
theorem eqVs_all : ∀ {xs ys : List V}, xs.length = ys.length → (List.range xs.length).all (fun j => eqV (xs.getD j .non) (ys.getD j .non)) = eqVs xs ys
  | [], [], _ => rfl
  | [], _ :: _, h => by cases h
  | _ :: _, [], h => by cases h
  | x :: xs, y :: ys, h => by
    rw [List.length_cons, List.range_succ_eq_map, List.all_cons, List.all_map]
    show (eqV x y && (List.range xs.length).all (fun j => eqV (xs.getD j .non) (ys.getD j .non))) = (eqV x y && eqVs xs ys)
    rw [eqVs_all (Nat.succ.inj h)]
def rEqF (K : PySem.W.Frag) : R2 := fun x y H Q => ∃ a b xs ys, x = .ref a ∧ y = .ref b ∧ SqL K H a xs ∧ SqL K H b ys ∧ xs.all flatV = true ∧ ys.all flatV = true ∧ Q (.bl (eqVs xs ys)) H
def rNeF (K : PySem.W.Frag) : R2 := fun x y H Q => ∃ a b xs ys, x = .ref a ∧ y = .ref b ∧ SqL K H a xs ∧ SqL K H b ys ∧ xs.all flatV = true ∧ ys.all flatV = true ∧ Q (.bl (!eqVs xs ys)) H
theorem flat_at {xs : List V} {us : List Value} (r : Vals xs us) (hf : xs.all flatV = true) {j : Nat} (h : j < us.toArray.size) : RelV (xs.getD j .non) us.toArray[j] ∧ flatV (xs.getD j .non) = true := by
  have hl := r.length
  have hj : j < us.length := by simpa using h
  have hx : xs[j]? = some xs[j] := List.getElem?_eq_getElem (by omega)
  have e : xs.getD j .non = xs[j] := by
    rw [List.getD_eq_getElem?_getD, hx]
    rfl
  rw [e]
  refine ⟨?_, List.all_eq_true.mp hf _ (List.getElem_mem _)⟩
  have := r.get hx
  obtain ⟨u, hu, ru⟩ := this
  rw [List.getElem?_eq_getElem hj] at hu
  cases hu
  simpa using ru
theorem op_eqF {X : Cx} (hu : X.A.units + 64 < cLine) : OpR X (compareOp .Eq) (rEqF X.K) := by
  intro pins s σ H x y v u Q I rx ry h
  obtain ⟨a, b, xs, ys, rfl, rfl, ha, hb, fa, fb, q⟩ := h
  cases rx
  cases ry
  obtain ⟨i1, r1, p1, z1⟩ := I.list ha
  obtain ⟨i2, r2, p2, z2⟩ := I.list hb
  have l1 := r1.length
  have l2 := r2.length
  by_cases hl : xs.length = ys.length
  · have := SeqAt.RcAt.lists (A := X.A) (e := fun j => eqV (xs.getD j .non) (ys.getD j .non)) p1.isList p2.isList (by simp; omega) (by omega) (fun j h1 h2 => by
      obtain ⟨a1, a2⟩ := flat_at r1 fa h1
      obtain ⟨b1, b2⟩ := flat_at r2 fb h2
      exact eqAt_V a1 b1 a2 b2) X.prog X.w
    refine this _ _ ?_
    rw [show i1.toArray.size = xs.length by simp; omega, eqVs_all hl]
    exact ⟨.bl _, H, I, rfl, q⟩
  · refine SeqAt.RcAt.lists_lengths (A := X.A) p1.isList p2.isList (by simp; omega) (by omega) X.prog X.w _ _ ?_
    rw [eqVs_len hl] at q
    exact ⟨.bl _, H, I, rfl, q⟩
theorem op_neF {X : Cx} (hu : X.A.units + 64 < cLine) : OpR X (compareOp .NotEq) (rNeF X.K) := by
  intro pins s σ H x y v u Q I rx ry h
  obtain ⟨a, b, xs, ys, rfl, rfl, ha, hb, fa, fb, q⟩ := h
  cases rx
  cases ry
  obtain ⟨i1, r1, p1, z1⟩ := I.list ha
  obtain ⟨i2, r2, p2, z2⟩ := I.list hb
  have l1 := r1.length
  have l2 := r2.length
  by_cases hl : xs.length = ys.length
  · have := SeqAt.RcNeAt.lists (A := X.A) (e := fun j => eqV (xs.getD j .non) (ys.getD j .non)) p1.isList p2.isList (by simp; omega) (by omega) (fun j h1 h2 => by
      obtain ⟨a1, a2⟩ := flat_at r1 fa h1
      obtain ⟨b1, b2⟩ := flat_at r2 fb h2
      exact eqAt_V a1 b1 a2 b2) X.prog X.w
    refine this _ _ ?_
    rw [show i1.toArray.size = xs.length by simp; omega, eqVs_all hl]
    exact ⟨.bl _, H, I, rfl, q⟩
  · refine SeqAt.RcNeAt.lists_lengths (A := X.A) p1.isList p2.isList (by simp; omega) (by omega) X.prog X.w _ _ ?_
    rw [eqVs_len hl] at q
    exact ⟨.bl _, H, I, rfl, q⟩
def aEq (K : PySem.W.Frag) : R2 := fun x y H Q => rEq x y H Q ∨ (rEqD K x y H Q ∨ rEqF K x y H Q)
def aNe (K : PySem.W.Frag) : R2 := fun x y H Q => rNe x y H Q ∨ (rNeD K x y H Q ∨ rNeF K x y H Q)
abbrev rInSg : R2 := fun x y H Q => ∃ (c : Nat) (z : Str), x = .str ⟨#[c]⟩ ∧ y = .str z ∧ Q (.bl (decide (c ∈ z.cps.toList))) H
abbrev rNiSg : R2 := fun x y H Q => ∃ (c : Nat) (z : Str), x = .str ⟨#[c]⟩ ∧ y = .str z ∧ Q (.bl (!decide (c ∈ z.cps.toList))) H
def aIn (K : PySem.W.Frag) : R2 := fun x y H Q => rIn K false x y H Q ∨ rInSg x y H Q
def aNi (K : PySem.W.Frag) : R2 := fun x y H Q => rIn K true x y H Q ∨ rNiSg x y H Q
def aSl (K : PySem.W.Frag) : V → Option Int → Option Int → Hp → VK → Prop := fun x lo hi H Q => rSlL K x lo hi H Q ∨ (rSlS x lo hi H Q ∨ rSlT K x lo hi H Q)
def aLen (K : PySem.W.Frag) : List V → Hp → VK → Prop := fun xs H Q => ∃ x n, xs = [x] ∧ LenV K x H n ∧ Q (.int n) H
section
variable {X : Cx}
theorem oa_add : OpR X (binaryOp .Add) (aAdd X.K) := op_add.or (op_add_str.or (op_cat.or op_catA))
theorem oa_mul : OpR X (binaryOp .Mult) (aMul X.K) := op_mul.or op_rep
theorem oa_eq (hu : X.A.units + 64 < cLine) : OpR X (compareOp .Eq) (aEq X.K) := op_eq.or ((op_eqD hu).or (op_eqF hu))
theorem oa_ne (hu : X.A.units + 64 < cLine) : OpR X (compareOp .NotEq) (aNe X.K) := op_ne.or ((op_neD hu).or (op_neF hu))
theorem oa_in : OpR X (compareOp .In) (aIn X.K) := op_in_seq.or op_in_sign
theorem oa_ni : OpR X (compareOp .NotIn) (aNi X.K) := op_notIn_seq.or op_notIn_sign
theorem sa : SlR X (aSl X.K) := sl_list.or (sl_str.or sl_tup)
theorem ca_len : CallR X (.builtin "len") (aLen X.K) := call_len
end

/-! ### their steps, in a world -/
section
variable {G H : Hp} {R : Res} {K : PySem.W.Frag} {Q : VK} {a b l p : Addr} {xs ys zs : List V} {i j : Int} {x y : Str}
theorem g_addI (k : Q (.int (i + j)) H) : aAdd K (.int i) (.int j) H Q := .inl ⟨i, j, rfl, rfl, k⟩
theorem g_addS (hz : x.length + y.length ≤ sizeLine) (k : Q (.str (x ++ y)) H) : aAdd K (.str x) (.str y) H Q := .inr (.inl ⟨x, y, rfl, rfl, hz, k⟩)
theorem g_addL (w : Wd G R H) (h1 : G a = some (.lst xs)) (h2 : G b = some (.lst ys)) (hz : xs.length + ys.length ≤ sizeLine) (k : ∀ p H', G p = none → Wd (upd G p (.lst (xs ++ ys))) R H' → Q (.ref p) H') : aAdd K (.ref a) (.ref b) H Q :=
  .inr (.inr (.inl ⟨a, b, xs, ys, rfl, rfl, w.get h1, w.get h2, hz, fun p hp => k p _ (w.free hp) (w.new hp)⟩))
theorem g_addT (w : Wd G R H) (h1 : SqT K G a xs) (h2 : SqT K G b ys) (n1 : xs ≠ []) (n2 : ys ≠ []) (hz : xs.length + ys.length ≤ sizeLine) (k : ∀ p H', G p = none → Wd (upd G p (.tup (xs ++ ys))) R H' → Q (.ref p) H') : aAdd K (.ref a) (.ref b) H Q :=
  .inr (.inr (.inr ⟨a, b, xs, ys, rfl, rfl, Evl.ex_t w.sub h1, Evl.ex_t w.sub h2, hz, fun e => absurd e n1, fun _ e => absurd e n2, fun _ _ p hp => k p _ (w.free hp) (w.new hp)⟩))
theorem g_mulI (hc : CMul i j) (k : Q (.int (i * j)) H) : aMul K (.int i) (.int j) H Q := .inl ⟨i, j, rfl, rfl, hc, k⟩
theorem g_mulL (w : Wd G R H) (h1 : G a = some (.lst xs)) (h : -(2 ^ 63) ≤ i) (h' : i < 2 ^ 63) (hz : xs.length * i.toNat ≤ sizeLine) (k : ∀ p H', G p = none → Wd (upd G p (.lst (List.replicate i.toNat xs).flatten)) R H' → Q (.ref p) H') : aMul K (.ref a) (.int i) H Q :=
  .inr ⟨a, i, xs, rfl, rfl, w.get h1, h, h', hz, fun p hp => k p _ (w.free hp) (w.new hp)⟩
theorem g_eqS {u v : V} (hs : scal u v = true) (k : Q (.bl (decide (u = v))) H) : aEq K u v H Q := .inl ⟨hs, k⟩
theorem g_neS {u v : V} (hs : scal u v = true) (k : Q (.bl (!decide (u = v))) H) : aNe K u v H Q := .inl ⟨hs, k⟩
theorem g_eqD {u v : V} {d e : PyData} (h1 : Dp K H u d) (h2 : Dp K H v e) (s1 : SeqAt.shaped d = true) (s2 : SeqAt.shaped e = true) (k : Q (.bl (PyData.eqv d e)) H) : aEq K u v H Q := .inr (.inl ⟨d, e, h1, h2, s1, s2, k⟩)
theorem g_neD {u v : V} {d e : PyData} (h1 : Dp K H u d) (h2 : Dp K H v e) (s1 : SeqAt.shaped d = true) (s2 : SeqAt.shaped e = true) (k : Q (.bl (!PyData.eqv d e)) H) : aNe K u v H Q := .inr (.inl ⟨d, e, h1, h2, s1, s2, k⟩)
theorem g_eqF (w : Wd G R H) (h1 : SqL K G a xs) (h2 : SqL K G b ys) (f1 : xs.all flatV = true) (f2 : ys.all flatV = true) (k : Q (.bl (eqVs xs ys)) H) : aEq K (.ref a) (.ref b) H Q := .inr (.inr ⟨a, b, xs, ys, rfl, rfl, Evl.ex_l w.sub h1, Evl.ex_l w.sub h2, f1, f2, k⟩)
theorem g_neF (w : Wd G R H) (h1 : SqL K G a xs) (h2 : SqL K G b ys) (f1 : xs.all flatV = true) (f2 : ys.all flatV = true) (k : Q (.bl (!eqVs xs ys)) H) : aNe K (.ref a) (.ref b) H Q := .inr (.inr ⟨a, b, xs, ys, rfl, rfl, Evl.ex_l w.sub h1, Evl.ex_l w.sub h2, f1, f2, k⟩)
theorem g_inL (w : Wd G R H) {u : V} (h : SqL K G p xs) (hx : flatV u = true) (ha : xs.all flatV = true) (k : Q (.bl (inV u xs)) H) : aIn K u (.ref p) H Q := .inl ⟨p, xs, rfl, .inl (Evl.ex_l w.sub h), hx, ha, k⟩
theorem g_inT (w : Wd G R H) {u : V} (h : SqT K G p xs) (hx : flatV u = true) (ha : xs.all flatV = true) (k : Q (.bl (inV u xs)) H) : aIn K u (.ref p) H Q := .inl ⟨p, xs, rfl, .inr (Evl.ex_t w.sub h), hx, ha, k⟩
theorem g_niL (w : Wd G R H) {u : V} (h : SqL K G p xs) (hx : flatV u = true) (ha : xs.all flatV = true) (k : Q (.bl (!inV u xs)) H) : aNi K u (.ref p) H Q := .inl ⟨p, xs, rfl, .inl (Evl.ex_l w.sub h), hx, ha, k⟩
theorem g_niT (w : Wd G R H) {u : V} (h : SqT K G p xs) (hx : flatV u = true) (ha : xs.all flatV = true) (k : Q (.bl (!inV u xs)) H) : aNi K u (.ref p) H Q := .inl ⟨p, xs, rfl, .inr (Evl.ex_t w.sub h), hx, ha, k⟩
theorem g_inSg {c : Nat} (k : Q (.bl (decide (c ∈ x.cps.toList))) H) : aIn K (.str ⟨#[c]⟩) (.str x) H Q := .inr ⟨c, x, rfl, rfl, k⟩
theorem g_niSg {c : Nat} (k : Q (.bl (!decide (c ∈ x.cps.toList))) H) : aNi K (.str ⟨#[c]⟩) (.str x) H Q := .inr ⟨c, x, rfl, rfl, k⟩
theorem g_ixL (w : Wd G R H) {v : V} (h : SqL K G p xs) (ha : atI xs i = some v) (k : Q v H) : rIx K (.ref p) (.int i) H Q := .inl ⟨p, xs, i, v, rfl, rfl, Evl.ex_l w.sub h, ha, k⟩
theorem g_ixT (w : Wd G R H) {v : V} (h : SqT K G p xs) (ha : atI xs i = some v) (k : Q v H) : rIx K (.ref p) (.int i) H Q := .inr (.inl ⟨p, xs, i, v, rfl, rfl, Evl.ex_t w.sub h, ha, k⟩)
theorem g_ixS {c : Nat} (hz : x.length ≤ sizeLine) (ha : atI x.cps.toList i = some c) (k : Q (.str ⟨#[c]⟩) H) : rIx K (.str x) (.int i) H Q := .inr (.inr ⟨x, i, c, rfl, rfl, hz, ha, k⟩)
theorem g_slL (w : Wd G R H) {lo hi : Option Int} (h : SqL K G a xs) (k : ∀ p H', G p = none → Wd (upd G p (.lst (cutV xs lo hi))) R H' → Q (.ref p) H') : aSl K (.ref a) lo hi H Q :=
  .inl ⟨a, xs, rfl, Evl.ex_l w.sub h, fun p hp => k p _ (w.free hp) (w.new hp)⟩
theorem g_slS {lo hi : Option Int} (hz : x.length ≤ sizeLine) (k : Q (.str (cutS x lo hi)) H) : aSl K (.str x) lo hi H Q := .inr (.inl ⟨x, rfl, hz, k⟩)
theorem g_slT (w : Wd G R H) {lo hi : Option Int} (h : SqT K G a xs) (hn : ¬ (HT.sIx xs.length 0 lo = 0 ∧ HT.sIx xs.length xs.length hi = xs.length)) (k : ∀ p H', G p = none → Wd (upd G p (.tup (cutV xs lo hi))) R H' → Q (.ref p) H') : aSl K (.ref a) lo hi H Q :=
  .inr (.inr ⟨a, xs, rfl, Evl.ex_t w.sub h, hn, fun p hp => k p _ (w.free hp) (w.new hp)⟩)
theorem g_lenS (hz : x.length ≤ sizeLine) (k : Q (.int x.length) H) : aLen K [.str x] H Q := ⟨.str x, _, rfl, ⟨hz, rfl⟩, k⟩
theorem g_lenL (w : Wd G R H) (h : SqL K G p xs) (k : Q (.int xs.length) H) : aLen K [.ref p] H Q := ⟨.ref p, _, rfl, .inl ⟨xs, Evl.ex_l w.sub h, rfl⟩, k⟩
theorem g_lenT (w : Wd G R H) (h : SqT K G p xs) (k : Q (.int xs.length) H) : aLen K [.ref p] H Q := ⟨.ref p, _, rfl, .inr ⟨xs, Evl.ex_t w.sub h, rfl⟩, k⟩
/-- a new object -/
theorem g_new (w : Wd G R H) {o : HO} (k : ∀ p H', G p = none → Wd (upd G p o) R H' → Q (.ref p) H') : NewO o H Q := fun p hp => k p _ (w.free hp) (w.new hp)
theorem g_newL (w : Wd G R H) {o : HO} {n : Nat} (hz : n ≤ sizeLine) (k : ∀ p H', G p = none → Wd (upd G p o) R H' → Q (.ref p) H') : n ≤ sizeLine ∧ NewO o H Q := ⟨hz, fun p hp => k p _ (w.free hp) (w.new hp)⟩
/-- lists changed -/
theorem g_app (w : Wd G R H) {v : V} (h : G l = some (.lst xs)) (hz : xs.length < sizeLine) (k : ∀ H', Wd (upd G l (.lst (xs ++ [v]))) R H' → Q .non H') : rAppend (.ref l) [v] H Q := ⟨l, xs, v, rfl, rfl, w.get h, hz, k _ (w.set h)⟩
theorem g_popAt (w : Wd G R H) {v : V} {k' : Nat} (h : G l = some (.lst xs)) (h1 : -(2 ^ 63) ≤ i) (h2 : i < 2 ^ 63) (h3 : seqIndex? i xs.length = some k') (h4 : xs[k']? = some v) (k : ∀ H', Wd (upd G l (.lst (xs.eraseIdx k'))) R H' → Q v H') : rPopAt (.ref l) [.int i] H Q :=
  ⟨l, xs, i, k', v, rfl, rfl, w.get h, h1, h2, h3, h4, k _ (w.set h)⟩
theorem g_setL (w : Wd G R H) {v : V} {j' : Nat} {P : Hp → Prop} (h : G l = some (.lst xs)) (hi : ixN xs.length i = some j') (k : ∀ H', Wd (upd G l (.lst (xs.set j' v))) R H' → P H') : rSetL (.ref l) (.int i) v H P := ⟨l, xs, i, j', rfl, rfl, w.get h, hi, k _ (w.set h)⟩
theorem g_tyL (w : Wd G R H) {P : Prop} (h : G l = some (.lst xs)) (k : P) : tyV K "list" (.ref l) H ∧ P := ⟨.inl ⟨rfl, _, SqL.of (w.get h)⟩, k⟩
end
/-! ### the rules with the written part named (within a comprehension's block the reading must not speak of the block) -/
section
variable {X : Cx} {a b e o : Expr} {es : List Expr} {rest : List Expr} {ta tb te to : TE} {t tr : TA} {pos apos : Pos} {f : Str} (K : PySem.W.Frag)
theorem ka_add (hK : X.K = K := by rfl) : OpR X (binaryOp .Add) (aAdd K) := by subst hK; exact oa_add
theorem ka_mul (hK : X.K = K := by rfl) : OpR X (binaryOp .Mult) (aMul K) := by subst hK; exact oa_mul
theorem ka_eq (hu : X.A.units + 64 < cLine) (hK : X.K = K := by rfl) : OpR X (compareOp .Eq) (aEq K) := by subst hK; exact oa_eq hu
theorem ka_ne (hu : X.A.units + 64 < cLine) (hK : X.K = K := by rfl) : OpR X (compareOp .NotEq) (aNe K) := by subst hK; exact oa_ne hu
theorem ka_in (hK : X.K = K := by rfl) : OpR X (compareOp .In) (aIn K) := by subst hK; exact oa_in
theorem ka_ni (hK : X.K = K := by rfl) : OpR X (compareOp .NotIn) (aNi K) := by subst hK; exact oa_ni
theorem ka_sl (hK : X.K = K := by rfl) : SlR X (aSl K) := by subst hK; exact sa
theorem ka_len (hK : X.K = K := by rfl) : CallR X (.builtin "len") (aLen K) := by subst hK; exact ca_len
theorem ka_ix (hK : X.K = K := by rfl) : IxR X (rIx K) := by subst hK; exact ix_seq
theorem ka_isi (hK : X.K = K := by rfl) : CallR X (.builtin "isinstance") (rIsi K) := by subst hK; exact call_isi
theorem ka_all (hc : X.calm = true) (hK : X.K = K := by rfl) : CallR X (.builtin "all") (rAll K) := by subst hK; exact cr_all hc
theorem ka_any (hc : X.calm = true) (hK : X.K = K := by rfl) : CallR X (.builtin "any") (rAny K) := by subst hK; exact cr_any hc
def rListOf (K : PySem.W.Frag) : List V → Hp → VK → Prop := fun xs H Q => ∃ p ys, xs = [.ref p] ∧ (SqL K H p ys ∨ SqT K H p ys) ∧ ∀ l, H l = none → Q (.ref l) (upd H l (.lst ys))
theorem ka_list (hK : X.K = K := by rfl) : CallR X (.type "list") (rListOf K) := by subst hK; exact call_list_of
def tTru (K : PySem.W.Frag) (ta : TE) : TT := fun σ H Q => ta σ H fun x H' => ∃ k, TruV K x H' k ∧ Q k H'
theorem kt_truth (ha : PE X a ta) (he : ∀ whole, isTrue a X.env whole = (do let v ← whole; standAt a.pos; holding [v] (truthy v))) (hK : X.K = K := by rfl) : PT X a (tTru K ta) := by subst hK; exact pt_truth ha he
theorem ke_fld (he : PE X e ta) (hb : attributeBase e f X.env (eval e X.env) = eval e X.env) (hK : X.K = K := by rfl) : PE X (.Attribute e f pos) (tFld K ta f) := by subst hK; exact pe_fld he hb
theorem ke_con (he : PE X e ta) (hb : attributeBase e f X.env (eval e X.env) = eval e X.env) (hK : X.K = K := by rfl) : PE X (.Attribute e f pos) (tCon K ta f) := by subst hK; exact pe_con he hb
theorem ke_orT (ha : PE X a ta) (hb : PE X (.BoolOp .Or (b :: rest) pos) tb) (hK : X.K = K := by rfl) : PE X (.BoolOp .Or (a :: b :: rest) pos) (tOrT K ta tb) := by subst hK; exact pe_orT ha hb
theorem ke_andT (ha : PE X a ta) (hb : PE X (.BoolOp .And (b :: rest) pos) tb) (hK : X.K = K := by rfl) : PE X (.BoolOp .And (a :: b :: rest) pos) (tAndT K ta tb) := by subst hK; exact pe_andT ha hb
def rJoin (K : PySem.W.Frag) : V → List V → Hp → VK → Prop := fun x xs H Q => ∃ a p, ∃ ys : List Str, x = .str a ∧ xs = [.ref p] ∧ (SqL K H p (ys.map V.str) ∨ SqT K H p (ys.map V.str)) ∧ (ys.map (·.length)).sum + ys.length * a.length ≤ 16777216 ∧ Q (.str (Txt.join a ys)) H
theorem ke_join (ho : PE X o to) (he : PE X e te) (hs : starEach [e] X.env = [(false, eval e X.env)] := by rfl) (hbase : attributeBase o "join" X.env (eval o X.env) = eval o X.env := by rfl) (hline : (apos.endLine == pos.line) = true := by rfl) (hK : X.K = K := by rfl) :
    PE X (.Call (.Attribute o "join" apos) [e] [] pos) (tM1 (rJoin K) to te) := by subst hK; exact pe_join ho he hs hbase hline
def rSplit : V → List V → Hp → VK → Prop := fun x xs H Q => ∃ a b, x = .str a ∧ xs = [.str b] ∧ (b.length == 0) = false ∧ a.length + 2 ≤ sizeLine ∧ rNewStrs (Txt.split a b) H Q
theorem ke_split (ho : PE X o to) (he : PE X e te) (hs : starEach [e] X.env = [(false, eval e X.env)] := by rfl) (hbase : attributeBase o "split" X.env (eval o X.env) = eval o X.env := by rfl) (hline : (apos.endLine == pos.line) = true := by rfl) :
    PE X (.Call (.Attribute o "split" apos) [e] [] pos) (tM1 rSplit to te) := pe_split ho he hs hbase hline
theorem ki_list {tg l : Expr} {tl : TE} (hl : PE X l tl) (hK : X.K = K := by rfl) : PI X tg l (iList K tl) := by subst hK; exact pi_list hl
theorem ki_tup {tg l : Expr} {tl : TE} (hl : PE X l tl) (hK : X.K = K := by rfl) : PI X tg l (iTup K tl) := by subst hK; exact pi_tup hl
end
section
variable {G H : Hp} {R : Res} {K : PySem.W.Frag} {Q : VK} {σ : L2.St} {t1 t2 : TE} {QT : Bool → Hp → Prop}
theorem g_tru (k : t1 σ H fun x H' => ∃ k, TruV K x H' k ∧ QT k H') : tTru K t1 σ H QT := k
theorem g_listL (w : Wd G R H) {p : Addr} {xs : List V} (h : SqL K G p xs) (k : ∀ l H', G l = none → Wd (upd G l (.lst xs)) R H' → Q (.ref l) H') : rListOf K [.ref p] H Q := ⟨p, xs, rfl, .inl (Evl.ex_l w.sub h), fun l hl => k l _ (w.free hl) (w.new hl)⟩
theorem g_listT (w : Wd G R H) {p : Addr} {xs : List V} (h : SqT K G p xs) (k : ∀ l H', G l = none → Wd (upd G l (.lst xs)) R H' → Q (.ref l) H') : rListOf K [.ref p] H Q := ⟨p, xs, rfl, .inr (Evl.ex_t w.sub h), fun l hl => k l _ (w.free hl) (w.new hl)⟩
theorem g_join (w : Wd G R H) {a : Str} {p : Addr} {ys : List Str} (h : SqL K G p (ys.map V.str)) (hz : (ys.map (·.length)).sum + ys.length * a.length ≤ 16777216) (k : Q (.str (Txt.join a ys)) H) : rJoin K (.str a) [.ref p] H Q := ⟨a, p, ys, rfl, rfl, .inl (Evl.ex_l w.sub h), hz, k⟩
theorem g_split (w : Wd G R H) {a b : Str} (h1 : (b.length == 0) = false) (h2 : a.length + 2 ≤ sizeLine) (k : ∀ p H', G p = none → Wd (upd G p (.lst ((Txt.split a b).map V.str))) R H' → Q (.ref p) H') : rSplit (.str a) [.str b] H Q := ⟨a, b, rfl, rfl, h1, h2, fun p hp => k p _ (w.free hp) (w.new hp)⟩
theorem g_strM {a : Str} {P : Prop} (k : P) : (∃ b, V.str a = .str b) ∧ P := ⟨⟨a, rfl⟩, k⟩
end
theorem pe_globE {X : Cx} {x : Str} {v : V} {pos : Pos} (hg : Gl X x) (h : ∃ u, X.mg x = some u ∧ RelV v u) (hd : (x == ("__debug__" : Str)) = false := by decide) : PE X (.Name x pos) (tC v) := by
  obtain ⟨u, hm, r⟩ := h
  exact pe_glob hg hm r hd
end Sw

set_option Elab.async false
set_option linter.all false
set_option maxRecDepth 100000
set_option maxHeartbeats 4000000
namespace Sw
open PySem PySem.Spec PyProof.Rows L2

/-! ### what is walked: n turns -/
structure Itf (J : It) (n : Nat) (I : Hp → Prop) (Y : Nat → V → Hp → Hp → Prop) : Prop where
  go : ∀ i H, i < n → I H → J.go i H
  stop : ∀ H, I H → J.stop n H
  yld : ∀ i H x H', i < n → I H → J.yld i H x H' → Y i x H H'
theorem itf_list {K : PySem.W.Frag} {a : Addr} {xs : List V} : Itf (Itl K a) xs.length (fun H => SqL K H a xs) (fun i x H H' => H' = H ∧ xs[i]? = some x) where
  go := fun i H hi h => ⟨xs, xs[i], h, List.getElem?_eq_getElem hi⟩
  stop := fun H h => ⟨xs, h, Nat.le_refl _⟩
  yld := fun i H x H' hi h y => ⟨y.1, y.2 xs h⟩
theorem itf_tup {K : PySem.W.Frag} {a : Addr} {xs : List V} : Itf (Itt K a) xs.length (fun H => SqT K H a xs) (fun i x H H' => H' = H ∧ xs[i]? = some x) where
  go := fun i H hi h => ⟨xs, xs[i], h, List.getElem?_eq_getElem hi⟩
  stop := fun H h => ⟨xs, h, Nat.le_refl _⟩
  yld := fun i H x H' hi h y => ⟨y.1, y.2 xs h⟩
theorem itf_range {lo : Int} {n : Nat} : Itf (Itr lo n) n (fun _ => True) (fun i x H H' => H' = H ∧ x = .int (lo + i)) where
  go := fun i H hi h => hi
  stop := fun H h => Nat.le_refl _
  yld := fun i H x H' hi h y => y
theorem itf_str {z : Str} : Itf (Its z) z.cps.size (fun _ => True) (fun i x H H' => H' = H ∧ ∃ c, z.cps[i]? = some c ∧ x = .str ⟨#[c]⟩) where
  go := fun i H hi h => hi
  stop := fun H h => Nat.le_refl _
  yld := fun i H x H' hi h y => y
theorem itf_enum {K : PySem.W.Frag} {a : Addr} {xs : List V} : Itf (Ite K a) xs.length (fun H => SqL K H a xs) (fun i v H H' => ∃ T x, v = .ref T ∧ H T = none ∧ H' = upd H T (.tup [.int (i : Nat), x]) ∧ xs[i]? = some x) where
  go := fun i H hi h => ⟨xs, xs[i], h, List.getElem?_eq_getElem hi⟩
  stop := fun H h => ⟨xs, h, Nat.le_refl _⟩
  yld := fun i H x H' hi h y => by
    obtain ⟨T, u, e1, e2, e3, e4⟩ := y
    exact ⟨T, u, e1, e2, e3, e4 xs h⟩

def ForW (J : It) (g : TG) (tb : TS) (D : Ends) (σ : L2.St) (H1 : Hp) : Prop := ∃ W : Nat → Nat → L2.St → Hp → Prop, (∃ m, W 0 m σ H1) ∧ ∀ i m σ H, W i m σ H →
  (J.stop i H ∧ D.nx σ H) ∨ (J.go i H ∧ ∃ N : L2.St → Hp → Prop, (∀ σ' H', N σ' H' → ∃ m', m' < m ∧ W (i + 1) m' σ' H') ∧ ∀ x H', J.yld i H x H' → g x σ H' fun σ2 H2 => tb { D with nx := N, ct := N, bk := D.nx } σ2 H2)
theorem for_it {J : It} {n : Nat} {I : Hp → Prop} {Y : Nat → V → Hp → Hp → Prop} (F : Itf J n I Y) {g : TG} {tb : TS} {D : Ends} {σ : L2.St} {H : Hp} (Pv : Nat → L2.St → Hp → Prop) (h0 : Pv 0 σ H) (hI : ∀ i σ H, i ≤ n → Pv i σ H → I H)
    (hs : ∀ i x σ H H', i < n → Pv i σ H → Y i x H H' → g x σ H' fun σ2 H2 => tb { D with nx := Pv (i + 1), ct := Pv (i + 1), bk := D.nx } σ2 H2) (hd : ∀ σ H, Pv n σ H → D.nx σ H) : ForW J g tb D σ H := by
  refine ⟨fun i m σ H => m = n - i ∧ i ≤ n ∧ Pv i σ H, ⟨n, by simp, Nat.zero_le _, h0⟩, ?_⟩
  rintro i m σ H ⟨rfl, hi, p⟩
  have q := hI i σ H hi p
  by_cases hlt : i < n
  · refine .inr ⟨F.go i H hlt q, Pv (i + 1), fun σ' H' p' => ⟨n - (i + 1), by omega, rfl, by omega, p'⟩, fun x H' y => hs i x σ H H' hlt p (F.yld i H x H' hlt q y)⟩
  · have e : i = n := by omega
    subst e
    exact .inl ⟨F.stop H q, hd σ H p⟩

def LcW (J : It) (g : TG) (tt : TT) (te : TE) (vs : List Nat) (σ : L2.St) (Q : VK) (H1 : Hp) : Prop := ∀ D, H1 D = none → ∃ W : Nat → Nat → Hp → Prop, (∃ m, W 0 m (upd H1 D (.lst []))) ∧ ∀ i m H, W i m H →
  (J.stop i H ∧ Q (.ref D) H) ∨ (J.go i H ∧ ∃ Nx : Hp → Prop, (∀ H', Nx H' → ∃ m', m' < m ∧ W (i + 1) m' H') ∧ ∀ x H', J.yld i H x H' → g x (wipe σ vs) H' fun σ2 H2 => wipe σ2 vs = wipe σ vs ∧ tt σ2 H2 fun b H3 =>
    if b = true then te σ2 H3 fun y H4 => ∃ acc, H4 D = some (.lst acc) ∧ acc.length < sizeLine ∧ Nx (upd H4 D (.lst (acc ++ [y]))) else Nx H3)
/-- the readings' ends must be let through: Mono of the parts -/
theorem lc_it {J : It} {n : Nat} {I : Hp → Prop} {Y : Nat → V → Hp → Hp → Prop} (F : Itf J n I Y) {G H1 : Hp} {R : Res} {g : TG} {tt : TT} {te : TE} {vs : List Nat} {σ : L2.St} {Q : VK} (w : Wd G R H1) (hI : ∀ H, Same G H → I H) (hz : n ≤ sizeLine)
    (Pv : Nat → Hp → List V → Prop) (h0 : Pv 0 G [])
    (hs : ∀ i x Gi acc D H H', i < n → Same G Gi → Gi D = none → Pv i Gi acc → acc.length ≤ i → Wd (upd Gi D (.lst acc)) R H → Y i x H H' → g x (wipe σ vs) H' fun σ2 H2 => wipe σ2 vs = wipe σ vs ∧ tt σ2 H2 fun b H3 =>
      if b = true then te σ2 H3 fun y H4 => ∃ acc', H4 D = some (.lst acc') ∧ acc'.length < sizeLine ∧ ((fun H5 => ∃ G4 acc4, Same G G4 ∧ G4 D = none ∧ Pv (i + 1) G4 acc4 ∧ acc4.length ≤ i + 1 ∧ Wd (upd G4 D (.lst acc4)) R H5) (upd H4 D (.lst (acc' ++ [y]))))
      else (fun H5 => ∃ G4 acc4, Same G G4 ∧ G4 D = none ∧ Pv (i + 1) G4 acc4 ∧ acc4.length ≤ i + 1 ∧ Wd (upd G4 D (.lst acc4)) R H5) H3)
    (hd : ∀ D Gn acc H, Same G Gn → Gn D = none → Pv n Gn acc → acc.length ≤ n → Wd (upd Gn D (.lst acc)) R H → Q (.ref D) H) : LcW J g tt te vs σ Q H1 := by
  intro D hD
  refine ⟨fun i m H => m = n - i ∧ i ≤ n ∧ ∃ Gi acc, Same G Gi ∧ Gi D = none ∧ Pv i Gi acc ∧ acc.length ≤ i ∧ Wd (upd Gi D (.lst acc)) R H, ⟨n, by simp, Nat.zero_le _, G, [], Same.refl G, w.free hD, h0, Nat.le_refl _, w.new hD⟩, ?_⟩
  rintro i m H ⟨rfl, hi, Gi, acc, e, nD, p, hl, wi⟩
  have sG : Same G H := Same.trans (Same.trans e (Same.newG nD)) wi.sub
  have q := hI H sG
  by_cases hlt : i < n
  · refine .inr ⟨F.go i H hlt q, fun H5 => ∃ G4 acc4, Same G G4 ∧ G4 D = none ∧ Pv (i + 1) G4 acc4 ∧ acc4.length ≤ i + 1 ∧ Wd (upd G4 D (.lst acc4)) R H5, fun H' p' => ⟨n - (i + 1), by omega, rfl, by omega, p'⟩, fun x H' y => ?_⟩
    exact hs i x Gi acc D H H' hlt e nD p hl wi (F.yld i H x H' hlt q y)
  · have ei : i = n := by omega
    subst ei
    exact .inl ⟨F.stop H q, hd D Gi acc H e nD p hl wi⟩
/-- the turn's end: an item kept -/
theorem lc_keep {G G4 H4 : Hp} {R : Res} {D : Addr} {acc : List V} {y : V} {i n : Nat} {Pv : Nat → Hp → List V → Prop} (w : Wd (upd G4 D (.lst acc)) R H4) (e : Same G G4) (nD : G4 D = none) (hl : acc.length ≤ i) (hi : i < n) (hz : n ≤ sizeLine) (p : Pv (i + 1) G4 (acc ++ [y])) :
    ∃ acc', H4 D = some (.lst acc') ∧ acc'.length < sizeLine ∧ ((fun H5 => ∃ G4 acc4, Same G G4 ∧ G4 D = none ∧ Pv (i + 1) G4 acc4 ∧ acc4.length ≤ i + 1 ∧ Wd (upd G4 D (.lst acc4)) R H5) (upd H4 D (.lst (acc' ++ [y])))) := by
  refine ⟨acc, w.get upd_same, by omega, G4, acc ++ [y], e, nD, p, by rw [List.length_append, List.length_singleton]; omega, ?_⟩
  have := w.set (o' := .lst (acc ++ [y])) upd_same
  rw [upd_upd] at this
  exact this
theorem lc_drop {G G4 H3 : Hp} {R : Res} {D : Addr} {acc : List V} {i : Nat} {Pv : Nat → Hp → List V → Prop} (w : Wd (upd G4 D (.lst acc)) R H3) (e : Same G G4) (nD : G4 D = none) (hl : acc.length ≤ i) (p : Pv (i + 1) G4 acc) :
    (fun H5 => ∃ G4 acc4, Same G G4 ∧ G4 D = none ∧ Pv (i + 1) G4 acc4 ∧ acc4.length ≤ i + 1 ∧ Wd (upd G4 D (.lst acc4)) R H5) H3 := ⟨G4, acc, e, nD, p, by omega, w⟩
theorem upd_comm {G : Hp} {p q : Addr} {o u : HO} (h : q ≠ p) : upd (upd G p o) q u = upd (upd G q u) p o := by
  funext b
  by_cases h1 : b = q
  · subst h1; rw [upd_same, upd_ne h, upd_same]
  · rw [upd_ne h1]
    by_cases h2 : b = p
    · subst h2; rw [upd_same, upd_same]
    · rw [upd_ne h2, upd_ne h2, upd_ne h1]

/-! ### steps -/
section
variable {σ : L2.St} {H : Hp} {Q : VK} {K : PySem.W.Frag} {D : Ends} {tl : TE} {ta : TA} {g : TG} {tb : TS} {tt : TT} {te : TE} {vs : List Nat} {z : Str} {a : Addr} {n lo : Int}
theorem g_forL (k : tl σ H fun x H1 => ∃ a, x = .ref a ∧ (∃ xs, SqL K H1 a xs) ∧ ForW (Itl K a) g tb D σ H1) : tFor (iList K tl) g tb D σ H := k
theorem g_forT (k : tl σ H fun x H1 => ∃ a, x = .ref a ∧ (∃ xs, SqT K H1 a xs) ∧ ForW (Itt K a) g tb D σ H1) : tFor (iTup K tl) g tb D σ H := k
theorem g_forR (k : ta σ H fun vs H1 => ∃ j : Int, vs = [.int j] ∧ -(2 ^ 62) ≤ j ∧ j < 2 ^ 62 ∧ ForW (Itr 0 j.toNat) g tb D σ H1) : tFor (iRng1 ta) g tb D σ H := k
theorem g_forR2 (k : ta σ H fun vs H1 => ∃ i j : Int, vs = [.int i, .int j] ∧ (-(2 ^ 62) ≤ i ∧ i < 2 ^ 62 ∧ -(2 ^ 62) ≤ j ∧ j < 2 ^ 62) ∧ ForW (Itr i (j - i).toNat) g tb D σ H1) : tFor (iRng2 ta) g tb D σ H := k
theorem g_forS (k : tl σ H fun v H1 => ∃ x, v = .str x ∧ ForW (Its x) g tb D σ H1) : tFor (iStr tl) g tb D σ H := k
theorem g_forE (k : ta σ H fun vs H1 => ∃ a xs, vs = [.ref a] ∧ SqL K H1 a xs ∧ ForW (Ite K a) g tb D σ H1) : tFor (iEnum K ta) g tb D σ H := k
theorem g_lcL (k : tl σ H fun x H1 => ∃ a, x = .ref a ∧ (∃ xs, SqL K H1 a xs) ∧ LcW (Itl K a) g tt te vs σ Q H1) : tLc (iList K tl) g tt te vs σ H Q := k
theorem g_lcT (k : tl σ H fun x H1 => ∃ a, x = .ref a ∧ (∃ xs, SqT K H1 a xs) ∧ LcW (Itt K a) g tt te vs σ Q H1) : tLc (iTup K tl) g tt te vs σ H Q := k
theorem g_lcR (k : ta σ H fun us H1 => ∃ j : Int, us = [.int j] ∧ -(2 ^ 62) ≤ j ∧ j < 2 ^ 62 ∧ LcW (Itr 0 j.toNat) g tt te vs σ Q H1) : tLc (iRng1 ta) g tt te vs σ H Q := k
theorem g_lcS (k : tl σ H fun v H1 => ∃ x, v = .str x ∧ LcW (Its x) g tt te vs σ Q H1) : tLc (iStr tl) g tt te vs σ H Q := k
theorem g_lcE (k : ta σ H fun us H1 => ∃ a xs, us = [.ref a] ∧ SqL K H1 a xs ∧ LcW (Ite K a) g tt te vs σ Q H1) : tLc (iEnum K ta) g tt te vs σ H Q := k
theorem g_orT {t1 t2 : TE} (k : t1 σ H fun x H1 => ∃ b, TruV K x H1 b ∧ if b = true then Q x H1 else t2 σ H1 Q) : tOrT K t1 t2 σ H Q := k
theorem g_slc {r : V → Option Int → Option Int → Hp → VK → Prop} {t1 : TE} {tlo thi : TO} (k : t1 σ H fun x H1 => tlo σ H1 fun l H2 => thi σ H2 fun u H3 => r x l u H3 Q) : L2.tSl r t1 tlo thi σ H Q := k
theorem g_noPart {P : Option Int → Hp → Prop} (k : P none H) : tNoPart σ H P := k
theorem g_part {t1 : TE} {P : Option Int → Hp → Prop} (k : t1 σ H fun x H1 => ∃ i, x = .int i ∧ P (some i) H1) : tPart t1 σ H P := k
theorem g_bm {T : String} {r : V → List V → Hp → VK → Prop} {t1 : TE} {tr : TA} (k : t1 σ H fun x H1 => tyV K T x H1 ∧ tr σ H1 fun xs H2 => r x xs H2 Q) : tBM K T r t1 tr σ H Q := k
theorem g_par {i j : Nat} {tr : TA} (k : tr σ H fun vs H1 => ∃ v w, vs = [v, w] ∧ D.nx ((σ.set i (some v)).set j (some w)) H1) : tPar i j tr D σ H := k
theorem g_yes {P : Bool → Hp → Prop} (k : P true H) : tYes σ H P := k
theorem g_tupG {m : Nat} {v : V} {t : TGs} {P : L2.St → Hp → Prop} (k : ∃ a xs, v = .ref a ∧ SqT K H a xs ∧ xs.length = m ∧ t xs σ H P) : gTup K m t v σ H P := k
theorem g_gcons {t : TG} {u : TGs} {v : V} {r : List V} {P : L2.St → Hp → Prop} (k : t v σ H fun σ' H' => u r σ' H' P) : gCons t u (v :: r) σ H P := ⟨v, r, rfl, k⟩
theorem g_gnil {P : L2.St → Hp → Prop} (k : P σ H) : gNil [] σ H P := ⟨rfl, k⟩
theorem g_chain {r r' : R2} {t1 t2 t3 : TE} (k : t1 σ H fun x H1 => t2 σ H1 fun y H2 => r x y H2 fun z H3 => ∃ k, z = .bl k ∧ (if k = true then t3 σ H3 fun w' H4 => r' y w' H4 Q else Q (.bl false) H3)) : tChain r r' t1 t2 t3 σ H Q := k
theorem g_truB {b : Bool} {P : Bool → Prop} (k : P b) : ∃ c, TruV K (.bl b) H c ∧ P c := ⟨b, rfl, k⟩
theorem g_truN {P : Bool → Prop} (k : P false) : ∃ c, TruV K .non H c ∧ P c := ⟨false, rfl, k⟩
theorem g_truI {i : Int} {P : Bool → Prop} (k : P (i != 0)) : ∃ c, TruV K (.int i) H c ∧ P c := ⟨_, rfl, k⟩
theorem g_truS {y : Str} {P : Bool → Prop} (hz : y.length ≤ sizeLine) (k : P ((y.length : Int) != 0)) : ∃ c, TruV K (.str y) H c ∧ P c := ⟨_, ⟨hz, rfl⟩, k⟩
theorem g_truL {G : Hp} {R : Res} {xs : List V} {P : Bool → Prop} (w : Wd G R H) (h : SqL K G a xs) (k : P (!xs.isEmpty)) : ∃ c, TruV K (.ref a) H c ∧ P c := ⟨_, .inl ⟨xs, Evl.ex_l w.sub h, rfl⟩, k⟩
theorem g_truT {G : Hp} {R : Res} {xs : List V} {P : Bool → Prop} (w : Wd G R H) (h : SqT K G a xs) (k : P (!xs.isEmpty)) : ∃ c, TruV K (.ref a) H c ∧ P c := ⟨_, .inr (.inl ⟨xs, Evl.ex_t w.sub h, rfl⟩), k⟩
theorem g_isi {x c : V} {t u : Value} {b : Bool} (hc : ClsV c u) (ht : TyX K H x t) (hk : PySem.W.kitOne K t u = some b) (k : Q (.bl b) H) : rIsi K [x, c] H Q := ⟨x, c, t, u, b, rfl, hc, ht, hk, k⟩
theorem g_isN {x : V} (k : Q (.bl (decide (x = .non))) H) : (fun x y H Q => y = V.non ∧ Q (.bl (decide (x = .non))) H : R2) x .non H Q := ⟨rfl, k⟩
theorem g_isnN {x : V} (k : Q (.bl (!decide (x = .non))) H) : (fun x y H Q => y = V.non ∧ Q (.bl (!decide (x = .non))) H : R2) x .non H Q := ⟨rfl, k⟩
theorem g_all {G : Hp} {R : Res} {bs : List Bool} (w : Wd G R H) (h : SqL K G a (bs.map V.bl)) (k : Q (.bl (bs.all id)) H) : rAll K [.ref a] H Q := ⟨a, bs, rfl, Evl.ex_l w.sub h, k⟩
theorem g_m1 {r : V → List V → Hp → VK → Prop} {t1 t2 : TE} (k : t1 σ H fun x H1 => (∃ a, x = .str a) ∧ t2 σ H1 fun y H2 => r x [y] H2 Q) : tM1 r t1 t2 σ H Q := k
theorem g_fld {t1 : TE} {f : Str} (k : t1 σ H fun x H1 => ∃ a C dx fs v, x = .ref a ∧ H1 a = some (.ins C dx fs) ∧ Cls K C ∧ NoAttr K C f ∧ fs.lookup f = some v ∧ Q v H1) : tFld K t1 f σ H Q := k
theorem g_con {t1 : TE} {f : Str} (k : t1 σ H fun x H1 => ∃ a C dx fs v u, x = .ref a ∧ H1 a = some (.ins C dx fs) ∧ Cls K C ∧ Con K C f v u ∧ fs.lookup f = none ∧ Q v H1) : tCon K t1 f σ H Q := k
/-- a list comprehension of values: each item gives one or is left out, no new object is kept -/
def FmStep (f : V → Option V) (x : V) (g : TG) (tt : TT) (te : TE) (vs : List Nat) (σ : L2.St) (G' : Hp) (R : Res) (H : Hp) : Prop :=
  g x (wipe σ vs) H fun σ2 H2 => wipe σ2 vs = wipe σ vs ∧ tt σ2 H2 fun b H3 => if b = true then te σ2 H3 fun y H4 => f x = some y ∧ Wd G' R H4 else f x = none ∧ Wd G' R H3
theorem filterMap_take {f : V → Option V} {xs : List V} {i : Nat} {x : V} (h : xs[i]? = some x) : (xs.take (i + 1)).filterMap f = (xs.take i).filterMap f ++ (match f x with | some y => [y] | none => []) := by
  rw [List.take_succ, h, List.filterMap_append]
  congr 1
  simp only [Option.toList_some, List.filterMap_cons, List.filterMap_nil]
  cases f x <;> rfl
end
/-- readings that pass on what is wanted (all of ours do) -/
def MonG (g : TG) : Prop := ∀ (v : V) (σ : L2.St) (H : Hp) (P P' : L2.St → Hp → Prop), (∀ σ H, P σ H → P' σ H) → g v σ H P → g v σ H P'
def MonT (t : TT) : Prop := ∀ (σ : L2.St) (H : Hp) (P P' : Bool → Hp → Prop), (∀ b H, P b H → P' b H) → t σ H P → t σ H P'
def MonE (t : TE) : Prop := ∀ (σ : L2.St) (H : Hp) (P P' : VK), (∀ v H, P v H → P' v H) → t σ H P → t σ H P'
end Sw

set_option Elab.async false
set_option linter.all false
set_option maxRecDepth 100000
set_option maxHeartbeats 4000000
namespace Sw
open PySem PySem.Spec PyProof.Rows L2

/-! ### a, b, *c = e, e a list -/
section
variable {X : Cx} {pos : Pos}
theorem pgs_star {e : Expr} {es : List Expr} {t : TG} {u : TGs} {p : Pos} (h1 : PG X e t) (h2 : PGs X es u) (hs : (assignEach (.Starred e p :: es) X.env).map (·.2) = assign e X.env :: (assignEach es X.env).map (·.2) := by rfl) : PGs X (.Starred e p :: es) (gCons t u) := by
  refine ⟨fun pins s σ H vs us Q I r h => ?_⟩
  obtain ⟨v, vr, e1, h⟩ := h
  subst e1
  cases r with
  | cons r rr =>
    rw [hs]
    refine assignInOrder_cons (thn (h1.run pins s σ H _ _ _ I r h) fun _ s1 ⟨σ1, H1, I1, q1⟩ => ?_)
    exact h2.run pins s1 σ1 H1 _ _ Q I1 rr q1
/-- the list's items: the first i, a new list of the middle ones, the last ones (n targets) -/
def gStarL (K : PySem.W.Frag) (n i : Nat) (t : TGs) : TG := fun v σ H Q => ∃ a xs, v = .ref a ∧ SqL K H a xs ∧ n ≤ xs.length + 1 ∧ xs.length ≤ 16384 ∧ ∀ p, H p = none → t (xs.take i ++ [.ref p] ++ (xs.drop i).drop (xs.length + 1 - n)) σ (upd H p (.lst ((xs.drop i).take (xs.length + 1 - n)))) Q
theorem vals_take {vs : List V} {us : List Value} (h : Vals vs us) : ∀ n, Vals (vs.take n) (us.take n) := by
  induction h with
  | nil => intro n; simp only [List.take_nil]; exact .nil
  | cons r _ ih =>
    intro n
    cases n with
    | zero => exact .nil
    | succ n => exact .cons r (ih n)
theorem vals_drop {vs : List V} {us : List Value} (h : Vals vs us) : ∀ n, Vals (vs.drop n) (us.drop n) := by
  induction h with
  | nil => intro n; simp only [List.drop_nil]; exact .nil
  | cons r h ih =>
    intro n
    cases n with
    | zero => exact .cons r h
    | succ n => exact ih n
theorem pg_starL {es : List Expr} {k : Nat} {t : TGs} {n i : Nat} (hc : X.calm = true) (h : PGs X es t) (hi : i < n)
    (hn : (assignEach es X.env).length = n := by rfl) (hst : (assignEach es X.env).findIdx? (·.1) = some i := by rfl) : PG X (.Tuple es k pos) (gStarL X.K n i t) := by
  refine ⟨fun pins s σ H v u Q I r hw => ?_⟩
  obtain ⟨a, xs, e1, hq, hl, hm, hw⟩ := hw
  subst e1
  cases r
  obtain ⟨its, rv, pl, hz⟩ := I.list hq
  have hlen : its.length = xs.length := rv.length.symm
  rw [PyProof.Rows.assign_Tuple]
  refine wpAny_bind (wpAny_standAt ?_)
  unfold unpack
  rw [hn, hst]
  have hl0 := pl.isList
  have hlt : a ≠ s.heap.objs.size := by obtain ⟨o, ho, _⟩ := hl0; exact Nat.ne_of_lt (Heap.lt_size ho)
  refine wpAny_bind (wpAny_holding ?_)
  have hsz : its.toArray.size = its.length := by simp
  unfold unpackItems
  refine wpAny_bind ?_
  unfold notIterableAtAll
  refine wpAny_bind (wpAny_specialOf hl0.typeIs PySem.F.slot_list_iter.lookup ?_)
  refine wpAny_pure ?_
  simp only [Bool.false_eq_true, if_false]
  refine wpAny_bind (wpAny_holding (wpAny_pyIter_list hl0 ?_))
  refine wpAny_bind (wpAny_holding (PySem.W.kun_draw hlt i 0 _ _ ⟨_, Heap.get?_push_size _ rfl, rfl, rfl⟩ (hl0.push _) (by rw [hsz]; omega) fun h₁ hit₁ hs₁ => ?_))
  have hl₁ : h₁.IsList a its.toArray := (hl0.push _).extBut hs₁.extBut hlt
  rw [Nat.zero_add] at hit₁
  have hit₁' := hit₁
  obtain ⟨oi, hoi, _⟩ := hit₁'
  have hl₁' := hl₁
  obtain ⟨ol, hol, _⟩ := hl₁'
  rw [List.drop_zero]
  have hfl : (its.toArray.toList.take i).length = i := by rw [List.length_take, Array.length_toList]; omega
  rw [if_neg (show ¬ ((its.toArray.toList.take i).length < i) by rw [hfl]; omega)]
  refine wpAny_bind (wpAny_holding (PySem.W.kun_collect (s := { s with heap := h₁ }) (T := "list_iterator") (.inr (.inr (.inl rfl))) (Walks.list (A := X.A.in1) (I.ok.hd hc) s.heap.objs.size a hlt its.toArray) (fun j u st => st.1.typeIs) (k := i) (by omega) ⟨hit₁, hl₁⟩ (Heap.lt_size hoi) (Heap.lt_size hol) (fun h₂ tk hk => ?_) (by rw [sizeLine_eq, hsz]; omega)))
  have hrl : (its.toArray.toList.drop i).length = its.length - i := by rw [List.length_drop, Array.length_toList, hsz]
  have hmid : (its.toArray.toList.drop i).length - (n - 1 - i) = xs.length + 1 - n := by rw [hrl]; omega
  show wpAny _ _ (if (its.toArray.toList.drop i).length < n - 1 - i then _ else _) _ _ _
  rw [if_neg (by rw [hrl]; omega)]
  show wpAny _ _ (newList ((its.toArray.toList.drop i).take ((its.toArray.toList.drop i).length - (n - 1 - i))) >>= fun d => pure (its.toArray.toList.take i ++ [d] ++ (its.toArray.toList.drop i).drop ((its.toArray.toList.drop i).length - (n - 1 - i)))) _ _ _
  rw [hmid]
  have hto : its.toArray.toList = its := by simp
  rw [hto]
  have I2 : Inv X pins σ H { s with heap := h₂, toks := tk } := I.kept (t' := tk) fun b o e => hk b o (Nat.ne_of_lt (Heap.lt_size e)) (hs₁.extBut b o (Nat.ne_of_lt (Heap.lt_size e)) (Heap.get?_push_of_some _ e))
  have rmid : Vals ((xs.drop i).take (xs.length + 1 - n)) ((its.drop i).take (xs.length + 1 - n)) := vals_take (vals_drop rv i) _
  have zmid : ((its.drop i).take (xs.length + 1 - n)).length ≤ sizeLine := by rw [List.length_take, List.length_drop, sizeLine_eq]; omega
  refine wpAny_bind (wpAny_newList (s := { s with heap := h₂, toks := tk }) (wpAny_pure ?_) zmid)
  have hf : H h₂.objs.size = none := I2.hok.fresh (Nat.le_refl _)
  have I3 : Inv X pins σ (upd H h₂.objs.size (.lst ((xs.drop i).take (xs.length + 1 - n)))) ⟨h₂.push { cls := .type "list", data := .seq ((its.drop i).take (xs.length + 1 - n)).toArray }, s.gens, s.drawn, tk, s.os⟩ :=
    Inv.laid (s := { s with heap := h₂, toks := tk }) (t' := tk) I2 (fun b u e => Heap.get?_push_of_some _ e) (Nat.le_refl _) ⟨by rw [List.length_take, List.length_drop, sizeLine_eq]; omega, _, 0, rmid, Heap.get?_push_size _ rfl⟩
  exact h.run pins _ σ _ _ _ Q I3 (((vals_take rv i).append (show Vals [V.ref h₂.objs.size] [Value.ref h₂.objs.size] from .cons rfl .nil)).append (vals_drop (vals_drop rv i) _)) (hw _ hf)
theorem kg_starL {es : List Expr} {k : Nat} {t : TGs} {n i : Nat} (K : PySem.W.Frag) (hc : X.calm = true) (h : PGs X es t) (hi : i < n) (hK : X.K = K := by rfl)
    (hn : (assignEach es X.env).length = n := by rfl) (hst : (assignEach es X.env).findIdx? (·.1) = some i := by rfl) : PG X (.Tuple es k pos) (gStarL K n i t) := by subst hK; exact pg_starL hc h hi hn hst
end

theorem kg_tup {X : Cx} {pos : Pos} {es : List Expr} {k : Nat} {t : TGs} {n : Nat} (K : PySem.W.Frag) (hc : X.calm = true) (h : PGs X es t) (hK : X.K = K := by rfl)
    (hn : (assignEach es X.env).length = n := by rfl) (hst : (assignEach es X.env).findIdx? (·.1) = none := by rfl) : PG X (.Tuple es k pos) (gTup K n t) := by subst hK; exact pg_tup hc h hn hst

/-! ### except (A, B): -/
theorem flyingZ_keeps {B : Heap} {l : List Env} {e : Addr} {Z : Obj → Prop} {h h' : Heap} (R : HandSPX.FlyingZ B l e Z h) (k : ∀ b o, h.get? b = some o → h'.get? b = some o) : HandSPX.FlyingZ B l e Z h' := by
  obtain ⟨f1, f2, f3, oe, ws, T, oT, ts, he, hc, hd, h1, hn, hne, hT, hdT, h3⟩ := R
  exact ⟨fun b o q => k b o (f1 b o q), f2, f3.of_keeps fun b o q _ => ⟨o, k b o q, rfl⟩, oe, ws, T, oT, ts, k _ _ he, hc, hd, h1, hn, hne, k _ _ hT, hdT, h3⟩
def wTwo (K : PySem.W.Frag) (c1 c2 : Value) (ts : Addr → Value → Option Addr → TS) (Wout : WX) (D : Ends) : WX := fun cls d σ H =>
  ∃ b, PySem.W.exmAny K cls [c1, c2] = some b ∧ (b = true → ∀ a, H a = none → ts a cls d D σ H) ∧ (b = false → Wout cls d σ H)
section
variable {X : Cx} {x y : Str} {c c' : Value} {body suite : List Stmt} {b₀ : Stmt} {np np' tp pos pos' : Pos} {kx : Nat} {tb : WX → TS} {ts : Addr → Value → Option Addr → TS} {Wout : WX}
theorem ps_try_two (hs : X.stack = X.env :: X.outer) (hf : X.env.frame = some X.env.locals) (hc : Names X x c) (hc' : Names X y c') (tk : Takes X Wout)
    (hb : ∀ (W : WX) (pn : List (Addr × Obj)) (xe : Value → Shared → Prop), Takes (X.tr pn xe) W → PassesOwn (model X.prog X.w) X.A X.env xe → PSs (X.tr pn xe) body (tb W))
    (hsu : ∀ (a : Addr) (oe : Obj) (cls : Value) (d : Option Addr) (pn : List (Addr × Obj)), Zc cls d oe → (∃ vs, oe.data = .fields vs) → PSs (X.suite a ((a, oe) :: pn)) (b₀ :: suite) (ts a cls d)) :
    PS X (.Try body [.ExceptHandler (some (.Tuple [.Name x np, .Name y np'] kx tp)) none (b₀ :: suite) pos'] [] [] pos) (fun D σ H => tb (wTwo X.K c c' ts Wout D) D σ H) := by
  refine ⟨fun pins s σ H D I h => ?_⟩
  have ok := I.ok
  have hfr : X.A.frames = some (X.env :: X.outer) := by rw [ok.frames, hs]
  refine wpAny_Try_except ?_
  refine wpAny_mono ((hb (wTwo X.K c c' ts Wout D) (X.pn ++ pins) (fun e s₁ => wpAny (model X.prog X.w) X.A (noteFrame e X.env) (fun _ s₂ => wpAny (model X.prog X.w) X.A (setFlight e none) (fun _ s₃ =>
    wpAny (model X.prog X.w) X.A (handleBy e X.env [.ExceptHandler (some (.Tuple [.Name x np, .Name y np'] kx tp)) none (b₀ :: suite) pos']) (SP X pins D) X.xe s₃) X.xe s₂) X.xe s₁) (fun u s' xx => ?_) PassesOwn.looking).run [] s σ H D (I.toTry _) h) (fun f s1 hsp => ?_) (fun e s1 he => he)
  · obtain ⟨a, B, sI, pins', σ', H', cls, d, rfl, J', nb, up, sky, na, os, ag, b, hb1, hyes, hno⟩ := xx
    have J : Inv X pins σ' H' sI := J'.ofTry ok
    have sky' : Sky B (X.env :: X.outer) a (Zc cls d) X.env.locals s'.heap := by rw [← hs]; exact sky
    show wpAny (model X.prog X.w) X.A (noteFrame (.ref a) X.env) _ _ _
    refine Sky.land Zc.steady hfr hf sky' fun h3 fl3 up3 => ?_
    have J3 : Inv X pins σ' H' { s' with heap := h3 } := J.landed nb fl3.1 (up.trans up3) os ag
    obtain ⟨oe3, vs3, he3, hz3, hd3⟩ := fl3.there
    have notFr : ∀ {h : Heap} {o : Obj} {vs : Array Value}, h.FunFrames B (X.env :: X.outer) → h.get? a = some o → o.data = .fields vs → a ∉ frs (X.env :: X.outer) := fun {h o vs} ff e dd hm => by
      obtain ⟨_, o', e', hnf⟩ := ff.mem hm
      rw [e] at e'; cases e'
      exact hnf _ dd
    have nfr := notFr fl3.2.2.1 he3 hd3
    have nL : a ≠ X.env.locals := fun z => nfr (List.mem_filterMap.mpr ⟨X.env, List.mem_cons_self, by rw [hf, z]⟩)
    have nF : a ∉ X.fs := fun hm => by
      obtain ⟨e, he, q⟩ := List.mem_filterMap.mp hm
      exact nfr (List.mem_filterMap.mpr ⟨e, List.mem_cons_of_mem _ he, q⟩)
    have S3 := J3.suite he3 hd3 na nL nF
    refine wpAny_handleBy_cons (codeAny_handlers_test ?_) (by intro q; cases q)
    have test : ∀ {x : Str} {c : Value} {np : Pos} {Q : Value → Shared → Prop} {E : Value → Shared → Prop}, Names X x c → Q c { s' with heap := h3 } → wpAny (model X.prog X.w) (X.A.mark (some (.ref a))) (eval (.Name x np) X.env) Q E { s' with heap := h3 } := fun {x c np Q E} hc q => by
      obtain ⟨hg, hdbg, hm | ⟨hm, hv, hnn⟩⟩ := hc
      · exact ld_glob (X := X.suite a ((a, oe3) :: (X.pn ++ pins))) S3 hg hm q hdbg
      · exact ld_blt (X := X.suite a ((a, oe3) :: (X.pn ++ pins))) S3 hg hm hv q hnn hdbg
    have e1 : starEach [.Name x np, .Name y np'] X.env = (false, eval (.Name x np) X.env) :: starEach [.Name y np'] X.env := rfl
    have e2 : starEach [.Name y np'] X.env = (false, eval (.Name y np') X.env) :: starEach [] X.env := rfl
    refine wpAny_Tuple_spliced (args_cons (test hc (args_cons (test hc' (args_nil ⟨by rw [sizeLine_eq]; show 2 ≤ 16777216; decide, ?_⟩)) e2)) e1)
    have k3 : ∀ b o, h3.get? b = some o → (h3.push ({ cls := .type "tuple", data := .seq [c, c'].toArray } : Obj)).get? b = some o := fun b o e => Heap.get?_push_of_some _ e
    have hp : (h3.push ({ cls := .type "tuple", data := .seq [c, c'].toArray } : Obj)).get? h3.objs.size = some ({ cls := .type "tuple", data := .seq [c, c'].toArray } : Obj) := Heap.get?_push_size _ rfl
    have fl3' := flyingZ_keeps fl3 k3
    have up3' := up3.trans (Heap.UpToSlots.of_keeps k3)
    have J3' : Inv X pins σ' H' { s' with heap := h3.push ({ cls := .type "tuple", data := .seq [c, c'].toArray } : Obj) } := J.landed nb fl3'.1 (up.trans up3') os ag
    show wpAny _ _ (excMatches (.ref a) (.ref h3.objs.size)) _ _ { s' with heap := h3.push ({ cls := .type "tuple", data := .seq [c, c'].toArray } : Obj) }
    generalize h3.push ({ cls := .type "tuple", data := .seq [c, c'].toArray } : Obj) = h5 at *
    have LT : PySem.W.Looks (model X.prog X.w) h5 (typeOf (.ref a)) cls := fun A Q E s k q => wpAny_typeOf_ref (k _ _ (k3 _ _ he3)) (by rw [hz3.1]; exact q)
    have LM := PySem.W.exm_tup2 (M := model X.prog X.w) (J3'.kIn) LT hp hb1
    refine LM.here ?_
    cases b with
    | true =>
      refine codeAny_handlers_suite ?_
      refine HandSPX.lands_againZ fl3' fun h4 fl4 up4 => ?_
      have J4 : Inv X pins σ' H' { s' with heap := h4 } := J.landed nb fl4.1 ((up.trans up3').trans up4) os ag
      obtain ⟨oe4, vs4, he4, hz4, hd4⟩ := fl4.there
      have S4 := J4.suite he4 hd4 na nL nF
      refine wpAny_mono ((hsu a oe4 cls d (X.pn ++ pins) hz4 ⟨_, hd4⟩).run [] _ _ H' _ S4 (hyes rfl a na)) (fun f s6 hsp => ?_) (fun _ _ z => False.elim z)
      cases f with
      | next =>
        obtain ⟨σ6, H6, S6, q6⟩ := hsp
        exact ⟨_, _, S6.unsuite ok, q6⟩
      | brk =>
        obtain ⟨σ6, H6, S6, q6⟩ := hsp
        exact ⟨_, _, S6.unsuite ok, q6⟩
      | cont =>
        obtain ⟨σ6, H6, S6, q6⟩ := hsp
        exact ⟨_, _, S6.unsuite ok, q6⟩
      | ret u =>
        obtain ⟨v6, σ6, H6, S6, r6, q6⟩ := hsp
        exact ⟨_, _, _, S6.unsuite ok, r6, q6⟩
    | false =>
      show wpAny _ X.A (handleBy (.ref a) X.env []) _ _ _
      refine wpAny_handleBy_nil ?_
      obtain ⟨k1, k2, k4, oe, vs, T, oT, ts', he, hz, hd, h1, hr⟩ := id fl3'
      unfold PySem.passOn
      refine wpAny_bind (wpAny_field he hd h1 ?_)
      rw [if_neg (show ¬ ((Value.ref T == Value.none) = true) from by simp)]
      have fin : wpAny (model X.prog X.w) X.A (setFlight (.ref a) X.env.frame) (fun _ s4 => wpAny (model X.prog X.w) X.A (throw (.ref a) : Sem Flow) (SP X pins D) X.xe s4) X.xe { s' with heap := h5 } := by
        rw [hf]
        refine HandSPX.setFlight_upZ fl3' fun h4 hh4 up4 => wpAny_throw (tk _ _ ?_)
        exact ⟨a, B, sI, pins, σ', H', cls, d, rfl, J, nb, (up.trans up3').trans up4, .inr (.inr (by rw [hs]; exact hh4)), na, os, ag, hno rfl⟩
      first
        | exact wpAny_bind (wpAny_pure (wpAny_bind fin))
        | exact wpAny_bind fin
  · cases f with
    | next =>
      obtain ⟨σ', H', J', q⟩ := hsp
      exact wpAny_execs_nil ⟨σ', H', J'.ofTry ok, q⟩
    | brk =>
      obtain ⟨σ', H', J', q⟩ := hsp
      exact ⟨σ', H', J'.ofTry ok, q⟩
    | cont =>
      obtain ⟨σ', H', J', q⟩ := hsp
      exact ⟨σ', H', J'.ofTry ok, q⟩
    | ret u =>
      obtain ⟨v, σ', H', J', r, q⟩ := hsp
      exact ⟨v, σ', H', J'.ofTry ok, r, q⟩
end

/-! ### C.m(..), m a staticmethod -/
structure CStat (K : PySem.W.Frag) (C : Addr) (mc : Value) (m : Str) (p g : Addr) : Prop where
  at_ : PySem.W.findCls K (.ref C) mc m = some (.get (.builtin "staticmethod.__get__") (.ref p) .none (.ref C))
  rc : ∃ rest, PySem.W.recIn K p "staticmethod" = some (.ref g :: rest)
  fi : PySem.W.keepIn K (.ref g) = true
/-- a static method of the class whose global name is x -/
structure GSt (P : Program) (w : World) (K : PySem.W.Frag) (mg : Str → Option Value) (base : Heap) (k : Nat) (x : Str) (m : Str) (n : Nat) (ks : List Str) (sp : SpC) : Prop where
  ex : ∃ C mc p g, mg x = some (.ref C) ∧ ClX.CRead K C mc ∧ CStat K C mc m p g ∧ Cal P w K mg base k g n ks sp
section
variable {X : Cx} {k n : Nat} {ks : List Str} {sp : SpC} {W : WX} {x m : Str} {np pos apos : Pos} {e : Expr} {es : List Expr} {kws : List Keyword} {t tk : TA} {pl : Sem Bool}
theorem pe_static (G : GSt X.prog X.w X.K X.mg X.base k x m n ks sp) (hr : Room k X.A) (tw : Takes X W) (ha : PA X (e :: es) t) (hkw : PK X kws tk) (hg : Gl X x := by rfl)
    (hall : (backToKw pos (keywordEach kws X.env)).all (·.1.isSome) = true := by rfl) (hks : (backToKw pos (keywordEach kws X.env)).filterMap (·.1) = ks := by rfl) (hdb : (x == ("__debug__" : Str)) = false := by decide)
    (hst : starEach (e :: es) X.env = (false, eval e X.env) :: starEach es X.env := by rfl) (hpl : ((backTo pos (starEach (e :: es) X.env)).any (·.1) || (backToKw pos (keywordEach kws X.env)).any (·.1.isNone)) = false := by rfl)
    (ht : eval (.Call (.Attribute (.Name x np) m apos) (e :: es) kws pos) X.env = (do
      let ov ← eval (.Name x np) X.env
      standAt apos.atName
      let (f, first) ← holding [ov] (getMethod ov m pl)
      callWith pos f first (backTo pos (starEach (e :: es) X.env)) (backToKw pos (keywordEach kws X.env))) := by rfl) :
    PE X (.Call (.Attribute (.Name x np) m apos) (e :: es) kws pos) (tCalG n ks.length sp W t tk) := by
  refine ⟨fun pins s σ H Q I h => ?_⟩
  obtain ⟨C, mc, p, g, hm, r, c, F⟩ := G.ex
  obtain ⟨rest, hp⟩ := c.rc
  refine PySem.W.methodCall_KW (pl := pl) (ld_glob I hg hm ?_ hdb) ht
  refine PySem.W.method_cls I.kIn r.ga (PySem.W.cls_bind I.kIn r.rd c.at_ (wpAny_call (PySem.W.sm_get (s := { s with toks := s.toks + 1 }) I.kIn hp (PySem.W.handed_on (s := { s with toks := s.toks + 1 }) rfl ?_))))
  have I2 := I.tok (s.toks + 1)
  refine PySem.W.callWith_KW (h₀ := X.base) I.ok.mod.kin c.fi hall (thn (ha.run pos pins _ σ H _ I2 h) fun us s2 ⟨vs, H2, I2, r, q⟩ => ?_) hpl hst
  refine thn (hkw.run pos pins s2 σ H2 _ I2 q) fun ws s3 ⟨zs, H3, I3, rz, l1, l2, q3⟩ => ⟨I3.kIn, ?_⟩
  rw [hks]
  exact wpAny_call (run_cal F hr tw I3 r rz l1 l2 q3)
end

/-! ### target = e, e with super() -/
section
variable {X : Cx} {body : List Stmt} {pos : Pos}
theorem pst_asg {tg e : Expr} {te : TE} {g : TG} (he : PEt X body e te) (hg : PG X tg g) (hs : swapsWithSole [tg] e pos.line X.env = pure false := by rfl) (hw : swappedStores [tg] e X.env = pure none := by rfl)
    (h1 : (assignEach [tg] X.env).map (·.2) = [assign tg X.env] := by rfl) : PSt X body (.Assign [tg] e pos) (tAsg te g) := by
  refine ⟨fun pins s σ H D I h => ?_⟩
  rw [exec_Assign_arm]
  refine PySem.wpAt_bind (wpAt_of_wpAny (wpAny_standAt ?_))
  rw [hs]
  refine PySem.wpAt_bind (wpAt_of_wpAny (wpAny_pure ?_))
  rw [if_neg (by decide)]
  refine PySem.wpAt_bind (ks_wpAt_mono (he.run pins s σ H _ I h) (fun v s1 ⟨x, H1, I1, r1, q1⟩ => ?_) fun _ _ x => x)
  rw [hw]
  refine wpAt_of_wpAny (wpAny_bind (wpAny_pure ?_))
  show wpAny _ _ (do assignAll v ((assignEach [tg] X.env).map (·.2)); pure Flow.next) _ _ _
  refine wpAny_bind ?_
  rw [h1]
  exact thn (hg.run pins s1 σ H1 x v _ I1 r1 q1) fun _ s2 q => wpAny_pure q
end

/-! ### o.f = e; steps -/
section
variable {G H : Hp} {R : Res} {K : PySem.W.Frag} {f : Str} {v : V} {a C dx : Addr} {fs : List (Str × V)}
/-- the end of o.f = e -/
theorem g_sf {P : Hp → Prop} (w : Wd G R H) (h : G a = some (.ins C dx fs)) (hc : Cls K C) (hn : NoAttr K C f) (hl : fs.length < 1000) (k : ∀ H', Wd (upd G a (.ins C dx (putF f v fs))) R H' → P H') :
    ∃ a' C' dx' fs', V.ref a = .ref a' ∧ H a' = some (.ins C' dx' fs') ∧ Cls K C' ∧ NoAttr K C' f ∧ fs'.length < 1000 ∧ P (upd H a' (.ins C' dx' (putF f v fs'))) :=
  ⟨a, C, dx, fs, rfl, w.get h, hc, hn, hl, k _ (w.set h)⟩
/-- the end of o.f -/
theorem g_gf {P : V → Prop} (w : Wd G R H) (h : G a = some (.ins C dx fs)) (hc : Cls K C) (hn : NoAttr K C f) (hf : fs.lookup f = some v) (k : P v) :
    ∃ a' C' dx' fs' v', V.ref a = .ref a' ∧ H a' = some (.ins C' dx' fs') ∧ Cls K C' ∧ NoAttr K C' f ∧ fs'.lookup f = some v' ∧ P v' := ⟨a, C, dx, fs, v, rfl, w.get h, hc, hn, hf, k⟩
/-- the end of o.f, a constant of its class -/
theorem g_gc {P : V → Prop} {u : Value} (w : Wd G R H) (h : G a = some (.ins C dx fs)) (hc : Cls K C) (hn : Con K C f v u) (hf : fs.lookup f = none) (k : P v) :
    ∃ a' C' dx' fs' v' u', V.ref a = .ref a' ∧ H a' = some (.ins C' dx' fs') ∧ Cls K C' ∧ Con K C' f v' u' ∧ fs'.lookup f = none ∧ P v' := ⟨a, C, dx, fs, v, u, rfl, w.get h, hc, hn, hf, k⟩
end
def rInt1 : List V → Hp → VK → Prop := fun xs H Q => (∃ i, xs = [.int i] ∧ Q (.int i) H) ∨ ∃ k, xs = [.bl k] ∧ Q (.int (if k = true then 1 else 0)) H
theorem ka_int {X : Cx} : CallR X (.type "int") rInt1 := call_int1
theorem g_intB {H : Hp} {Q : VK} {b : Bool} (k : Q (.int (if b = true then 1 else 0)) H) : rInt1 [.bl b] H Q := .inr ⟨b, rfl, k⟩
theorem g_intI {H : Hp} {Q : VK} {i : Int} (k : Q (.int i) H) : rInt1 [.int i] H Q := .inl ⟨i, rfl, k⟩
theorem putF_nil {f : Str} {v : V} : putF f v [] = [(f, v)] := rfl
section
variable {σ : L2.St} {H : Hp} {Q : VK} {K : PySem.W.Frag} {D : Ends} {G : Hp} {R : Res} {te to : TE} {ta tk : TA} {f m : Str} {a C dx : Addr} {fs : List (Str × V)} {v : V} {W : WX} {n k : Nat} {ks : List Str} {sp : SpC} {P : Program} {wo : World} {mg : Str → Option Value} {base : Heap}
theorem g_meth {t : TA} (k0 : te σ H fun x H1 => ∃ a C dx fs sp, x = .ref a ∧ H1 a = some (.ins C dx fs) ∧ fs.lookup m = none ∧ GMt P wo K mg base k C m n ks sp ∧ t σ H1 fun vs H2 => tk σ H2 fun zs H3 => vs.length = n ∧ zs.length = ks.length ∧ sp (.ref a :: vs) zs H3 Q (WE W σ)) :
    tMtG P wo K mg base k m n ks W te t tk σ H Q := k0
theorem g_prop (k0 : te σ H fun x H1 => ∃ a C dx fs sp, x = .ref a ∧ H1 a = some (.ins C dx fs) ∧ GPr P wo K mg base k C m sp ∧ sp [.ref a] [] H1 Q E0) : tPrG P wo K mg base k m te σ H Q := k0
theorem g_exc1 {C : Addr} {fld : Str} {E : XK} (k0 : ta σ H fun vs H1 => ∃ v, vs = [v] ∧ ∀ d, H1 d = none → E (.ref C) (some d) (upd H1 d (.xd [(fld, v)]))) : tExc1 C fld ta σ H E := k0
theorem g_setF (k0 : te σ H fun y H1 => to σ H1 fun x H2 => ∃ a C dx fs, x = .ref a ∧ H2 a = some (.ins C dx fs) ∧ Cls K C ∧ NoAttr K C f ∧ fs.length < 1000 ∧ D.nx σ (upd H2 a (.ins C dx (putF f y fs)))) : sFld K to te f D σ H := k0
theorem g_andT {t1 t2 : TE} (k0 : t1 σ H fun x H1 => ∃ b, TruV K x H1 b ∧ if b = true then t2 σ H1 Q else Q x H1) : tAndT K t1 t2 σ H Q := k0
theorem g_exI {a : Int} {P : Int → Prop} (k0 : P a) : ∃ i, V.int a = V.int i ∧ P i := ⟨a, rfl, k0⟩
theorem g_dnew (k0 : NewO (.dK []) H Q) : tDNewK σ H Q := k0
theorem g_U {g : Int → V} {i : Int} (k0 : Q (g i) H) : rU g (.int i) H Q := ⟨i, rfl, k0⟩
theorem g_asgF {ts : TS} (k0 : ts D σ H) : ts D σ H := k0
theorem g_star {tr : TA} {QA : List V → Hp → Prop} (k0 : te σ H fun x H1 => ∃ p xs, x = V.ref p ∧ (SqT K H1 p xs ∨ SqL K H1 p xs) ∧ tr σ H1 fun ys H2 => QA (xs ++ ys) H2) : StX.tStar K te tr σ H QA := k0
end
end Sw

set_option Elab.async false
set_option linter.all false
set_option maxRecDepth 100000
set_option maxHeartbeats 4000000
namespace Sw
open PySem PySem.Spec PySem.Calls PyProof.Rows PySem.W
section
variable {prog : Program} {w : World} {A : Around} {E : Value → Shared → Prop} {s : Shared} {K : Frag} {x D : Addr} {ox od : Obj}
theorem sw_classE {Q : Option Value → Shared → Prop} (hga : findIn K (.ref D) "__getattribute__" = some (some (.builtin "BaseException.__getattribute__"))) (hgt : findIn K (.ref D) "__getattr__" = some none) (hsub : subIn K (.ref D) (.type "BaseException") = some true)
    (hdct : hasDictIn K D = true) (ha : findIn K (.ref D) "__class__" = some (some (.builtin "object.__class__")))
    (hn : specialIn K (.builtin "object.__class__") "__get__" = some (some (.builtin "getset_descriptor.__get__"))) (htk : takesIn K (.builtin "object.__class__") = some true) (hm : mroIn K D (.type "object") = some true)
    (X : K.In s.heap) (I : InstAt s.heap x ox D (some od)) (h : Q (some (.ref D)) { s with toks := s.toks + 1 }) : wpAny (model prog w) A (getAttr? (.ref x) "__class__") Q E s := by
  have hf : findObj K D (some od) "__class__" = some (.bind (.builtin "getset_descriptor.__get__") (.builtin "object.__class__")) := findObj_data (by obtain ⟨cd, hc, _⟩ := any_some hdct; rw [hc]; rfl) ha hn htk
  obtain ⟨hp, g, d, t, os⟩ := s
  have L0 := I.type (M := model prog w)
  have L1 := looks_findIn (M := model prog w) X hga
  have L2 := looks_findIn (M := model prog w) X hgt
  have L3 := looks_find (M := model prog w) X I hf
  have sub : Looks (model prog w) hp (isInstance (.ref x) (.type "BaseException")) true := L0.andThen (looks_subIn X hsub)
  have hx0 : (false && onTheHeap (Value.builtin "BaseException.__getattribute__")) = false := rfl
  have hx2 : (Value.builtin "BaseException.__getattribute__" == Value.builtin "object.__getattribute__") = false := by decide +kernel
  have hx1 : (onTheHeap (Value.ref D) && Value.builtin "BaseException.__getattribute__" == Value.builtin "object.__getattribute__") = false := by rw [hx2]; rfl
  unfold getAttr? getAttrBy? getAttrBy
  refine wpAny_bind (wpAny_mkText (wpAny_bind (wpAny_attempt (wpAny_holding (wpAny_bind (L0.at (wpAny_bind (L1.at ?_))))))))
  show wpAny _ _ (if (onTheHeap (Value.ref D) && Value.builtin "BaseException.__getattribute__" == Value.builtin "object.__getattribute__") = true then _ else _) _ _ _
  rw [hx1, if_neg Bool.false_ne_true]
  unfold getAttrByItsOwn hookBefore
  refine wpAny_bind ?_
  rw [if_pos (show onTheHeap (Value.ref D) = true from rfl)]
  refine L2.at ?_
  refine wpAny_bind (wpAny_attempt (wpAny_holding ?_))
  unfold callGetattribute
  rw [hx0, if_neg Bool.false_ne_true]
  unfold boundAndCalled
  rw [PySem.F.excAttr_ValueError.ga.bind (.ref x)]
  refine wpAny_bind (wpAny_pure ?_)
  show wpAny _ _ (call (.builtin "BaseException.__getattribute__") [.ref x, .str "__class__" t]) _ _ _
  refine wpAny_call (codeAny_call_builtin PySem.F.excAttr_ValueError.ga.plain PySem.F.entry_bexc_ga ?_)
  refine @check_slot (model prog w) _ _ ⟨hp, g, d, t + 1, os⟩ "BaseException.__getattribute__" "BaseException" "__getattribute__" (.ref x) [.str "__class__" t] [] _ (by decide +kernel) (by decide +kernel) sub (PySem.F.args_bexc_ga (.ref x) (.str "__class__" t)) ?_
  unfold Builtin.«object.__getattribute__»
  refine wpAny_bind (wpAny_of_eq (a := ((Value.ref x : Value), [Value.str "__class__" t])) (by first | rfl | (simp only [slotArgs]; rfl)) ?_)
  refine wpAny_bind (wpAny_pure (wpAny_bind (L0.at (wpAny_bind (L3.at ?_)))))
  show wpAny _ _ (holding [Value.builtin "object.__class__"] (call (.builtin "getset_descriptor.__get__") [.builtin "object.__class__", .ref x, .ref D]) >>= ret) _ _ _
  refine wpAny_bind (wpAny_holding (wpAny_call (class_get (s := ⟨hp, g, d, t + 1, os⟩) (ox := ox) (od := some od) X I hm ?_)))
  refine wpAny_pure ?_
  show wpAny _ _ (handedOut (.ref D)) _ _ _
  rw [handedOut_of (v := .ref D) rfl]
  first
    | exact wpAny_pure (wpAny_pure h)
    | exact wpAny_pure h
    | exact wpAny_pure (wpAny_bind (wpAny_pure (wpAny_pure h)))
theorem sw_kitx (hga : findIn K (.ref D) "__getattribute__" = some (some (.builtin "BaseException.__getattribute__"))) (hgt : findIn K (.ref D) "__getattr__" = some none) (hsub : subIn K (.ref D) (.type "BaseException") = some true) (hdct : hasDictIn K D = true) (ha : findIn K (.ref D) "__class__" = some (some (.builtin "object.__class__")))
    (hn : specialIn K (.builtin "object.__class__") "__get__" = some (some (.builtin "getset_descriptor.__get__"))) (htk : takesIn K (.builtin "object.__class__") = some true) (hm : mroIn K D (.type "object") = some true) :
    KitX K (.ref x) (.ref D) (fun h => InstAt h x ox D (some od)) where
  ty := fun _ _ _ I => I.type
  it := fun _ _ X _ => by
    obtain ⟨cdD, hcD, _⟩ := any_some hdct
    unfold clsIn at hcD
    split at hcD
    · rename_i c' d' cd' sl' ho
      intro A' Q' E' s' k q
      unfold isType loadHead
      exact wpAny_bind (wpAny_loadPart (k _ _ (X _ _ ho)) (wpAny_pure q))
    · cases hcD
  ne := fun h tp dd its n sl X htp => by
    obtain ⟨cdD, hcD, _⟩ := any_some hdct
    refine Bool.eq_false_iff.mpr fun q => ?_
    have e : D = tp := Value.ref.inj (beq_iff_eq.mp q)
    subst e
    unfold clsIn at hcD
    split at hcD
    · rename_i c' d' cd' sl' ho
      have z := (X _ _ ho).symm.trans htp
      cases z
    · cases hcD
  ca := fun X I k => sw_classE hga hgt hsub hdct ha hn htk hm X I k
end
end Sw
namespace Sw
open PySem PySem.Spec PyProof.Rows L2
/-! ### isinstance(e, c), e a caught own exception with a dict -/
def rIsX (K : PySem.W.Frag) (a : Addr) (cls : Value) (d : Option Addr) : List V → Hp → VK → Prop := fun xs H Q => ∃ (c : V) (cv : Value) (b : Bool) (D dd : Addr) (fs : List (Str × V)), xs = [.ref a, c] ∧ cls = .ref D ∧ d = some dd ∧ H dd = some (.xd fs) ∧ ExcC K D ∧ (∀ u, RelV c u → u = cv) ∧ PySem.W.kitOne K (.ref D) cv = some b ∧ Q (.bl b) H
theorem call_isX {X : Cx} {a : Addr} {cls : Value} {d : Option Addr} {oe : Obj} {pn : List (Addr × Obj)} (K : PySem.W.Frag) (hz : Zc cls d oe) (hf : ∃ vs, oe.data = .fields vs) (hK : X.K = K := by rfl) : CallR (X.suite a ((a, oe) :: pn)) (.builtin "isinstance") (rIsX K a cls d) := by
  subst hK
  intro pins s σ H xs us Q I r h
  obtain ⟨c, cv, b, D, dd, fs, rfl, ec, ed, ea, C, hcv, e, q⟩ := h
  subst ec ed
  cases r with
  | cons rx rr =>
    cases rr with
    | cons rt rr =>
      cases rr
      cases rx
      have ec := hcv _ rt
      subst ec
      obtain ⟨hget, _⟩ := I.pin (a, oe) (List.mem_append.mpr (.inl List.mem_cons_self))
      obtain ⟨vs, hv⟩ := hf
      have hx : ObjOk X.prog X.w H s.heap dd (.xd fs) := I.hok dd _ ea
      obtain ⟨mA, hns, hr⟩ := hx
      obtain ⟨od, ho, hl⟩ := lookIn_ns hns
      have J : PySem.W.InstAt s.heap a oe D (some od) := ⟨hget, hz.1, by unfold PySem.W.notCls; rw [hv] <;> rfl, by rw [hz.2]; exact ho⟩
      exact PySem.W.kia_one (sw_kitx C.hg C.hk C.hs C.hd C.ha C.hn C.ht C.hm) I.kIn J e (fun z => nomatch z) fun tk => ⟨.bl b, H, I.kept (t' := tk) fun _ _ z => z, rfl, q⟩
/-- e.f, whatever own class e is of -/
def tXg (K : PySem.W.Frag) (a : Addr) (cls : Value) (d : Option Addr) (f : Str) (te : TE) : TE := fun σ H Q => te σ H fun x H1 => x = .ref a ∧ ∃ (C dd : Addr) (fs : List (Str × V)) (v : V), cls = .ref C ∧ d = some dd ∧ XfC K C ∧ PySem.W.findIn K (.ref C) f = some none ∧ H1 dd = some (.xd fs) ∧ fs.lookup f = some v ∧ Q v H1
theorem g_xg {K : PySem.W.Frag} {a : Addr} {cls : Value} {d : Option Addr} {f : Str} {te : TE} {σ : L2.St} {H : Hp} {Q : VK} (k : te σ H fun x H1 => x = .ref a ∧ ∃ (C dd : Addr) (fs : List (Str × V)) (v : V), cls = .ref C ∧ d = some dd ∧ XfC K C ∧ PySem.W.findIn K (.ref C) f = some none ∧ H1 dd = some (.xd fs) ∧ fs.lookup f = some v ∧ Q v H1) : tXg K a cls d f te σ H Q := k
theorem pe_xg {X : Cx} {a : Addr} {oe : Obj} {cls : Value} {d : Option Addr} {pn : List (Addr × Obj)} {e : Expr} {te : TE} {pos : Pos} {n : Str} (K : PySem.W.Frag)
    (hz : Zc cls d oe) (hf : ∃ vs, oe.data = .fields vs) (he : PE (X.suite a ((a, oe) :: pn)) e te) (hK : X.K = K := by rfl) (hb : attributeBase e n X.env (eval e X.env) = eval e X.env := by rfl) :
    PE (X.suite a ((a, oe) :: pn)) (.Attribute e n pos) (tXg K a cls d n te) := by
  subst hK
  refine ⟨fun pins s σ H Q I h => ?_⟩
  refine attr_of hb (thn (he.run pins s σ H _ I h) fun u s1 hh => ?_)
  obtain ⟨x, H1, I1, rx, ex, C, dd, fs, v, ec, ed, T, hno, ea, l, q⟩ := hh
  subst ex
  obtain rfl : u = Value.ref a := rx
  subst ec
  subst ed
  obtain ⟨ha, _⟩ := I1.pin (a, oe) (List.mem_append_left _ List.mem_cons_self)
  obtain ⟨vs, hd⟩ := hf
  have hx : ObjOk X.prog X.w H1 s1.heap dd (.xd fs) := I1.hok dd _ ea
  obtain ⟨mA, hns, hr⟩ := hx
  obtain ⟨od, ho, hl⟩ := lookIn_ns hns
  obtain ⟨u, hu, ru⟩ := RelO.some_of (v := v) (o := mA n) (by rw [← l]; exact hr n)
  have J : PySem.W.InstAt s1.heap a oe C (some od) := ⟨ha, hz.1, by unfold PySem.W.notCls; rw [hd] <;> rfl, by rw [hz.2]; exact ho⟩
  exact HandSPX.exc_get I1.kIn J T.ga T.gg T.exC (PySem.W.findObj_own T.hdC hno rfl (by rw [hl, hu])) (handed_of ru) ⟨v, H1, I1.tok _, ru, q⟩
/-- names in an except clause -/
theorem names_of {X : Cx} {x : Str} {a : Addr} (hg : Gl X x) (h : ∃ u, X.mg x = some u ∧ RelV (.ref a) u) (hd : (x == ("__debug__" : Str)) = false := by decide) : Names X x (.ref a) := by
  obtain ⟨u, hm, r⟩ := h
  have r' : u = Value.ref a := r
  subst r'
  exact ⟨hg, hd, .inl hm⟩

/-- a plain def with defaults: its takes at hand -/
theorem okTD {P : Program} {w : World} {K : PySem.W.Frag} {mg : Str → Option Value} {base : Heap} {x qual : Str} {st : Stmt} {f : Addr} {fd : FuncData} {N ps : List Str} {k : Nat} {sp : Sp} {dvs : List V} {kws : List (Str × V)} (F : FunD K x qual (defArgs st) (defBody st) (defScope st) dvs kws f fd) (S : FnScope N ps (defScope st)) (len : ∀ vs H Q E, sp vs H Q E → vs.length = ps.length)
    (hbody : ∀ (cdv : Value) (A : Around) (outer : List Env) (s : Shared) (H : Hp) (vs : List V) (Q : VK) (E : XK), Room k (A.deeper (envOfC qual (defScope st) s.heap.objs.size f cdv)) →
      Takes (cxOf (L2.CX P w) P w K mg base N qual (defScope st) f cdv A outer s H E) (fun cls d _ H => E cls d H) →
      PassesOwn (model P w) (A.deeper (envOfC qual (defScope st) s.heap.objs.size f cdv)) (envOfC qual (defScope st) s.heap.objs.size f cdv) (cxOf (L2.CX P w) P w K mg base N qual (defScope st) f cdv A outer s H E).xe → sp vs H Q E →
      ∃ t, PSs (cxOf (L2.CX P w) P w K mg base N qual (defScope st) f cdv A outer s H E) (defBody st) t ∧ t { nx := fun _ H' => Q .non H', rt := Q } (L2.start N vs) H) : FnOk P w K mg base (L2.CX P w) (k + 1) f fd ps sp :=
  F.ok S len fun cdv A outer s H vs Q E hr h => hbody cdv A outer s H vs Q E hr (takes_of rfl rfl rfl rfl) (passes_of (X := cxOf (L2.CX P w) P w K mg base N qual (defScope st) f cdv A outer s H E) rfl) h
section
variable {K : PySem.W.Frag} {G H G' : Hp} {R : Res} {p x : Addr} {o : HO} {v : V} {t : Value}
theorem Same.upd2 (e : Same G G') : Same (upd G p o) (upd G' p o) := fun b u h => by
  by_cases hb : b = p
  · subst hb; rw [upd_same] at h ⊢; exact h
  · rw [upd_ne hb] at h ⊢; exact e b u h
theorem tyX_same (e : Same G H) (h : TyX K G v t) : TyX K H v t := by
  cases h with
  | base h =>
    cases h with
    | non => exact .base .non
    | bl b => exact .base (.bl b)
    | int i => exact .base (.int i)
    | str s => exact .base (.str s)
    | flt s => exact .base (.flt s)
    | lst q => exact .base (.lst (e _ _ q))
    | frz q => exact .base (.frz (e _ _ q))
    | tup q => exact .base (.tup (e _ _ q))
    | dK q => exact .base (.dK (e _ _ q))
    | dT q => exact .base (.dT (e _ _ q))
    | ins q z1 z2 z3 z4 z5 => exact .base (.ins (e _ _ q) z1 z2 z3 z4 z5)
  | byt b => exact .byt b
  | set q => exact .set (e _ _ q)
  | kList q c => exact .kList q c
  | kTuple q c => exact .kTuple q c
  | kDict q c => exact .kDict q c
  | fTuple q => exact .fTuple (e _ _ q)
  | fDict q => exact .fDict (e _ _ q)
theorem tyX_ins {C dx : Addr} {fs fs' : List (Str × V)} (hx : G x = some (.ins C dx fs)) (h : TyX K G v t) : TyX K (upd G x (.ins C dx fs')) v t := by
  have key : ∀ {a : Addr} {o : HO}, G a = some o → (∀ C dx fs, o ≠ .ins C dx fs) → upd G x (.ins C dx fs') a = some o := fun {a o} q n => by
    have : a ≠ x := fun z => by
      subst z
      rw [hx] at q
      cases q
      exact n _ _ _ rfl
    rw [upd_ne this]
    exact q
  cases h with
  | base h =>
    cases h with
    | non => exact .base .non
    | bl b => exact .base (.bl b)
    | int i => exact .base (.int i)
    | str s => exact .base (.str s)
    | flt s => exact .base (.flt s)
    | lst q => exact .base (.lst (key q (by intros; simp)))
    | frz q => exact .base (.frz (key q (by intros; simp)))
    | tup q => exact .base (.tup (key q (by intros; simp)))
    | dK q => exact .base (.dK (key q (by intros; simp)))
    | dT q => exact .base (.dT (key q (by intros; simp)))
    | @ins a C' dx' fs2 q h1 h2 h3 h4 h5 =>
      by_cases z : a = x
      · subst z
        rw [hx] at q
        cases q
        exact .base (.ins upd_same h1 h2 h3 h4 h5)
      · exact .base (.ins (show upd G x (.ins C dx fs') a = some (.ins C' dx' fs2) by rw [upd_ne z]; exact q) h1 h2 h3 h4 h5)
  | byt b => exact .byt b
  | set q => exact .set (key q (by intros; simp))
  | kList q c => exact .kList q c
  | kTuple q c => exact .kTuple q c
  | kDict q c => exact .kDict q c
  | fTuple q => exact .fTuple (key q (by intros; simp))
  | fDict q => exact .fDict (key q (by intros; simp))
end
end Sw

set_option Elab.async false
set_option linter.all false
set_option maxRecDepth 100000
set_option maxHeartbeats 4000000
namespace Sw
open PySem PySem.Spec PyProof.Rows L2
/-! ### promises for calls with no repr open (guards) -/
structure FnG (P : Program) (w : World) (K : PySem.W.Frag) (mg : Str → Option Value) (base : Heap) (CX : CXT) (k : Nat) (f : Addr) (fd : FuncData) (ps : List Str) (sp : Sp) : Prop where
  len : ∀ vs H Q E, sp vs H Q E → vs.length = ps.length
  run : ∀ (A : Around) (outer : List Env) (s : Shared) (H : Hp) (args : Args) (us : List Value) (vs : List V) (Q : VK) (E : XK), Room k A → A.guards = some [] → Env0 P w K mg base A outer s H → BindsTo s fd args (ps.zip us) → Vals vs us → sp vs H Q E →
    codeAny (model P w) A (.call (.ref f) args) (CR CX outer P w H s Q E) s
theorem fnG_of {CX : CXT} {P : Program} {w : World} {K : PySem.W.Frag} {mg : Str → Option Value} {base : Heap} {k : Nat} {f : Addr} {name qual : Str} {params : Arguments} {body : List Stmt} {scope : Scope} {dV kV doc pm cdv ct oc : Value} {an od : Option Addr}
    {osl : Array (Option Value)} {N ps : List Str} {sp : Sp} (lk : K.lookup f = some ⟨oc, od, .func (PySem.W.fnOf name qual params body scope dV kV doc pm an cdv ct), osl⟩) (hcd : PySem.W.codeIn K cdv qual = true) (S : FnScope N ps scope)
    (len : ∀ vs H Q E, sp vs H Q E → vs.length = ps.length)
    (hbody : ∀ (A : Around) (outer : List Env) (s : Shared) (H : Hp) (vs : List V) (Q : VK) (E : XK), Room k (A.deeper (envOfC qual scope s.heap.objs.size f cdv)) → A.guards = some [] → sp vs H Q E →
      ∃ t, PSs (cxOf CX P w K mg base N qual scope f cdv A outer s H E) body t ∧ t { nx := fun _ H' => Q .non H', rt := Q } (L2.start N vs) H) :
    FnG P w K mg base CX (k + 1) f (PySem.W.fnOf name qual params body scope dV kV doc pm an cdv ct) ps sp := by
  refine ⟨len, fun A outer s H args us vs Q E hr hgd e0 hb r hsp => ?_⟩
  have hl := len _ _ _ _ hsp
  have KX : K.In s.heap := e0.mod.kin.keeps fun b o e => (e0.bs b o e).1
  have lim : s.heap.NoLimit := e0.mod.nolimit.keeps fun b o e => (e0.bs b o e).1
  have hkind : ∀ y ∈ ps.zip us, scope.names.lookup y.1 = some .local ∨ (scope.names.lookup y.1 = some .cell ∧ ((cellsFrom (s.heap.objs.size + 1) scope.names []).lookup y.1).isSome = true) := fun ⟨n, v⟩ hy => by
    rcases S.par n (List.of_mem_zip hy).1 with q | q
    · exact .inl q
    · exact .inr ⟨q, PySem.W.cellsFrom_some _ _ _ (.inl q)⟩
  refine codeAny_call_function hr.depth (KX _ _ lk) rfl S.co S.gen rfl (PySem.W.codeRec_of KX hcd) (hb _ _ _ _ ?_)
  refine wpAny_newFunctionEnv_cells S.kind hkind fun env he s1 x => ?_
  subst he
  refine ⟨lim.keeps x.toInCall.keep, codeAny_func ?_⟩
  obtain ⟨t, ht, hq⟩ := hbody A outer s H vs Q E (hr.deeper _) hgd hsp
  have I : Inv (cxOf CX P w K mg base N qual scope f cdv A outer s H E) [] (L2.start N vs) H s1 := inv_start S hr.hd e0 hl r x
  refine wpAny_mono (ht.run [] s1 (L2.start N vs) H _ I hq) (fun fl s' hs => ?_) fun e s' hs => hs
  have fin : ∀ {σ' : L2.St} {H' : Hp} {v : V} {u : Value}, Inv (cxOf CX P w K mg base N qual scope f cdv A outer s H E) [] σ' H' s' → RelV v u → Q v H' → CE outer P w H s Q u s' :=
    fun {σ' H' v u} J rv q => ⟨v, H', J.os, J.bare, J.base, J.hok, rv, q⟩
  cases fl with
  | ret u =>
    obtain ⟨v, σ', H', J, rv, q⟩ := hs
    exact fin J rv q
  | next =>
    obtain ⟨σ', H', J, q⟩ := hs
    exact fin (v := V.non) (u := Value.none) J rfl q
  | brk =>
    obtain ⟨_, _, _, q⟩ := hs
    exact False.elim q
  | cont =>
    obtain ⟨_, _, _, q⟩ := hs
    exact False.elim q
theorem law_callG {P : Program} {w : World} {K : PySem.W.Frag} {mg mb : Str → Option Value} {CX : CXT} {k : Nat} {fa a : Addr} {fd : FuncData} {x : Str} {sp : Sp} {s₁ : Shared} {vs : List Value} {ns : List Int}
    (KX : K.In s₁.heap) (hns : s₁.heap.Ns mainGlobals mg) (hb : s₁.heap.Ns builtinsNs mb) (hbb : ∀ x : Str, x ≠ "__name__" → mb x = bootBuiltins x) (hlim : s₁.heap.NoLimit) (hg : s₁.gens = #[])
    (ha : s₁.heap.get? a = some { cls := .type "list", data := .seq vs.toArray }) (hi : IntsAre vs ns) (hl : ns.length ≤ sizeLine) (hr : Room k callerA)
    (F : ∀ base : Heap, K.In base → base.Ns mainGlobals mg → FnG P w K mg base CX k fa fd [x] sp) (hbind : ∀ (s : Shared) (u : Value), BindsTo s fd ⟨[u], []⟩ [(x, u)])
    (hsp : ∀ H : Hp, Only H → SqL K H a (ns.map V.int) → sp [.ref a] H (fun v _ => v = .bl true) fun _ _ _ => False)
    (hCX : ∀ H e s', CX [] H s₁ (fun _ _ _ => False) e s' → False) :
    codeAny (model P w) callerA (.call (.ref fa) ⟨[.ref a], []⟩) (fun r s' => r = .ok (.ret (.bool true)) ∧ OldK s₁.heap s'.heap ∧ s'.os = s₁.os ∧ AllBare s'.gens) s₁ := by
  have rv := vals_ints hi
  have lenV := hi.length
  -- from an abstract heap in which nothing but the script may be tracked
  have core : ∀ H : Hp, Only H → SqL K H a (ns.map V.int) → HOk P w H s₁.heap → (∀ b, H b ≠ none → b = a) → (H a ≠ none → K.lookup a = none) →
      codeAny (model P w) callerA (.call (.ref fa) ⟨[.ref a], []⟩) (fun r s' => r = .ok (.ret (.bool true)) ∧ OldK s₁.heap s'.heap ∧ s'.os = s₁.os ∧ AllBare s'.gens) s₁ := by
    intro H hO hS hok hA hK
    have base_of : ∀ {b : Addr} {o : Obj}, s₁.heap.get? b = some o → H b = none → (hidT s₁.heap H).get? b = some o := fun e n => hidT_get e n
    have noA : ∀ {b : Addr} {o : Obj} {es : Array DictEntry} {ep : Nat}, s₁.heap.get? b = some o → o.data = .dict es ep → H b = none := fun {b o es ep} e d => by
      cases q : H b with
      | none => rfl
      | some u =>
        have e' : b = a := hA b (by rw [q]; simp)
        subst e'
        rw [ha] at e; cases e
        have d' : Data.seq vs.toArray _ = Data.dict es ep := d
        cases d'
    have nsK : ∀ {b : Addr} {m : Str → Option Value}, s₁.heap.Ns b m → (hidT s₁.heap H).Ns b m := fun {b m} ⟨o, es, ep, e, d, r⟩ => ⟨o, es, ep, base_of e (noA e d), d, r⟩
    have hKb : K.In (hidT s₁.heap H) := fun b o e => base_of (KX b o e) (by
      cases q : H b with
      | none => rfl
      | some u =>
        have e' : b = a := hA b (by rw [q]; simp)
        subst e'
        rw [hK (by rw [q]; simp)] at e; cases e)
    have hM : Mod K mg (hidT s₁.heap H) := ⟨hKb, nsK hns, ⟨mb, nsK hb, hbb⟩, let ⟨mc, h1, h2⟩ := hlim; ⟨mc, nsK h1, h2⟩⟩
    have e0 : Env0 P w K mg (hidT s₁.heap H) callerA [] s₁ H := ⟨rfl, hM, fun b o e => of_hidT e, Nat.le_of_eq (hidT_size _ _), trivial, fun b hb => absurd (show b ∈ ([] : List Addr) from hb) (by simp), hok, .of_eq hg⟩
    refine codeAny_mono ((F _ hKb (nsK hns)).run callerA [] s₁ H ⟨[.ref a], []⟩ [.ref a] [.ref a] _ _ hr rfl e0 (hbind s₁ (.ref a)) (.cons rfl .nil) (hsp H hO hS)) fun r s' h => ?_
    cases r with
    | error e => exact (hCX H e s' h).elim
    | ok fl =>
      cases fl with
      | next => exact False.elim h
      | brk => exact False.elim h
      | cont => exact False.elim h
      | ret u =>
        obtain ⟨v, H', os, bare, un, hok', r', q⟩ := h
        have q' : v = .bl true := q
        subst q'
        obtain rfl : u = Value.bool true := r'
        refine ⟨rfl, OldK.of_keep fun b o e => ?_, os, bare⟩
        cases q : H b with
        | none => exact un.keep b o e q (by intro z; exact absurd (show b ∈ ([] : List Addr) from z) (by simp)) (by simp)
        | some u =>
          rcases hO b with z | ⟨ob, xs, z⟩
          · rw [q] at z; cases z
          · have z2 := un.frzs b ob _ z
            obtain ⟨e1, _⟩ := hok b _ z
            obtain ⟨e2, _⟩ := hok' b _ z2
            rw [e] at e1; cases e1
            exact e2
  cases hk : K.lookup a with
  | some o =>
    -- the script is one of the module's own objects
    have e := KX a o hk
    rw [ha] at e
    cases e
    refine core (fun _ => none) (fun _ => .inl rfl) (.inr ⟨_, vs.toArray, _, hk, rfl, rfl, rfl, by rw [List.size_toArray, lenV]; exact hl, by simpa using rv⟩) (fun b u z => by have z' : (none : Option HO) = some u := z; cases z') (fun b z => absurd rfl z) fun z => absurd rfl z
  | none =>
    refine core (fun b => if b = a then some (.frz { cls := .type "list", data := .seq vs.toArray } (.lst (ns.map V.int))) else none) (fun b => ?_) (.inl (.inr ⟨{ cls := .type "list", data := .seq vs.toArray }, if_pos rfl⟩)) (fun b u z => ?_) (fun b z => ?_) fun _ => hk
    · by_cases hb : b = a
      · exact .inr ⟨_, _, if_pos hb⟩
      · exact .inl (if_neg hb)
    · by_cases hb : b = a
      · have z' := (if_pos hb).symm.trans z
        cases z'
        subst hb
        exact ⟨ha, by rw [List.length_map]; exact hl, vs, _, rv, ha⟩
      · have z' := (if_neg hb).symm.trans z
        cases z'
    · by_cases hb : b = a
      · exact hb
      · exact absurd (if_neg hb) z
theorem walk_ofG {l : PySem.W.OpenLaw} {n k : Nat} {q : Program} {loose : List Str} {XP : (Str → Option Value) → Heap → Prop} {YP : World → Heap → Prop} {d : DefRec} {K : Params → PySem.W.Frag} {CX : World → CXT} {sp : World → Sp} {x : Str}
    (hn : l.most = some n) (hn2 : n ≤ sizeLine) (hdf : d.params.defaults = []) (hr : Room k callerA)
    (hY : ∀ (w : World) (h : Heap), YP w h → (K w.params).In h)
    (F : ∀ (w : World) (mg : Str → Option Value) (fa : Addr) (h : Heap), (K w.params).In h → h.Ns mainGlobals mg → mg d.name = some (.ref fa) →
      ∃ fd : FuncData, (∀ (s : Shared) (u : Value), BindsTo s fd ⟨[u], []⟩ [(x, u)]) ∧
        ∀ base : Heap, (K w.params).In base → base.Ns mainGlobals mg → FnG l.prog w (K w.params) mg base (CX w) k fa fd [x] (sp w))
    (hsp : ∀ (w : World) (H : Hp) (a : Addr) (ns : List Int), ns.length ≤ n → Only H → SqL (K w.params) H a (ns.map V.int) → sp w [.ref a] H (fun v _ => v = .bl true) fun _ _ _ => False)
    (hCX : ∀ (w : World) (H : Hp) (s : Shared) (e : Value) (s' : Shared), CX w [] H s (fun _ _ _ => False) e s' → False) :
    PySem.W.WalkO q loose XP YP l.row.toRowW d [] (fun f vs => PySem.call f vs) := by
  refine Att.attach_call hn hdf fun w s₀ s₁ mg mb fa o pm cd doc a vs ns G Y ho hd hcd hmg hobj hints hlen hg => ?_
  have KX := hY w _ Y
  obtain ⟨fd, hb, hF⟩ := F w mg fa _ KX G.T.g hmg
  exact law_callG KX G.T.g G.T.b G.T.builtins G.T.nolimit hg hobj hints (Nat.le_trans hlen hn2) hr hF hb (fun H hO hS => hsp w H a ns hlen hO hS) fun H e s' => hCX w H s₁ e s'
end Sw

set_option Elab.async false
set_option linter.all false
set_option maxRecDepth 100000
set_option maxHeartbeats 4000000
namespace Sw
open PySem PySem.Spec PyProof.Rows L2
section
variable {P : Program} {w : World} {K : PySem.W.Frag} {mg : Str → Option Value} {base : Heap} {j k n : Nat} {f : Addr} {fd : FuncData} {ps ks : List Str} {sp : Sp} {spc : SpC}
theorem FnG.of (F : FnOk P w K mg base (L2.CX P w) k f fd ps sp) : FnG P w K mg base (L2.CX P w) k f fd ps sp := ⟨F.len, fun A outer s H args us vs Q E hr _ => F.run A outer s H args us vs Q E hr⟩
theorem okG {x qual : Str} {st : Stmt} {N : List Str} (F : Fun K x qual st f fd) (S : FnScope N ps (defScope st)) (len : ∀ vs H Q E, sp vs H Q E → vs.length = ps.length)
    (hbody : ∀ (cdv : Value) (A : Around) (outer : List Env) (s : Shared) (H : Hp) (vs : List V) (Q : VK) (E : XK), Room k (A.deeper (envOfC qual (defScope st) s.heap.objs.size f cdv)) → A.guards = some [] →
      Takes (cxOf (L2.CX P w) P w K mg base N qual (defScope st) f cdv A outer s H E) (fun cls d _ H => E cls d H) →
      PassesOwn (model P w) (A.deeper (envOfC qual (defScope st) s.heap.objs.size f cdv)) (envOfC qual (defScope st) s.heap.objs.size f cdv) (cxOf (L2.CX P w) P w K mg base N qual (defScope st) f cdv A outer s H E).xe → sp vs H Q E →
      ∃ t, PSs (cxOf (L2.CX P w) P w K mg base N qual (defScope st) f cdv A outer s H E) (defBody st) t ∧ t { nx := fun _ H' => Q .non H', rt := Q } (L2.start N vs) H) : FnG P w K mg base (L2.CX P w) (k + 1) f fd ps sp := by
  obtain ⟨⟨oc, od, kV, doc, pm, an, cdv, ct, osl, rfl, lk, hcd⟩, kp⟩ := F
  exact fnG_of lk hcd S len fun A outer s H vs Q E hr hg h => hbody cdv A outer s H vs Q E hr hg (takes_of rfl rfl rfl rfl) (passes_of (X := cxOf (L2.CX P w) P w K mg base N qual (defScope st) f cdv A outer s H E) rfl) h
/-- a callee by its convention, no repr open -/
def CalG (P : Program) (w : World) (K : PySem.W.Frag) (mg : Str → Option Value) (base : Heap) (k : Nat) (f : Addr) (n : Nat) (ks : List Str) (sp : SpC) : Prop :=
  ∀ (A : Around) (outer : List Env) (s : Shared) (H : Hp) (us ws : List Value) (vs zs : List V) (Q : VK) (E : XK), Room k A → A.guards = some [] → Env0 P w K mg base A outer s H → Vals vs us → Vals zs ws → vs.length = n → zs.length = ks.length → sp vs zs H Q E →
    codeAny (model P w) A (.call (.ref f) ⟨us, ks.zip ws⟩) (CR (L2.CX P w) outer P w H s Q E) s
theorem calG0 (F : FnG P w K mg base (L2.CX P w) k f fd ps sp) (hb : Binds K fd ps []) (hn : n = ps.length) : CalG P w K mg base k f n [] (fun vs _ => sp vs) :=
  fun A outer s H us ws vs zs Q E hr hg e0 r rz l1 l2 h => by
    have e : (⟨us, ([] : List Str).zip ws⟩ : Args) = ⟨us, []⟩ := by rw [List.zip_nil_left]
    rw [e]
    have hl : (us ++ []).length = ps.length := by rw [List.append_nil, ← r.length, l1, hn]
    have hb' := hb s us (e0.mod.kin.keeps fun b o e => (e0.bs b o e).1) hl
    rw [List.append_nil] at hb'
    exact F.run A outer s H ⟨us, []⟩ us vs Q E hr hg e0 hb' r h
structure GFg (P : Program) (w : World) (K : PySem.W.Frag) (mg : Str → Option Value) (base : Heap) (k : Nat) (x : Str) (n : Nat) (ks : List Str) (sp : SpC) : Prop where
  ex : ∃ f, mg x = some (.ref f) ∧ PySem.W.keepIn K (.ref f) = true ∧ CalG P w K mg base k f n ks sp
end
section
variable {X : Cx} {k n : Nat} {f C : Addr} {ks : List Str} {sp : SpC} {W : WX} {x : Str} {p pos : Pos} {e : Expr} {es : List Expr} {kws : List Keyword} {t tk : TA}
theorem run_calG {pins : List (Addr × Obj)} {σ : L2.St} {H : Hp} {s : Shared} {Q : VK} {us ws : List Value} {vs zs : List V} (F : CalG X.prog X.w X.K X.mg X.base k f n ks sp) (hr : Room k X.A) (hg : X.A.guards = some []) (tw : Takes X W) (I : Inv X pins σ H s) (r : Vals vs us) (rz : Vals zs ws)
    (l1 : vs.length = n) (l2 : zs.length = ks.length) (h : sp vs zs H Q (WE W σ)) :
    codeAny (model X.prog X.w) X.A (.call (.ref f) ⟨us, ks.zip ws⟩) (fun r s' => match r with | .ok (.ret v) => EP X pins σ Q v s' | .ok _ => False | .error e => X.xe e s') s := by
  refine codeAny_mono (F X.A X.stack s H us ws vs zs Q (WE W σ) hr hg I.env0 r rz l1 l2 h) fun r s' hq => ?_
  cases r with
  | error e => exact passAt tw σ pins H s e s' I hq
  | ok fl =>
    cases fl with
    | ret u => exact I.after hq
    | next => exact False.elim hq
    | brk => exact False.elim hq
    | cont => exact False.elim hq
theorem pe_callGg (G : GFg X.prog X.w X.K X.mg X.base k x n ks sp) (hr : Room k X.A) (hgd : X.A.guards = some []) (tw : Takes X W) (ha : PA X (e :: es) t) (hkw : PK X kws tk) (hg : Gl X x := by rfl)
    (hall : (backToKw pos (keywordEach kws X.env)).all (·.1.isSome) = true := by rfl) (hks : (backToKw pos (keywordEach kws X.env)).filterMap (·.1) = ks := by rfl) (hdb : (x == ("__debug__" : Str)) = false := by decide)
    (he : starEach (e :: es) X.env = (false, eval e X.env) :: starEach es X.env := by rfl)
    (hpl : ((backTo pos (starEach (e :: es) X.env)).any (·.1) || (backToKw pos (keywordEach kws X.env)).any (·.1.isNone)) = false := by rfl) :
    PE X (.Call (.Name x p) (e :: es) kws pos) (tCalG n ks.length sp W t tk) := by
  refine ⟨fun pins s σ H Q I h => ?_⟩
  obtain ⟨f, hm, hk, F⟩ := G.ex
  refine wpAny_Call_Name_kw (ld_glob I hg hm ?_ hdb)
  refine PySem.W.callWith_KW (h₀ := X.base) I.ok.mod.kin hk hall (thn (ha.run pos pins s σ H _ I h) fun us s1 ⟨vs, H1, I1, r, q⟩ => ?_) hpl he
  refine thn (hkw.run pos pins s1 σ H1 _ I1 q) fun ws s2 ⟨zs, H2, I2, rz, l1, l2, q2⟩ => ⟨I2.kIn, ?_⟩
  rw [hks]
  exact wpAny_call (run_calG F hr hgd tw I2 r rz l1 l2 q2)
end

/-! ### repr -/
mutual
theorem Dp.noDict {K : PySem.W.Frag} {H : Hp} : ∀ (d : PyData) (v : V), Dp K H v d → d.hasDict = false
  | .none, _, _ => rfl
  | .bool _, _, _ => rfl
  | .int _, _, _ => rfl
  | .str _, _, _ => rfl
  | .list ds, _, h => by
    cases h with
    | lst _ q => exact Dp.noDictAll ds _ q
  | .tuple ds, _, h => by
    cases h with
    | tup _ q => exact Dp.noDictAll ds _ q
  | .dict _, _, h => by cases h
theorem Dp.noDictAll {K : PySem.W.Frag} {H : Hp} : ∀ (ds : List PyData) (vs : List V), DpAll K H vs ds → PyData.hasDictAll ds = false
  | [], _, _ => rfl
  | d :: ds, _, h => by
    cases h with
    | cons h1 h2 =>
      show (d.hasDict || PyData.hasDictAll ds) = false
      rw [Dp.noDict d _ h1, Dp.noDictAll ds _ h2]
      rfl
end
def rRepr (K : PySem.W.Frag) : List V → Hp → VK → Prop := fun xs H Q => ∃ v d, xs = [v] ∧ Dp K H v d ∧ d.showable = true ∧ d.depth ≤ 100 ∧ d.shown.length ≤ sizeLine ∧ Q (.str d.shown) H
theorem ka_repr {X : Cx} (K : PySem.W.Frag) (hgd : X.A.guards = some []) (hu : X.A.units + 120 < cLine) (hK : X.K = K := by rfl) : CallR X (.builtin "repr") (rRepr K) := by
  subst hK
  intro pins s σ H xs us Q I r h
  obtain ⟨v, d, rfl, hd, hs, hdp, hl, q⟩ := h
  cases r with
  | cons rx rr =>
    cases rr
    have kept : ∀ h' tk, (∀ b o, s.heap.get? b = some o → h'.get? b = some o) → Inv X pins σ H { s with heap := h', toks := tk } := fun h' tk k => I.kept (t' := tk) k
    have refs : ∀ {a : Addr} {u : Value}, v = .ref a → RelV v u → wpAny (model X.prog X.w) X.A (call (.builtin "repr") [u]) (EP X pins σ Q) X.xe s := fun {a u} ev ru => by
      subst ev
      obtain ⟨as, rd⟩ := Dp.reads I d _ u hd ru
      obtain rfl : u = Value.ref a := ru
      exact repr_of_reads' rd hs (fun z => absurd z (by rw [Dp.noDict d _ hd]; exact Bool.false_ne_true)) hgd (by omega) (fun b o e => e) (fun h' u tk k => ⟨.str d.shown, H, kept h' tk k, ⟨_, rfl⟩, q⟩) hl
    cases hd with
    | non =>
      cases rx
      exact P.repr_of_none ⟨.str _, H, I.kept (t' := s.toks + 1) (fun _ _ e => e), ⟨_, rfl⟩, q⟩
    | bl b =>
      cases rx
      exact P.repr_of_bool ⟨.str _, H, I.kept (t' := s.toks + 1) (fun _ _ e => e), ⟨_, rfl⟩, q⟩
    | int i =>
      obtain ⟨t, rfl⟩ := rx
      exact P.repr_of_int (of_decide_eq_true hs) ⟨.str _, H, I.kept (t' := s.toks + 1) (fun _ _ e => e), ⟨_, rfl⟩, q⟩
    | str x =>
      obtain ⟨t, rfl⟩ := rx
      exact P.repr_of_str ⟨.str _, H, I.kept (t' := s.toks + 1) (fun _ _ e => e), ⟨_, rfl⟩, q⟩ hl
    | lst _ _ => exact refs rfl rx
    | tup _ _ => exact refs rfl rx
end Sw

set_option Elab.async false
set_option linter.all false
set_option maxRecDepth 100000
set_option maxHeartbeats 4000000
namespace Sw
open PySem PySem.Spec PyProof.Rows L2
/-! ### calls with a starred argument and keywords -/
theorem callWith_SK {M : Model} {A : Around} {E : Value → Shared → Prop} {s : Shared} {f : Value} {first : List Value} {pos : Pos} {Q : Value → Shared → Prop} {P : Heap → Prop} {args : List (Bool × Sem Value)} {keywords : List (Option Str × Sem Value)} (hst : (args.any (·.1) || keywords.any (·.1.isNone)) = true)
    (hk : ∀ h, P h → ∃ k, (k = Keeper.frame ∨ k = Keeper.machine ∨ k = Keeper.boundFrame) ∧ PySem.W.Looks M h (keeperOf f) k)
    (h : wpAny M A (evalArgs f true args keywords) (fun a s₁ => P s₁.heap ∧ wpAny M A (call f (first ++ a.pos) a.kw) Q E s₁) E s) : wpAny M A (callWith pos f first args keywords) Q E s := by
  unfold callWith
  refine wpAny_bind (wpAny_holding (wpAny_mono h (fun a s₁ h₁ => wpAny_bind (wpAny_standAt ?_)) fun _ _ x => x))
  obtain ⟨k, hk', L⟩ := hk _ h₁.1
  simp only [hst]
  refine wpAny_bind (L.here ?_)
  have tail : ∀ {t : Sem Value}, wpAny M A t Q E s₁ → wpAny M A (t >>= fun r => holding [r] point >>= fun _ => pure r) Q E s₁ :=
    fun ht => wpAny_bind (wpAny_mono ht (fun r s₂ hr => wpAny_bind (wpAny_holding (wpAny_point (wpAny_pure hr)))) fun _ _ x => x)
  have marked (mk : Value) : wpAny M A (callMarked mk f (first ++ a.pos) a.kw) Q E s₁ := by unfold callMarked; exact Calls.wpAny_keep h₁.2
  rcases hk' with rfl | rfl | rfl <;> dsimp only <;> first | exact tail (marked _) | exact tail (wpAny_operating h₁.2)
/-- a callee of n positional values at least, keywords ks -/
def CalV (P : Program) (w : World) (K : PySem.W.Frag) (mg : Str → Option Value) (base : Heap) (k : Nat) (f : Addr) (n : Nat) (ks : List Str) (sp : SpC) : Prop :=
  ∀ (A : Around) (outer : List Env) (s : Shared) (H : Hp) (us ws : List Value) (vs zs : List V) (Q : VK) (E : XK), Room k A → Env0 P w K mg base A outer s H → Vals vs us → Vals zs ws → n ≤ vs.length → zs.length = ks.length → sp vs zs H Q E →
    codeAny (model P w) A (.call (.ref f) ⟨us, ks.zip ws⟩) (CR (L2.CX P w) outer P w H s Q E) s
structure GMkV (P : Program) (w : World) (K : PySem.W.Frag) (mg : Str → Option Value) (base : Heap) (k : Nat) (x : Str) (C : Addr) (n : Nat) (ks : List Str) (sp : SpC) : Prop where
  at_ : mg x = some (.ref C)
  ex : ∃ f, Mk K C f ∧ CalV P w K mg base k f (n + 1) ks sp
section
variable {X : Cx} {k n : Nat} {f C : Addr} {ks : List Str} {sp : SpC} {W : WX} {x : Str} {p pos : Pos} {e : Expr} {es : List Expr} {kws : List Keyword} {t tk : TA}
theorem run_mkV {pins : List (Addr × Obj)} {σ : L2.St} {H : Hp} {s : Shared} {Q : VK} {us ws : List Value} {vs zs : List V} (M : Mk X.K C f) (F : CalV X.prog X.w X.K X.mg X.base k f (n + 1) ks sp) (hr : Room (k + 1) X.A) (tw : Takes X W)
    (I : Inv X pins σ H s) (r : Vals vs us) (rz : Vals zs ws) (l1 : n ≤ vs.length) (l2 : zs.length = ks.length)
    (h : ∀ x dx, H x = none → H dx = none → dx ≠ x → sp (.ref x :: vs) zs (upd (upd H dx (.own x)) x (.ins C dx [])) (fun v H2 => v = .non ∧ Q (.ref x) H2) (WE W σ)) :
    wpAny (model X.prog X.w) X.A (call (.ref C) us (ks.zip ws)) (EP X pins σ Q) X.xe s := by
  have hq := h (s.heap.objs.size + 1) s.heap.objs.size (I.hok.fresh (Nat.le_succ _)) (I.hok.fresh (Nat.le_refl _)) (Nat.ne_of_lt (Nat.lt_succ_self _))
  have I2 := Inv.made (C := C) I
  have r1 : Vals (V.ref (s.heap.objs.size + 1) :: vs) (Value.ref (s.heap.objs.size + 1) :: us) := .cons rfl r
  have n1 : n + 1 ≤ (V.ref (s.heap.objs.size + 1) :: vs).length := by
    rw [List.length_cons]
    omega
  refine wpAny_call (make_map (f := f) I.kIn M.makes M.init (beq_iff_eq.mp M.fn) (codeAny_mono (F _ X.stack _ _ (Value.ref (s.heap.objs.size + 1) :: us) ws _ _ _ (WE W σ) (hr.make C us (ks.zip ws))
    (I2.env0.make C us (ks.zip ws)) r1 rz n1 l2 hq) fun r s' hq' => ?_))
  cases r with
  | error e => exact passAt tw σ pins _ _ e s' I2 hq'
  | ok fl =>
    cases fl with
    | ret u =>
      obtain ⟨v, H', I3, rv, ev, q3⟩ := I2.after hq'
      subst ev
      exact ⟨rv, ⟨V.ref (s.heap.objs.size + 1), H', I3, rfl, q3⟩⟩
    | next => exact False.elim hq'
    | brk => exact False.elim hq'
    | cont => exact False.elim hq'
/-- C(e, *y, .., k = v) -/
def tMkV (C : Addr) (n m : Nat) (sp : SpC) (W : WX) (t tk : TA) : TE := fun σ H Q => t σ H fun vs H1 => tk σ H1 fun zs H2 => n ≤ vs.length ∧ zs.length = m ∧ ∀ x dx, H2 x = none → H2 dx = none → dx ≠ x →
  sp (.ref x :: vs) zs (upd (upd H2 dx (.own x)) x (.ins C dx [])) (fun v H3 => v = .non ∧ Q (.ref x) H3) (WE W σ)
theorem pe_makeV (G : GMkV X.prog X.w X.K X.mg X.base k x C n ks sp) (hr : Room (k + 1) X.A) (tw : Takes X W) (ha : PA X (e :: es) t) (hkw : PK X kws tk) (hg : Gl X x := by rfl)
    (hall : (backToKw pos (keywordEach kws X.env)).all (·.1.isSome) = true := by rfl) (hks : (backToKw pos (keywordEach kws X.env)).filterMap (·.1) = ks := by rfl) (hdb : (x == ("__debug__" : Str)) = false := by decide)
    (he : starEach (e :: es) X.env = (false, eval e X.env) :: starEach es X.env := by rfl) (hpl : ((backTo pos (starEach (e :: es) X.env)).any (·.1) || (backToKw pos (keywordEach kws X.env)).any (·.1.isNone)) = true := by rfl) :
    PE X (.Call (.Name x p) (e :: es) kws pos) (tMkV C n ks.length sp W t tk) := by
  refine ⟨fun pins s σ H Q I h => ?_⟩
  obtain ⟨f, M, F⟩ := G.ex
  refine wpAny_Call_Name_kw (ld_glob I hg G.at_ ?_ hdb)
  refine callWith_SK (first := []) hpl (PySem.W.keeps_K M.kp) (PyProof.Rows.evalArgs_kw2 hall (thn (ha.run pos pins s σ H _ I h) fun us s1 ⟨vs, H1, I1, r, q⟩ => ?_) he)
  refine thn (hkw.run pos pins s1 σ H1 _ I1 q) fun ws s2 ⟨zs, H2, I2, rz, l1, l2, q2⟩ => ⟨I2.kIn, ?_⟩
  rw [hks]
  exact run_mkV M F hr tw I2 r rz l1 l2 q2
/-- C(*y) -/
def tMkV1 (K : PySem.W.Frag) (C : Addr) (n : Nat) (sp : SpC) (W : WX) (te : TE) : TE := fun σ H Q => te σ H fun y H1 => ∃ a xs, y = V.ref a ∧ (SqT K H1 a xs ∨ SqL K H1 a xs) ∧ n ≤ xs.length ∧ ∀ x dx, H1 x = none → H1 dx = none → dx ≠ x →
  sp (.ref x :: xs) [] (upd (upd H1 dx (.own x)) x (.ins C dx [])) (fun v H3 => v = .non ∧ Q (.ref x) H3) (WE W σ)
theorem pe_makeV1 {te : TE} {sp_ : Pos} (G : GMkV X.prog X.w X.K X.mg X.base k x C n [] sp) (hr : Room (k + 1) X.A) (tw : Takes X W) (he : PE X e te) (hg : Gl X x := by rfl) (hdb : (x == ("__debug__" : Str)) = false := by decide)
    (hst : starEach [.Starred e sp_] X.env = [(true, eval e X.env)] := by rfl) : PE X (.Call (.Name x p) [.Starred e sp_] [] pos) (tMkV1 X.K C n sp W te) := by
  refine ⟨fun pins s σ H Q I h => ?_⟩
  obtain ⟨f, M, F⟩ := G.ex
  refine wpAny_Call_Name_kw (ld_glob I hg G.at_ ?_ hdb)
  refine PySem.W.callWith_S (h₀ := X.base) I.ok.mod.kin M.kp (thn (he.run pins s σ H _ I h) fun v s1 ⟨y, H1, I1, ry, a, xs, ey, hxs, l1, q⟩ => ?_) hst
  subst ey
  obtain rfl : v = Value.ref a := ry
  refine StX.star_any I1 hxs fun us s2 I2 rv => ⟨I2.kIn, ?_⟩
  have z := run_mkV (ks := []) (ws := []) (zs := []) M F hr tw I2 rv .nil l1 rfl q
  rw [List.zip_nil_left] at z
  exact z
end
/-! ### defs with a star parameter (and keyword-only ones, all given) -/
section
variable {P : Program} {w : World} {K : PySem.W.Frag} {mg : Str → Option Value} {base : Heap} {k n : Nat} {f : Addr} {name qual : Str} {params : Arguments} {body : List Stmt} {scope : Scope} {dV kV doc pm cdv ct oc : Value} {an od : Option Addr} {osl : Array (Option Value)} {N ps ks : List Str} {sp : Sp}
/-- what it binds: the positional ones, the tuple of the rest, the keyword-only ones, in the order g -/
theorem fn_starK (g : {α : Type} → List α → α → List α → List α) (grel : ∀ {ws : List V} {us : List Value} {t : V} {u : Value} {zs : List V} {vs : List Value}, Vals ws us → RelV t u → Vals zs vs → Vals (g ws t zs) (g us u vs)) (glen : ∀ {ws : List V} {t : V} {zs : List V}, ws.length = n → zs.length = ks.length → (g ws t zs).length = ps.length)
    (lk : K.lookup f = some ⟨oc, od, .func (PySem.W.fnOf name qual params body scope dV kV doc pm an cdv ct), osl⟩) (hcd : PySem.W.codeIn K cdv qual = true) (S : FnScope N ps scope)
    (hb : ∀ us rest ws : List Value, us.length = n → ws.length = ks.length → bindArgs (PySem.W.fnOf name qual params body scope dV kV doc pm an cdv ct) ⟨us ++ rest, ks.zip ws⟩ = (newTuple rest >>= fun t => pure (ps.zip (g us t ws))))
    (hbody : ∀ (A : Around) (outer : List Env) (s : Shared) (H : Hp) (vs : List V) (Q : VK) (E : XK), Room k (A.deeper (envOfC qual scope s.heap.objs.size f cdv)) →
      Takes (cxOf (L2.CX P w) P w K mg base N qual scope f cdv A outer s H E) (fun cls d _ H => E cls d H) →
      PassesOwn (model P w) (A.deeper (envOfC qual scope s.heap.objs.size f cdv)) (envOfC qual scope s.heap.objs.size f cdv) (cxOf (L2.CX P w) P w K mg base N qual scope f cdv A outer s H E).xe → sp vs H Q E →
      ∃ t, PSs (cxOf (L2.CX P w) P w K mg base N qual scope f cdv A outer s H E) body t ∧ t { nx := fun _ H' => Q .non H', rt := Q } (L2.start N vs) H) :
    CalV P w K mg base (k + 1) f n ks (fun vs zs H Q E => ∃ ws rest, vs = ws ++ rest ∧ ws.length = n ∧ rest.length ≤ sizeLine ∧ ∀ p, H p = none → sp (g ws (V.ref p) zs) (upd H p (.tup rest)) Q E) := by
  intro A outer s H us ws0 vs zs Q E hr e0 r rz _ l2 hsp
  obtain ⟨ws, rest, ev, hl, hz, hq⟩ := hsp
  subst ev
  obtain ⟨u1, u2, eu, r1, r2⟩ := StX.vals_split r
  subst eu
  have hn : H s.heap.objs.size = Option.none := e0.hok.fresh (Nat.le_refl _)
  have hl1 : u1.length = n := by rw [← r1.length]; exact hl
  have hl2 : u2.length ≤ sizeLine := by rw [← r2.length]; exact hz
  refine StX.run_bnd lk hcd S hr e0 (G := fun xs H2 => ∃ p, H p = Option.none ∧ xs = g ws (V.ref p) zs ∧ H2 = upd H p (.tup rest)) (fun A' Ex Q' h => ?_) fun s2 H2 xs ⟨p, hp, ex, eH⟩ hr' => ?_
  · rw [hb u1 u2 ws0 hl1 (rz.length.symm.trans l2)]
    refine wpAny_bind (wpAny_newTuple (wpAny_pure ?_) hl2)
    have new : ObjOk P w (upd H s.heap.objs.size (.tup rest)) (s.heap.push ({ cls := .type "tuple", data := .seq u2.toArray } : Obj)) s.heap.objs.size (.tup rest) := ⟨hz, u2, r2, ⟨_, Heap.get?_push_size _ rfl, rfl, _, rfl⟩⟩
    have un := StX.un_laid (fs := frs outer) (s := s) (o := ({ cls := .type "tuple", data := .seq u2.toArray } : Obj)) (u := .tup rest) hn
    exact h _ _ (g ws (V.ref s.heap.objs.size) zs) (g u1 (Value.ref s.heap.objs.size) ws0) (StX.env0_laid e0 new) un rfl (fun e s' => StX.cxUp outer s H _ _ E e s' un (fun b o q => Heap.get?_push_of_some _ q) rfl) (grel r1 rfl rz) (glen hl l2) ⟨_, hn, rfl, rfl⟩
  · subst ex eH
    exact hbody A outer s2 _ _ Q E hr' (takes_of rfl rfl rfl rfl) (passes_of (X := cxOf (L2.CX P w) P w K mg base N qual scope f cdv A outer s2 (upd H p (.tup rest)) E) rfl) (hq p hp)
end
end Sw

set_option Elab.async false
set_option linter.all false
set_option maxRecDepth 100000
set_option maxHeartbeats 4000000
namespace Sw
open PySem PySem.Spec PyProof.Rows L2
/-! ### list(d.values()) -/
def tLVals (td : TE) : TE := fun σ H Q => td σ H fun x H1 => ∃ d kvs, x = .ref d ∧ H1 d = some (.dK kvs) ∧ NewO (.lst (kvs.map (·.2))) H1 Q
section
variable {X : Cx} {o : Expr} {td : TE} {p pos apos cpos : Pos}
theorem pe_listVals (hc : X.calm = true) (hg : Gl X "list") (hm : X.mg "list" = none) (hv : bootBuiltins "list" = some (.type "list")) (hd : PE X o td) (hbase : attributeBase o "values" X.env (eval o X.env) = eval o X.env := by rfl) (hline : (apos.endLine == cpos.line) = true := by rfl)
    (he : starEach [.Call (.Attribute o "values" apos) [] [] cpos] X.env = (false, eval (.Call (.Attribute o "values" apos) [] [] cpos) X.env) :: starEach [] X.env := by rfl) (hpl : (backTo pos (starEach [] X.env)).any (·.1) = false := by rfl) :
    PE X (.Call (.Name "list" p) [.Call (.Attribute o "values" apos) [] [] cpos] [] pos) (tLVals td) := by
  refine ⟨fun pins s σ H Q I h => ?_⟩
  refine wpAny_Call_Name_kw (ld_blt I hg hm hv ?_ (by decide) (by decide))
  refine PyProof.Rows.callWith_type1 (args_cons ?_ he) he hpl
  refine wpAny_Call_method (T := "dict") (id := "dict.values") hbase rfl hline F.plainAttrs_dict F.slot_dict_values F.type_dict_values (thn (hd.run pins s σ H _ I h) fun u s1 ⟨x, H1, I1, rx, d, kvs, ex, ea, q⟩ => ?_)
  subst ex
  obtain rfl : u = Value.ref d := rx
  have hx : ObjOk X.prog X.w H1 s1.heap d (.dK kvs) := I1.hok d _ ea
  obtain ⟨hz, hs, vs, kv, hD⟩ := hx
  have hl : kvs.length = vs.length := Paired.length kv
  refine ⟨hD.typeIs, hD.mapOf.noDict, ?_⟩
  have I2 : Inv X pins σ H1 { s1 with heap := s1.heap.push { cls := .type "dict_values", data := .fields #[.ref d] } } := I1.kept (t' := s1.toks) fun b ob q => Heap.get?_push_of_some _ q
  have hD2 : (s1.heap.push { cls := .type "dict_values", data := .fields #[.ref d] }).DictOf (mixKind X.prog X.w) d vs := by
    have hx2 : ObjOk X.prog X.w H1 (s1.heap.push { cls := .type "dict_values", data := .fields #[.ref d] }) d (.dK kvs) := I2.hok d _ ea
    have hx1 : ObjOk X.prog X.w H1 s1.heap d (.dK kvs) := I1.hok d _ ea
    obtain ⟨od, es, ep, e1, e2⟩ := hD
    exact ⟨od, es, ep, Heap.get?_push_of_some _ e1, e2⟩
  have rvals : Vals (kvs.map (·.2)) (vs.map (·.2)) := by
    clear h q hD hD2 hl I2 I1 hz hs ea
    induction kv with
    | nil => exact .nil
    | cons r _ ih => exact .cons r.2 ih
  have fin : wpAny (model X.prog X.w) X.A (spliced (backTo pos (starEach [] X.env))) (fun us s2 => wpAny (model X.prog X.w) X.A (call (.type "list") (Value.ref s1.heap.objs.size :: us)) (EP X pins σ Q) X.xe s2) X.xe { s1 with heap := s1.heap.push { cls := .type "dict_values", data := .fields #[.ref d] } } := by
    refine args_nil ?_
    obtain ⟨ep, hat⟩ := hD2.dictAt
    refine PySem.W.kdl_call (PySem.W.kdl_values (knd := mixKind X.prog X.w) (kvs := vs) (ep := ep)) (I.ok.hd hc) ⟨⟨_, Heap.get?_push_size _ rfl, rfl, rfl⟩, hat⟩ (by rw [← hl]; exact hz) fun h' tk acc c' kp hB hacc => ?_
    have eacc : acc.toList = vs.map (·.2) := PySem.W.kdl_vals_eq acc.toList (by rw [Array.length_toList]; exact hacc.1) fun j v e => hacc.2 j v (by rw [← Array.getElem?_toList]; exact e)
    have hn : H1 (s1.heap.objs.size + 1) = none := I1.hok.fresh (Nat.le_succ _)
    have sz : (s1.heap.push ({ cls := .type "dict_values", data := .fields #[.ref d] } : Obj)).objs.size = s1.heap.objs.size + 1 := Heap.size_push _ _
    have I3 : Inv X pins σ (upd H1 (s1.heap.objs.size + 1) (.lst (kvs.map (·.2)))) { s1 with heap := h', toks := tk } := by
      refine I1.laid (t' := tk) (fun b ob e => kp b ob (Heap.get?_push_of_some _ e)) (Nat.le_succ _) ⟨by rw [List.length_map]; exact hz, vs.map (·.2), c', rvals, ?_⟩
      show h'.get? (s1.heap.objs.size + 1) = _
      rw [← eacc, Array.toArray_toList]
      have := hB
      rw [sz] at this
      exact this
    show EP X pins σ Q (.ref (s1.heap.push ({ cls := .type "dict_values", data := .fields #[.ref d] } : Obj)).objs.size) _
    rw [sz]
    exact ⟨.ref (s1.heap.objs.size + 1), _, I3, rfl, q _ hn⟩
  show wpAny _ _ (callWith cpos (.builtin "dict.values") [.ref d] [] []) _ X.xe s1
  exact method_meetsIn F.slot_dict_values F.entry_dict_values rfl (PySem.evalArgs_none ⟨rfl, hD.typeIs, F.args_dict_values_1 _, _, meets_dict_values (mixKind X.prog X.w) d hs, ⟨vs, hD⟩, fin⟩)
end

/-! ### dicts by text: in, not in, == {} -/
def rInDk : R2 := fun x y H Q => ∃ a o, y = .ref a ∧ DGet H a x o ∧ Q (.bl o.isSome) H
def rNiDk : R2 := fun x y H Q => ∃ a o, y = .ref a ∧ DGet H a x o ∧ Q (.bl (!o.isSome)) H
def rEqDE : R2 := fun x y H Q => ∃ a b kvs, x = .ref a ∧ y = .ref b ∧ H a = some (.dK kvs) ∧ H b = some (.dK []) ∧ Q (.bl kvs.isEmpty) H
section
variable {X : Cx}
theorem op_inDk (hu : X.A.units + 1 < cLine) : OpR X (compareOp .In) rInDk := by
  intro pins s σ H x y v u Q I rx ry h
  obtain ⟨a, o, rfl, g, q⟩ := h
  obtain rfl : u = Value.ref a := ry
  exact d_in hu I g rx fun s3 I3 => ⟨.bl o.isSome, H, I3, rfl, q⟩
theorem op_niDk (hu : X.A.units + 1 < cLine) : OpR X (compareOp .NotIn) rNiDk := by
  intro pins s σ H x y v u Q I rx ry h
  obtain ⟨a, o, rfl, g, q⟩ := h
  obtain rfl : u = Value.ref a := ry
  exact d_notIn hu I g rx fun s3 I3 => ⟨.bl (!o.isSome), H, I3, rfl, q⟩
theorem op_eqDE (hu : X.A.units < cLine) : OpR X (compareOp .Eq) rEqDE := by
  intro pins s σ H x y v u Q I rx ry h
  obtain ⟨a, b, kvs, rfl, rfl, ea, eb, q⟩ := h
  obtain rfl : v = Value.ref a := rx
  obtain rfl : u = Value.ref b := ry
  obtain ⟨_, ya, va, ra, da⟩ := (show ObjOk X.prog X.w H s.heap a (.dK kvs) from I.hok a _ ea)
  obtain ⟨_, yb, vb, rb, db⟩ := (show ObjOk X.prog X.w H s.heap b (.dK []) from I.hok b _ eb)
  cases rb
  refine PySem.W.keq_eq (knd := mixKind X.prog X.w) (r := true) ya yb da db hu (fun e => ?_) (fin_bl I q ?_)
  · rw [List.length_eq_zero_iff.mp e]
    exact .nil
  · have hl := Paired.length ra
    cases kvs with
    | nil =>
      cases ra
      rfl
    | cons p r =>
      cases ra
      rfl
end
/-! ### their steps -/
section
variable {G H : Hp} {R : Res} {Q : VK} {a b : Addr} {kvs : List (Key × V)} {z : Str} {σ : L2.St} {td ty : TE}
theorem g_inDk (w : Wd G R H) (h : G a = some (.dK kvs)) (k : Q (.bl (valV kvs (.inr z)).isSome) H) : rInDk (.str z) (.ref a) H Q := ⟨a, _, rfl, DGet.k (k := .inr z) (w.get h), k⟩
theorem g_niDk (w : Wd G R H) (h : G a = some (.dK kvs)) (k : Q (.bl (!(valV kvs (.inr z)).isSome)) H) : rNiDk (.str z) (.ref a) H Q := ⟨a, _, rfl, DGet.k (k := .inr z) (w.get h), k⟩
theorem g_eqDE (w : Wd G R H) (h : G a = some (.dK kvs)) (h2 : G b = some (.dK [])) (k : Q (.bl kvs.isEmpty) H) : rEqDE (.ref a) (.ref b) H Q := ⟨a, b, kvs, rfl, rfl, w.get h, w.get h2, k⟩
theorem g_dget (k : td σ H fun x H1 => ty σ H1 fun y H2 => ∃ a v, x = .ref a ∧ DGet H2 a y (some v) ∧ Q v H2) : tDGet td ty σ H Q := k
theorem g_dgetE {P : V → Prop} {v : V} (w : Wd G R H) (h : G a = some (.dK kvs)) (hv : valV kvs (.inr z) = some v) (k : P v) : ∃ a' v', V.ref a = .ref a' ∧ DGet H a' (.str z) (some v') ∧ P v' := ⟨a, v, rfl, by rw [← hv]; exact DGet.k (k := .inr z) (w.get h), k⟩
theorem g_lvals (k : td σ H fun x H1 => ∃ d kvs, x = .ref d ∧ H1 d = some (.dK kvs) ∧ NewO (.lst (kvs.map (·.2))) H1 Q) : tLVals td σ H Q := k
end
end Sw

set_option Elab.async false
set_option linter.all false
set_option maxRecDepth 100000
set_option maxHeartbeats 4000000
namespace PySem.HandSPX
namespace KW
open PySem PySem.Spec PySem.Calls PyProof.Rows
section
variable {prog : Program} {w : World} {M : Model} {A : Around} {E : Value → Shared → Prop} {R : Result → Shared → Prop} {h : Heap} {g : Array GenState} {d : Drawn} {t : Nat} {os : OsState}
variable {nm q : Str} {C N : Addr} {bs bm bmB : List Value} {hdct : Bool} {sn : List Str} {sub : List Value} {ab : Bool} {col : Option Bool} {dd : Option Addr} {k0 k1 k2 k3 k5 : Option Value} {B newId initId : String}
theorem check_new_own (F : ExcBaseFacts B newId initId bmB) (hT : ∀ X : String, bm.contains (.type X) = bmB.contains (.type X)) {rest : List Value} {kw : List (Str × Value)} {Q : Unit → Shared → Prop}
    (hC : h.get? C = some (excClassObj nm q C N bs bm hdct sn sub ab col dd k0 k1 k2 k3 k5 newId)) (hq : Q () ⟨h, g, d, t, os⟩) : wpAny M A (checkBuiltinCall newId ⟨.ref C :: rest, kw⟩) Q E ⟨h, g, d, t, os⟩ := by
  have hcont : (Value.ref C :: bm).contains (.type B) = true := by rw [List.contains_cons, hT, F.hasB, Bool.or_true]
  have hstar := F.noStar
  simp only [checkBuiltinCall, F.newKind, F.newSplit, F.newRow]
  repeat (first | refine wpAny_loadPart_at hC ?_ | (refine wpAny_isSubtype_exc hC ?_; rw [hcont]) | refine wpAny_staticBase_exc hC ?_ | refine wpAny_madeBy_exc hC ?_ | simp only [bne_self_eq_false, Bool.false_eq_true, if_false] | wp_step)
  exact hq
theorem new_own (F : ExcBaseFacts B newId initId bmB) (hT : ∀ X : String, bm.contains (.type X) = bmB.contains (.type X)) {rest : List Value} {kw : List (Str × Value)}
    (hC : h.get? C = some (excClassObj nm q C N bs bm hdct sn sub ab col dd k0 k1 k2 k3 k5 newId))
    (hq : R (.ok (.ret (.ref (h.objs.size + 1)))) ⟨(h.push { cls := .type "tuple", data := .seq rest.toArray }).push
      { cls := .ref C, data := .fields #[.ref h.objs.size, .none, .none, .none, .bool false, .none] }, g, d, t, os⟩) (hrest : rest.length ≤ sizeLine) :
    codeAny (model prog w) A (.builtin newId ⟨.ref C :: rest, kw⟩) R ⟨h, g, d, t, os⟩ := by
  have hends := F.ends
  have hcB : (Value.ref C :: bm).contains (.type B) = true := by rw [List.contains_cons, hT, F.hasB, Bool.or_true]
  have hcA : (Value.ref C :: bm).contains (.type "AttributeError") = false := by rw [List.contains_cons, hT, F.noAttr]; rfl
  have hcN : (Value.ref C :: bm).contains (.type "NameError") = false := by rw [List.contains_cons, hT, F.noName]; rfl
  refine codeAny_builtinAt F.entry ?_
  unfold Builtin.«BaseException.__new__»
  refine wpAt_bind ?_
  show wpAt _ _ _ (stack >>= _) _ _ _
  refine wpAt_bind (wpAt_stack fun p below => wpAt_of_wpAny ?_)
  wp_walk
  refine wpAt_of_wpAny ?_
  rw [F.owner]
  repeat (first | with_reducible refine wpAny_madeHere_exc F.canon hC ?_ | with_reducible refine wpAny_loadPart_at hC ?_ | (with_reducible refine wpAny_isSubtype_exc hC ?_; first | rw [hcB] | rw [hcA] | rw [hcN]) | wp_step)
  show R _ _
  rw [Heap.size_push]
  exact hq

theorem type_call_own (F : ExcBaseFacts B newId initId bmB) (hT : ∀ X : String, bm.contains (.type X) = bmB.contains (.type X)) {rest : List Value} {kw : List (Str × Value)} {fI : Addr} {Q : Fin → Shared → Prop}
    (hC : h.get? C = some (excClassObj nm q C N bs bm hdct sn sub ab col dd k0 k1 k2 k3 k5 newId))
    (hi : W.Looks (model prog w) h (typeLookup (.ref C) "__init__") (some (.ref fI))) (hb : ∀ self, W.Looks (model prog w) h (bindSpecial (.ref fI) self) (.ref fI, [self])) (hrest : rest.length ≤ sizeLine)
    (hq : codeAny (model prog w) A (.call (.ref fI) ⟨.ref (h.objs.size + 1) :: rest, kw⟩)
      (fun r s' => match r with | .ok (.ret v) => v = .none ∧ Q (.done (.ret (.ref (h.objs.size + 1)))) s' | .ok _ => False | .error e => E e s')
      ⟨(h.push (W.kdv_tup rest)).push (excO C h.objs.size), g, d, t, os⟩) :
    wpAny (model prog w) A (Builtin.«type.__call__» ⟨.ref C :: rest, kw⟩) Q E ⟨h, g, d, t, os⟩ := by
  repeat (first | with_reducible refine wpAny_loadPart_at hC ?_ | with_reducible refine wpAny_madeBy_exc hC ?_ | wp_step)
  refine codeAny_call_builtin_code (Code.quiet_builtin _ F.quiet) (check_new_own F hT hC ?_)
  refine new_own F hT hC ?_ hrest
  show wpAny _ _ _ _ _ _
  have k : ∀ b o, h.get? b = some o → ((h.push (W.kdv_tup rest)).push (excO C h.objs.size)).get? b = some o := fun b o e => Heap.get?_push_of_some _ (Heap.get?_push_of_some _ e)
  have hC₁ := k _ _ hC
  have hget : ((h.push (W.kdv_tup rest)).push (excO C h.objs.size)).get? (h.objs.size + 1) = some (excO C h.objs.size) := by heap_get
  have hcC : (Value.ref C :: bm).contains (.ref C) = true := by simp
  have i1 := hi.keeps k
  have b1 := (hb (.ref (h.objs.size + 1))).keeps k
  unfold isInstance
  repeat (first | with_reducible refine wpAny_loadPart_at hget ?_ | (with_reducible refine wpAny_isSubtype_exc hC₁ ?_; rw [hcC]) | wp_step)
  show wpAny _ _ (typeLookup (.ref C) _) _ _ _
  refine i1.at ?_
  refine wpAny_holding (wpAny_bind (b1.at ?_))
  refine wpAny_bind (wpAny_call (codeAny_mono hq fun r s' z => ?_))
  rcases r with e | (v | _ | _ | _) <;> first | exact z | exact z.elim | skip
  obtain ⟨rfl, z⟩ := z
  first
    | exact wpAny_pure (wpAny_pure z)
    | (wp_walk; exact z)

theorem call_own (F : ExcBaseFacts B newId initId bmB) (hT : ∀ X : String, bm.contains (.type X) = bmB.contains (.type X)) {rest : List Value} {kw : List (Str × Value)} {fI : Addr}
    (hC : h.get? C = some (excClassObj nm q C N bs bm hdct sn sub ab col dd k0 k1 k2 k3 k5 newId))
    (hi : W.Looks (model prog w) h (typeLookup (.ref C) "__init__") (some (.ref fI))) (hb : ∀ self, W.Looks (model prog w) h (bindSpecial (.ref fI) self) (.ref fI, [self])) (hrest : rest.length ≤ sizeLine)
    (hq : codeAny (model prog w) (A.under (.builtin "type.__call__" ⟨.ref C :: rest, kw⟩)) (.call (.ref fI) ⟨.ref (h.objs.size + 1) :: rest, kw⟩) (W.InitBack (h.objs.size + 1) R)
      ⟨(h.push (W.kdv_tup rest)).push (excO C h.objs.size), g, d, t, os⟩) :
    codeAny (model prog w) A (.call (.ref C) ⟨rest, kw⟩) R ⟨h, g, d, t, os⟩ := by
  have f1 := tc_lookup
  have f2 := tc_bind (.ref C)
  have hTy : (⟨h, g, d, t, os⟩ : Shared).TypeIs (.ref C) "type" := ⟨_, hC, rfl⟩
  refine codeAny_of_tree ?_
  show wpAny _ _ (callAny (.ref C) _) _ _ _
  repeat (any_goals (first | assumption | with_reducible refine wpAny_loadPart_at hC ?_ | wp_step))
  refine ⟨rfl, ?_⟩
  refine codeAny_call_builtin_at (Code.quiet_builtin _ (by decide +kernel)) entry_typeCall (wpAny_check_type_call_sub hC (type_call_own F hT hC hi hb hrest ?_))
  refine codeAny_mono hq fun r s' z => ?_
  rcases r with e | (v | _ | _ | _) <;> exact z

end
end KW
end PySem.HandSPX

set_option Elab.async false
set_option linter.all false
set_option maxRecDepth 100000
set_option maxHeartbeats 4000000
namespace Sw
open PySem PySem.Spec PyProof.Rows L2
/-! ### an exception kept as a value -/
/-- an exception object of the class cls with the dict d stands at a (raised or not) -/
def exv (a : Addr) (cls : Value) (d : Option Addr) : HO := .ext fun h => ∃ (oe : Obj) (vs : Array Value), h.get? a = some oe ∧ Zc cls d oe ∧ oe.data = .fields vs
section
variable {X : Cx} {pins : List (Addr × Obj)} {σ : L2.St} {H : Hp} {s : Shared} {a : Addr} {oe : Obj} {cls : Value} {d : Option Addr}
theorem exv_ok {P : Program} {w : World} {h : Heap} (e : h.get? a = some oe) (z : Zc cls d oe) (hf : ∃ vs, oe.data = .fields vs) : ObjOk P w H h a (exv a cls d) := by
  obtain ⟨vs, hd⟩ := hf
  exact ⟨⟨oe, vs, e, z, hd⟩, ⟨_, e⟩, fun h1 h2 ⟨o, us, q1, q2, q3⟩ k => ⟨o, us, k _ q1, q2, q3⟩⟩
theorem exv_at {P : Program} {w : World} {h : Heap} (hok : HOk P w H h) (e : H a = some (exv a cls d)) : ∃ (oe : Obj) (vs : Array Value), h.get? a = some oe ∧ Zc cls d oe ∧ oe.data = .fields vs := by
  have x : ObjOk P w H h a (.ext fun h => ∃ (oe : Obj) (vs : Array Value), h.get? a = some oe ∧ Zc cls d oe ∧ oe.data = .fields vs) := hok a _ e
  exact x.1
/-- what was pinned in the suite stays pinned behind it -/
theorem unsuiteK {q : Addr × Obj} {pn' : List (Addr × Obj)} (I : Inv (X.suite a (q :: (X.pn ++ pins))) pn' σ H s) (ok : X.Ok) : Inv X (q :: pins) σ H s :=
  ⟨ok, I.os, I.bare, I.base, I.loc, I.cell, I.free, I.freeC, fun p hp => by
    refine I.pin p (List.mem_append_left _ ?_)
    rcases List.mem_append.mp hp with h | h
    · exact List.mem_cons_of_mem _ (List.mem_append_left _ h)
    · rcases List.mem_cons.mp h with h | h
      · rw [h]; exact List.mem_cons_self
      · exact List.mem_cons_of_mem _ (List.mem_append_right _ h), I.hok, I.len⟩
/-- an object new since the entry, pinned, is tracked -/
theorem Inv.track (I : Inv X ((a, oe) :: pins) σ H s) (z : Zc cls d oe) (hf : ∃ vs, oe.data = .fields vs) (hS : X.s_0.heap.get? a = none) (hx : X.ex = []) (hp : ∀ p ∈ X.pn ++ pins, p.1 ≠ a) : Inv X pins σ (upd H a (exv a cls d)) s := by
  obtain ⟨ha, na, nL, nF, nc⟩ := I.pin (a, oe) (List.mem_append_right _ List.mem_cons_self)
  refine ⟨I.ok, I.os, I.bare, ⟨I.base.keep, I.base.slot, fun b o e n hx' => ?_, I.base.there, fun b xs e => ?_, fun b o u e => ?_, fun b ps e => ?_⟩, I.loc, I.cell, ?_, fun x c e => ?_, fun p hp' => ?_, HOk.laidN I.hok (fun _ _ q => q) na (exv_ok ha z hf), I.len⟩
  · rw [upd_ne (fun q => by rw [q, hS] at e; cases e)]
    exact I.base.free b o e n hx'
  · have := I.base.tups b xs e
    rw [upd_ne (ne_of_none this na)]
    exact this
  · have := I.base.frzs b o u e
    rw [upd_ne (ne_of_none this na)]
    exact this
  · obtain ⟨more, q⟩ := I.base.tbls b ps e
    exact ⟨more, by rw [upd_ne (ne_of_none q na)]; exact q⟩
  · rw [upd_ne (Ne.symm nL)]
    exact I.free
  · rw [upd_ne (fun q => ?_)]
    · exact I.freeC x c e
    · obtain ⟨v, o, q1, q2⟩ := I.cell x c e
      rw [q, ha] at q1
      cases q1
      exact nc _ q2
  · obtain ⟨p1, p2, p3⟩ := I.pin p (List.mem_append.mpr ((List.mem_append.mp hp').imp id (List.mem_cons_of_mem _)))
    exact ⟨p1, by rw [upd_ne (hp p hp')]; exact p2, p3⟩
end
/-- what the clause 'except x as n' wishes of an exception of the body: slot i is n's, the exception is kept behind the suite -/
def wKeep (K : PySem.W.Frag) (c : Value) (i : Nat) (ts : Addr → Value → Option Addr → TS) (Wout : WX) (D : Ends) : WX := fun cls d σ H =>
  ∃ b, PySem.W.exmOne K cls c = some b ∧ (b = true → ∀ a, H a = none → ts a cls d { nx := fun σ' H' => D.nx (σ'.set i none) (upd H' a (exv a cls d)), rt := D.rt, bk := fun σ' H' => D.bk (σ'.set i none) (upd H' a (exv a cls d)), ct := fun σ' H' => D.ct (σ'.set i none) (upd H' a (exv a cls d)) } (σ.set i (some (.ref a))) H) ∧
    (b = false → Wout cls d σ H)
section
variable {X : Cx} {x n : Str} {c : Value} {i : Nat} {body suite : List Stmt} {b₀ : Stmt} {np pos pos' : Pos} {tb : WX → TS} {ts : Addr → Value → Option Addr → TS} {Wout : WX}
theorem ps_try_keep (hs : X.stack = X.env :: X.outer) (hf : X.env.frame = some X.env.locals) (hN : X.N.Nodup) (hi : X.N[i]? = some n) (hln : X.env.kindOf n = some .local) (hc : Names X x c) (tk : Takes X Wout) (hx0 : X.ex = [])
    (hb : ∀ (W : WX) (pn : List (Addr × Obj)) (xe : Value → Shared → Prop), Takes (X.tr pn xe) W → PassesOwn (model X.prog X.w) X.A X.env xe → PSs (X.tr pn xe) body (tb W))
    (hsu : ∀ (a : Addr) (oe : Obj) (cls : Value) (d : Option Addr) (pn : List (Addr × Obj)), Zc cls d oe → (∃ vs, oe.data = .fields vs) → PSs (X.suite a ((a, oe) :: pn)) (b₀ :: suite) (ts a cls d)) :
    PS X (.Try body [.ExceptHandler (some (.Name x np)) (some n) (b₀ :: suite) pos'] [] [] pos) (fun D σ H => tb (wKeep X.K c i ts Wout D) D σ H) := by
  refine ⟨fun pins s σ H D I h => ?_⟩
  have ok := I.ok
  have hfr : X.A.frames = some (X.env :: X.outer) := by rw [ok.frames, hs]
  have hloc : Loc X.env.scope n := .inl hln
  refine wpAny_Try_except ?_
  refine wpAny_mono ((hb (wKeep X.K c i ts Wout D) (X.pn ++ pins) (fun e s₁ => wpAny (model X.prog X.w) X.A (noteFrame e X.env) (fun _ s₂ => wpAny (model X.prog X.w) X.A (setFlight e none) (fun _ s₃ =>
    wpAny (model X.prog X.w) X.A (handleBy e X.env [.ExceptHandler (some (.Name x np)) (some n) (b₀ :: suite) pos']) (SP X pins D) X.xe s₃) X.xe s₂) X.xe s₁) (fun u s' xx => ?_) PassesOwn.looking).run [] s σ H D (I.toTry _) h) (fun f s1 hsp => ?_) (fun e s1 he => he)
  · -- the catch
    obtain ⟨a, B, sI, pins', σ', H', cls, d, rfl, J', nb, up, sky, na, os, ag, b, hb1, hyes, hno⟩ := xx
    have J : Inv X pins σ' H' sI := J'.ofTry ok
    have sky' : Sky B (X.env :: X.outer) a (Zc cls d) X.env.locals s'.heap := by rw [← hs]; exact sky
    show wpAny (model X.prog X.w) X.A (noteFrame (.ref a) X.env) _ _ _
    refine Sky.land Zc.steady hfr hf sky' fun h3 fl3 up3 => ?_
    have J3 : Inv X pins σ' H' { s' with heap := h3 } := J.landed nb fl3.1 (up.trans up3) os ag
    obtain ⟨oe3, vs3, he3, hz3, hd3⟩ := fl3.there
    have notFr : ∀ {h : Heap} {o : Obj} {vs : Array Value}, h.FunFrames B (X.env :: X.outer) → h.get? a = some o → o.data = .fields vs → a ∉ frs (X.env :: X.outer) := fun {h o vs} ff e dd hm => by
      obtain ⟨_, o', e', hnf⟩ := ff.mem hm
      rw [e] at e'; cases e'
      exact hnf _ dd
    have nfr := notFr fl3.2.2.1 he3 hd3
    have nL : a ≠ X.env.locals := fun z => nfr (List.mem_filterMap.mpr ⟨X.env, List.mem_cons_self, by rw [hf, z]⟩)
    have nF : a ∉ X.fs := fun hm => by
      obtain ⟨e, he, q⟩ := List.mem_filterMap.mp hm
      exact nfr (List.mem_filterMap.mpr ⟨e, List.mem_cons_of_mem _ he, q⟩)
    have nB : B.get? a = none := fl3.2.1
    have nfs : a ∉ frs X.stack := by rw [hs]; exact nfr
    have nI : sI.heap.get? a = none := by
      cases e : sI.heap.get? a with
      | none => rfl
      | some o => exact absurd (nb a o e nfs) (by rw [nB]; exact fun z => nomatch z)
    have nS : X.s_0.heap.get? a = none := by
      cases e : X.s_0.heap.get? a with
      | none => rfl
      | some o =>
        obtain ⟨o', e'⟩ := J.base.there a o e (by rw [hx0]; exact fun z => nomatch z)
        rw [nI] at e'
        cases e'
    have nP : ∀ p ∈ X.pn ++ pins, p.1 ≠ a := fun p hp z => by
      have := (J.pin p hp).1
      rw [z, nI] at this
      cases this
    have S3 := J3.suite he3 hd3 na nL nF
    refine wpAny_handleBy_cons (codeAny_handlers_test ?_) (by intro q; cases q)
    have LT : PySem.W.Looks (model X.prog X.w) h3 (typeOf (.ref a)) cls := fun A Q E s k q => wpAny_typeOf_ref (k _ _ he3) (by rw [hz3.1]; exact q)
    have LM := PySem.W.exm_one (M := model X.prog X.w) (J3.kIn) LT hb1
    have test : ∀ {Q : Value → Shared → Prop} {E : Value → Shared → Prop}, Q c { s' with heap := h3 } → wpAny (model X.prog X.w) (X.A.mark (some (.ref a))) (eval (.Name x np) X.env) Q E { s' with heap := h3 } := fun {Q E} q => by
      obtain ⟨hg, hdbg, hm | ⟨hm, hv, hnn⟩⟩ := hc
      · exact ld_glob (X := X.suite a ((a, oe3) :: (X.pn ++ pins))) S3 hg hm q hdbg
      · exact ld_blt (X := X.suite a ((a, oe3) :: (X.pn ++ pins))) S3 hg hm hv q hnn hdbg
    refine test (LM.here ?_)
    cases b with
    | true =>
      refine codeAny_handlers_suite_as ?_
      refine HandSPX.lands_againZ fl3 fun h4 fl4 up4 => ?_
      have J4 : Inv X pins σ' H' { s' with heap := h4 } := J.landed nb fl4.1 ((up.trans up3).trans up4) os ag
      obtain ⟨oe4, vs4, he4, hz4, hd4⟩ := fl4.there
      have S4 := J4.suite he4 hd4 na nL nF
      refine store_ok (X := X.suite a ((a, oe4) :: (X.pn ++ pins))) (v := .ref a) S4 hN hi hloc rfl (fun s5 S5 => ?_) (.inr hln)
      refine wpAny_mono ((hsu a oe4 cls d (X.pn ++ pins) hz4 ⟨_, hd4⟩).run [] s5 _ H' _ S5 (hyes rfl a na)) (fun f s6 hsp => ?_) (fun _ _ z => False.elim z)
      have end_ : ∀ {σ6 : L2.St} {H6 : Hp} {Q : Shared → Prop}, Inv (X.suite a ((a, oe4) :: (X.pn ++ pins))) [] σ6 H6 s6 → (∀ s7, Inv X pins (σ6.set i none) (upd H6 a (exv a cls d)) s7 → Q s7) →
          wpAny (model X.prog X.w) X.A (do bindName X.env n .none; unbindBehindTheSuite X.env n pos') (fun _ s7 => Q s7) X.xe s6 := fun {σ6 H6 Q} S6 hq => gone_ok (unsuiteK S6 ok) hN hi hln fun s7 J7 => hq s7 (Inv.track J7 hz4 ⟨_, hd4⟩ nS hx0 nP)
      have endR : ∀ {σ6 : L2.St} {H6 : Hp} {Q : Shared → Prop}, Inv (X.suite a ((a, oe4) :: (X.pn ++ pins))) [] σ6 H6 s6 → (∀ s7, Inv X pins (σ6.set i none) H6 s7 → Q s7) →
          wpAny (model X.prog X.w) X.A (do bindName X.env n .none; unbindBehindTheSuite X.env n pos') (fun _ s7 => Q s7) X.xe s6 := fun {σ6 H6 Q} S6 hq => gone_ok (S6.unsuite ok) hN hi hln hq
      cases f with
      | next =>
        obtain ⟨σ6, H6, S6, q6⟩ := hsp
        exact end_ S6 fun s7 J7 => ⟨_, _, J7, q6⟩
      | brk =>
        obtain ⟨σ6, H6, S6, q6⟩ := hsp
        exact end_ S6 fun s7 J7 => ⟨_, _, J7, q6⟩
      | cont =>
        obtain ⟨σ6, H6, S6, q6⟩ := hsp
        exact end_ S6 fun s7 J7 => ⟨_, _, J7, q6⟩
      | ret u =>
        obtain ⟨v6, σ6, H6, S6, r6, q6⟩ := hsp
        exact endR S6 fun s7 J7 => ⟨_, _, _, J7, r6, q6⟩
    | false =>
      show wpAny _ X.A (handleBy (.ref a) X.env []) _ _ _
      refine wpAny_handleBy_nil ?_
      obtain ⟨k1, k2, k3, oe, vs, T, oT, ts', he, hz, hd, h1, hr⟩ := id fl3
      unfold PySem.passOn
      refine wpAny_bind (wpAny_field he hd h1 ?_)
      rw [if_neg (show ¬ ((Value.ref T == Value.none) = true) from by simp)]
      have fin : wpAny (model X.prog X.w) X.A (setFlight (.ref a) X.env.frame) (fun _ s4 => wpAny (model X.prog X.w) X.A (throw (.ref a) : Sem Flow) (SP X pins D) X.xe s4) X.xe { s' with heap := h3 } := by
        rw [hf]
        refine HandSPX.setFlight_upZ fl3 fun h4 hh4 up4 => wpAny_throw (tk _ _ ?_)
        exact ⟨a, B, sI, pins, σ', H', cls, d, rfl, J, nb, (up.trans up3).trans up4, .inr (.inr (by rw [hs]; exact hh4)), na, os, ag, hno rfl⟩
      first
        | exact wpAny_bind (wpAny_pure (wpAny_bind fin))
        | exact wpAny_bind fin
  · cases f with
    | next =>
      obtain ⟨σ', H', J', q⟩ := hsp
      exact wpAny_execs_nil ⟨σ', H', J'.ofTry ok, q⟩
    | brk =>
      obtain ⟨σ', H', J', q⟩ := hsp
      exact ⟨σ', H', J'.ofTry ok, q⟩
    | cont =>
      obtain ⟨σ', H', J', q⟩ := hsp
      exact ⟨σ', H', J'.ofTry ok, q⟩
    | ret u =>
      obtain ⟨v, σ', H', J', r, q⟩ := hsp
      exact ⟨v, σ', H', J'.ofTry ok, r, q⟩
end
end Sw

set_option Elab.async false
set_option linter.all false
set_option maxRecDepth 100000
set_option maxHeartbeats 4000000
namespace Sw
open PySem PySem.Spec PyProof.Rows L2
/-! ### X(e, .., k = v, ..) as a value -/
structure ExcV (P : Program) (w : World) (K : PySem.W.Frag) (mg : Str → Option Value) (base : Heap) (x : Str) (C : Addr) (n : Nat) (ks : List Str) (sp : SpC) : Prop where
  ox : OexC K C
  at_ : mg x = some (.ref C)
  ex : ∃ f, PySem.W.findIn K (.ref C) "__init__" = some (some (.ref f)) ∧ PySem.W.typeIn K (.ref f) = some (.type "function") ∧ Cal P w K mg base 1 f (n + 1) ks sp
def tExcG (C : Addr) (n m : Nat) (sp : SpC) (t tk : TA) : TE := fun σ H Q => t σ H fun vs H1 => tk σ H1 fun zs H2 => vs.length = n ∧ zs.length = m ∧ n ≤ 1000 ∧ ∀ a, H2 a = none →
  sp (.ref a :: vs) zs (upd H2 a (exo a C none)) (fun v H3 => v = .non ∧ Q (.ref a) H3) (fun _ _ _ => False)
section
variable {X : Cx} {n : Nat} {C : Addr} {ks : List Str} {sp : SpC} {x : Str} {p pos : Pos} {e : Expr} {es : List Expr} {kws : List Keyword} {t tk : TA}
theorem run_excG {pins : List (Addr × Obj)} {σ : L2.St} {H : Hp} {s : Shared} {Q : VK} {us ws : List Value} {vs zs : List V} (T : ExcV X.prog X.w X.K X.mg X.base x C n ks sp) (hr : Room 2 X.A) (I : Inv X pins σ H s) (r : Vals vs us) (rz : Vals zs ws) (l1 : vs.length = n) (l2 : zs.length = ks.length) (hn : n ≤ 1000)
    (h : ∀ a, H a = none → sp (.ref a :: vs) zs (upd H a (exo a C none)) (fun v H3 => v = .non ∧ Q (.ref a) H3) (fun _ _ _ => False)) : wpAny (model X.prog X.w) X.A (call (.ref C) us (ks.zip ws)) (EP X pins σ Q) X.xe s := by
  obtain ⟨nm, q, N, bs, bm, sn, sub, ab, col, dd, k0, k1, k2, k3, k5, hC, hbm⟩ := T.ox.cls
  obtain ⟨fI, iC, tI, F1⟩ := T.ex
  obtain ⟨hp, g, dr, tk, os⟩ := s
  have hsz : hp.objs.size ≤ hp.objs.size + 1 := Nat.le_succ _
  have hnn : H (hp.objs.size + 1) = none := I.hok.fresh hsz
  have kk : ∀ b o, hp.get? b = some o → ((hp.push (PySem.W.kdv_tup us)).push (PySem.HandSPX.excO C hp.objs.size)).get? b = some o := fun b o e => Heap.get?_push_of_some _ (Heap.get?_push_of_some _ e)
  have hget : ((hp.push (PySem.W.kdv_tup us)).push (PySem.HandSPX.excO C hp.objs.size)).get? (hp.objs.size + 1) = some (PySem.HandSPX.excO C hp.objs.size) := by heap_get
  have I2 : Inv X pins σ (upd H (hp.objs.size + 1) (exo (hp.objs.size + 1) C none)) ⟨(hp.push (PySem.W.kdv_tup us)).push (PySem.HandSPX.excO C hp.objs.size), g, dr, tk, os⟩ :=
    I.laid (t' := tk) (a := hp.objs.size + 1) (o := exo (hp.objs.size + 1) C none) (h' := (hp.push (PySem.W.kdv_tup us)).push (PySem.HandSPX.excO C hp.objs.size)) kk hsz (exo_ok hget)
  have r2 : Vals (V.ref (hp.objs.size + 1) :: vs) (Value.ref (hp.objs.size + 1) :: us) := .cons rfl r
  have n1 : (V.ref (hp.objs.size + 1) :: vs).length = n + 1 := by rw [List.length_cons, l1]
  have hus : us.length ≤ sizeLine := by
    rw [← Paired.length r, l1, sizeLine_eq]
    omega
  have hq := h (hp.objs.size + 1) hnn
  refine wpAny_call (PySem.HandSPX.KW.call_own F.excBase_ValueError (fun Y => PySem.HandSPX.refsVE_contains Y bm hbm) (I.kIn _ _ hC) (PySem.W.looks_findIn I.kIn iC) (fun self => PySem.W.bind_fn I.kIn self tI) hus
    (codeAny_mono (F1 _ X.stack _ _ (Value.ref (hp.objs.size + 1) :: us) ws _ zs _ (fun _ _ _ => False) ((hr.mono (by decide : 2 ≤ 2)).make C us (ks.zip ws)) (I2.env0.make C us (ks.zip ws)) r2 rz n1 l2 hq) fun r s' hq' => ?_))
  cases r with
  | error er => exact passL (X := X) pins σ _ _ er s' I2 hq'
  | ok fl =>
    cases fl with
    | ret u =>
      obtain ⟨v, H', I3, rv, ev, q3⟩ := I2.after hq'
      subst ev
      exact ⟨rv, ⟨V.ref (hp.objs.size + 1), H', I3, rfl, q3⟩⟩
    | next => exact False.elim hq'
    | brk => exact False.elim hq'
    | cont => exact False.elim hq'
theorem pe_excG (T : ExcV X.prog X.w X.K X.mg X.base x C n ks sp) (hr : Room 2 X.A) (ha : PA X (e :: es) t) (hkw : PK X kws tk) (hg : Gl X x := by rfl)
    (hall : (backToKw pos (keywordEach kws X.env)).all (·.1.isSome) = true := by rfl) (hks : (backToKw pos (keywordEach kws X.env)).filterMap (·.1) = ks := by rfl) (hdb : (x == ("__debug__" : Str)) = false := by decide)
    (he : starEach (e :: es) X.env = (false, eval e X.env) :: starEach es X.env := by rfl) (hpl : ((backTo pos (starEach (e :: es) X.env)).any (·.1) || (backToKw pos (keywordEach kws X.env)).any (·.1.isNone)) = false := by rfl) :
    PE X (.Call (.Name x p) (e :: es) kws pos) (tExcG C n ks.length sp t tk) := by
  refine ⟨fun pins s σ H Q I h => ?_⟩
  refine wpAny_Call_Name_kw (ld_glob I hg T.at_ ?_ hdb)
  refine PySem.W.callWith_KW (h₀ := X.base) I.ok.mod.kin T.ox.kC hall (thn (ha.run pos pins s σ H _ I h) fun us s1 ⟨vs, H1, I1, r, q⟩ => ?_) hpl he
  refine thn (hkw.run pos pins s1 σ H1 _ I1 q) fun ws s2 ⟨zs, H2, I2, rz, l1, l2, hn, q2⟩ => ⟨I2.kIn, ?_⟩
  rw [hks]
  exact run_excG T hr I2 r rz l1 l2 hn q2
theorem pe_excG0 (T : ExcV X.prog X.w X.K X.mg X.base x C n ks sp) (hr : Room 2 X.A) (hkw : PK X kws tk) (hg : Gl X x := by rfl)
    (hall : (backToKw pos (keywordEach kws X.env)).all (·.1.isSome) = true := by rfl) (hks : (backToKw pos (keywordEach kws X.env)).filterMap (·.1) = ks := by rfl) (hdb : (x == ("__debug__" : Str)) = false := by decide)
    (hpl : ((backTo pos (starEach [] X.env)).any (·.1) || (backToKw pos (keywordEach kws X.env)).any (·.1.isNone)) = false := by rfl) :
    PE X (.Call (.Name x p) [] kws pos) (tExcG C n ks.length sp tNil tk) := by
  refine ⟨fun pins s σ H Q I h => ?_⟩
  refine wpAny_Call_Name_kw (ld_glob I hg T.at_ ?_ hdb)
  refine PySem.W.callWith_KW0 (h₀ := X.base) I.ok.mod.kin T.ox.kC hall ?_ hpl
  refine thn (hkw.run pos pins s σ H _ I h) fun ws s2 ⟨zs, H2, I2, rz, l1, l2, hn, q2⟩ => ⟨I2.kIn, ?_⟩
  rw [hks]
  exact run_excG (us := []) (vs := []) T hr I2 .nil rz l1 l2 hn q2
end

/-! ### isinstance(e, c), e.f: e an exception held as a value -/
def ExAt (H : Hp) (a C : Addr) (d : Option Addr) : Prop := H a = some (exo a C d) ∨ H a = some (exv a (.ref C) d)
def DxAt (H : Hp) (d : Addr) (fs : List (Str × V)) : Prop := H d = some (exd d fs) ∨ H d = some (.xd fs)
def rIsV (K : PySem.W.Frag) : List V → Hp → VK → Prop := fun xs H Q => ∃ (a C : Addr) (d : Option Addr) (c : V) (cv : Value) (b : Bool), xs = [.ref a, c] ∧ ExAt H a C d ∧ (∀ dd, d = some dd → ∃ fs, DxAt H dd fs) ∧ ExcC K C ∧ (∀ u, RelV c u → u = cv) ∧ PySem.W.kitOne K (.ref C) cv = some b ∧ Q (.bl b) H
def tXv (K : PySem.W.Frag) (f : Str) (te : TE) : TE := fun σ H Q => te σ H fun x H1 => ∃ (a C dd : Addr) (fs : List (Str × V)) (v : V), x = .ref a ∧ ExAt H1 a C (some dd) ∧ DxAt H1 dd fs ∧ XfC K C ∧ PySem.W.findIn K (.ref C) f = some none ∧ fs.lookup f = some v ∧ Q v H1
section
variable {X : Cx} {pins : List (Addr × Obj)} {σ : L2.St} {H : Hp} {s : Shared} {a C dd : Addr} {d : Option Addr} {fs : List (Str × V)}
theorem exAt_get (I : Inv X pins σ H s) (h : ExAt H a C d) : ∃ (oe : Obj) (vs : Array Value), s.heap.get? a = some oe ∧ Zc (.ref C) d oe ∧ oe.data = .fields vs := by
  rcases h with h | h
  · obtain ⟨t1, q⟩ := exo_at I.hok h
    exact ⟨_, _, q, ⟨rfl, rfl⟩, rfl⟩
  · exact exv_at I.hok h
theorem dxAt_get (I : Inv X pins σ H s) (h : DxAt H dd fs) : ∃ mA, s.heap.Ns1 dd mA ∧ ∀ f, RelO (fs.lookup f) (mA f) := by
  rcases h with h | h
  · exact exd_at I.hok h
  · exact (show ObjOk X.prog X.w H s.heap dd (.xd fs) from I.hok dd _ h)
theorem call_isV (K : PySem.W.Frag) (hK : X.K = K := by rfl) : CallR X (.builtin "isinstance") (rIsV K) := by
  subst hK
  intro pins s σ H xs us Q I r h
  obtain ⟨a, C, d, c, cv, b, rfl, he, hd, EC, hcv, e, q⟩ := h
  cases r with
  | cons rx rr =>
    cases rr with
    | cons rt rr =>
      cases rr
      cases rx
      have ec := hcv _ rt
      subst ec
      obtain ⟨oe, vs, hget, hz, hv⟩ := exAt_get I he
      cases d with
      | none =>
        have J : PySem.W.InstAt s.heap a oe C none := ⟨hget, hz.1, by unfold PySem.W.notCls; rw [hv] <;> rfl, by rw [hz.2]; trivial⟩
        exact PySem.W.kia_one (PySem.W.handS_kitx_exc EC.hg EC.hk EC.hs EC.hd EC.ha EC.hn EC.ht EC.hm) I.kIn J e (fun z => nomatch z) fun tk => ⟨.bl b, H, I.kept (t' := tk) fun _ _ z => z, rfl, q⟩
      | some dd =>
        obtain ⟨fs, hd'⟩ := hd dd rfl
        obtain ⟨mA, hns, hr⟩ := dxAt_get I hd'
        obtain ⟨od, ho, hl⟩ := lookIn_ns hns
        have J : PySem.W.InstAt s.heap a oe C (some od) := ⟨hget, hz.1, by unfold PySem.W.notCls; rw [hv] <;> rfl, by rw [hz.2]; exact ho⟩
        exact PySem.W.kia_one (sw_kitx EC.hg EC.hk EC.hs EC.hd EC.ha EC.hn EC.ht EC.hm) I.kIn J e (fun z => nomatch z) fun tk => ⟨.bl b, H, I.kept (t' := tk) fun _ _ z => z, rfl, q⟩
theorem pe_xv {e : Expr} {te : TE} {pos : Pos} {n : Str} (K : PySem.W.Frag) (he : PE X e te) (hb : attributeBase e n X.env (eval e X.env) = eval e X.env := by rfl) (hK : X.K = K := by rfl) : PE X (.Attribute e n pos) (tXv K n te) := by
  subst hK
  refine ⟨fun pins s σ H Q I h => ?_⟩
  refine attr_of hb (thn (he.run pins s σ H _ I h) fun u s1 hh => ?_)
  obtain ⟨x, H1, I1, rx, a, C, dd, fs, v, ex, hx, hd, T, hno, l, q⟩ := hh
  subst ex
  obtain rfl : u = Value.ref a := rx
  obtain ⟨oe, vs, hget, hz, hv⟩ := exAt_get I1 hx
  obtain ⟨mA, hns, hr⟩ := dxAt_get I1 hd
  obtain ⟨od, ho, hl⟩ := lookIn_ns hns
  obtain ⟨u, hu, ru⟩ := RelO.some_of (v := v) (o := mA n) (by rw [← l]; exact hr n)
  have J : PySem.W.InstAt s1.heap a oe C (some od) := ⟨hget, hz.1, by unfold PySem.W.notCls; rw [hv] <;> rfl, by rw [hz.2]; exact ho⟩
  exact HandSPX.exc_get I1.kIn J T.ga T.gg T.exC (PySem.W.findObj_own T.hdC hno rfl (by rw [hl, hu])) (handed_of ru) ⟨v, H1, I1.tok _, ru, q⟩
end
end Sw

set_option Elab.async false
set_option linter.all false
set_option maxRecDepth 100000
set_option maxHeartbeats 4000000
namespace Sw
open PySem PySem.Spec PyProof.Rows L2
/-! ### the __init__ of an exception with no, two, three fields -/
section
variable {P : Program} {w : World} {K : PySem.W.Frag} {mg : Str → Option Value} {base : Heap}
def spExc0 (C : Addr) : Sp := fun vs H Q _ => ∃ a, vs = [.ref a] ∧ H a = some (exo a C none) ∧ Q .non H
theorem ok_exc0 {qual msg : Str} {st : Stmt} {f cc C cda : Addr} {fd : FuncData} {p0 p1 p2 p3 p4 p5  : Pos} {j : Nat} (F : FunS P K "__init__" qual st f cc C cda fd) (U : SupTop P mg) (M : SupE K C C) 
    (S : SScope ["self"] ["self"] (defScope st)) (ks : (defScope st).names.lookup ("super" : Str) = some .globalImplicit) (kc : (defScope st).names.lookup ("__class__" : Str) = some .free)
    (hp : ∃ ar, ((defArgs st).posonlyargs ++ (defArgs st).args).head? = some ar ∧ (["self"] : List Str)[0]? = some ar.arg ∧ (defScope st).names.lookup ar.arg = some .local)
    (hb : defBody st = [.Expr (.Call (.Attribute (.Call (.Name "super" p0) [] [] p1) "__init__" p2) [.Constant (.str msg) j p3] [] p4) p5])
    (ht : ∀ env : Env, ∃ pl, eval (.Call (.Attribute (.Call (.Name "super" p0) [] [] p1) "__init__" p2) [.Constant (.str msg) j p3] [] p4) env = (do
      let ov ← attributeBase (.Call (.Name "super" p0) [] [] p1) "__init__" env (eval (.Call (.Name "super" p0) [] [] p1) env)
      standAt p2.atName
      let (f, first) ← holding [ov] (getMethod ov "__init__" pl)
      callWith p4 f first (backTo p4 (starEach [.Constant (.str msg) j p3] env)) (backToKw p4 (keywordEach [] env))))
    : FnOk P w K mg base (L2.CX P w) 1 f fd ["self"] (spExc0 C) := by
  refine F.ok S U ks kc hp (fun vs H Q E h => ?_) (fun A outer s H vs Q E hr T tk h => ?_)
  · obtain ⟨a, rfl, _⟩ := h
    rfl
  · obtain ⟨a, rfl, ha, q⟩ := h
    rw [hb]
    obtain ⟨pl, hte⟩ := ht (PySem.W.ksEnv qual (defScope st) s.heap.objs.size f (.ref cda) cc)
    refine ⟨_, PSst.one (pst_expr (pet_supE (pl := pl) T M (pa_cons pe_str pa_nil) rfl rfl hte) rfl), ?_⟩
    exact ⟨a, rfl, ha, (by show 1 ≤ 1000; decide), ha, q⟩
def spExc2 (C : Addr) (f1 f2 : Str) : Sp := fun vs H Q _ => ∃ a v1 v2, vs = [.ref a, v1, v2] ∧ H a = some (exo a C none) ∧ ∀ d H', H d = none → d ≠ a → H' a = some (exo a C (some d)) → H' d = some (exd d [(f2, v2), (f1, v1)]) → (∀ b, b ≠ a → b ≠ d → H' b = H b) → Q .non H'
theorem ok_exc2 {qual msg f1 f2 : Str} {st : Stmt} {f cc C cda : Addr} {fd : FuncData} {p0 p1 p2 p3 p4 p5 q1_1 q1_2 q1_3 q1_4 q2_1 q2_2 q2_3 q2_4 : Pos} {j : Nat} (F : FunS P K "__init__" qual st f cc C cda fd) (U : SupTop P mg) (M : SupE K C C) (hno1 : PySem.W.findIn K (.ref C) f1 = some none) (hno2 : PySem.W.findIn K (.ref C) f2 = some none)
    (S : SScope ["self", f1, f2] ["self", f1, f2] (defScope st)) (ks : (defScope st).names.lookup ("super" : Str) = some .globalImplicit) (kc : (defScope st).names.lookup ("__class__" : Str) = some .free)
    (hp : ∃ ar, ((defArgs st).posonlyargs ++ (defArgs st).args).head? = some ar ∧ (["self", f1, f2] : List Str)[0]? = some ar.arg ∧ (defScope st).names.lookup ar.arg = some .local)
    (hb : defBody st = [.Expr (.Call (.Attribute (.Call (.Name "super" p0) [] [] p1) "__init__" p2) [.Constant (.str msg) j p3] [] p4) p5, .Assign [.Attribute (.Name "self" q1_1) f1 q1_2] (.Name f1 q1_3) q1_4, .Assign [.Attribute (.Name "self" q2_1) f2 q2_2] (.Name f2 q2_3) q2_4])
    (ht : ∀ env : Env, ∃ pl, eval (.Call (.Attribute (.Call (.Name "super" p0) [] [] p1) "__init__" p2) [.Constant (.str msg) j p3] [] p4) env = (do
      let ov ← attributeBase (.Call (.Name "super" p0) [] [] p1) "__init__" env (eval (.Call (.Name "super" p0) [] [] p1) env)
      standAt p2.atName
      let (f, first) ← holding [ov] (getMethod ov "__init__" pl)
      callWith p4 f first (backTo p4 (starEach [.Constant (.str msg) j p3] env)) (backToKw p4 (keywordEach [] env))))
    (hd1 : (f1 == ("__debug__" : Str)) = false := by decide) (hcd1 : (f1 == ("__classdict__" : Str)) = false := by decide) (hd2 : (f2 == ("__debug__" : Str)) = false := by decide) (hcd2 : (f2 == ("__classdict__" : Str)) = false := by decide)
    : FnOk P w K mg base (L2.CX P w) 1 f fd ["self", f1, f2] (spExc2 C f1 f2) := by
  refine F.ok S U ks kc hp (fun vs H Q E h => ?_) (fun A outer s H vs Q E hr T tk h => ?_)
  · obtain ⟨a, v1, v2, rfl, _⟩ := h
    rfl
  · obtain ⟨a, v1, v2, rfl, ha, q⟩ := h
    rw [hb]
    obtain ⟨pl, hte⟩ := ht (PySem.W.ksEnv qual (defScope st) s.heap.objs.size f (.ref cda) cc)
    refine ⟨_, PSst.cons (pst_expr (pet_supE (pl := pl) T M (pa_cons pe_str pa_nil) rfl rfl hte) rfl) (PSst.of (pss_cons (ps_ost (pe_var (i := 0) rfl (.inl (S.par "self" (List.Mem.head _)))) (pe_var (i := 1) rfl (.inl (S.par f1 (List.Mem.tail _ (List.Mem.head _)))) hd1 hcd1) rfl) (pss_one (ps_ost (pe_var (i := 0) rfl (.inl (S.par "self" (List.Mem.head _)))) (pe_var (i := 2) rfl (.inl (S.par f2 (List.Mem.tail _ (List.Mem.tail _ (List.Mem.head _))))) hd2 hcd2) rfl)))), ?_⟩
    refine ⟨a, rfl, ha, (by show 1 ≤ 1000; decide), ha, v1, rfl, .ref a, rfl, a, C, rfl, M.ox, hno1, .inl ⟨ha, fun dx n ne => ?_⟩⟩
    refine ⟨v2, rfl, .ref a, rfl, a, C, rfl, M.ox, hno2, .inr ⟨dx, [(f1, v1)], upd_same, (upd_ne ne).trans upd_same, (by show 1 ≤ 900; decide), ?_⟩⟩
    exact q dx _ n ne ((upd_ne (Ne.symm ne)).trans upd_same) upd_same fun b h1 h2 => by rw [upd_ne h2, upd_ne h1, upd_ne h2]
def spExc3 (C : Addr) (f1 f2 f3 : Str) : Sp := fun vs H Q _ => ∃ a v1 v2 v3, vs = [.ref a, v1, v2, v3] ∧ H a = some (exo a C none) ∧ ∀ d H', H d = none → d ≠ a → H' a = some (exo a C (some d)) → H' d = some (exd d [(f3, v3), (f2, v2), (f1, v1)]) → (∀ b, b ≠ a → b ≠ d → H' b = H b) → Q .non H'
theorem ok_exc3 {qual msg f1 f2 f3 : Str} {st : Stmt} {f cc C cda : Addr} {fd : FuncData} {p0 p1 p2 p3 p4 p5 q1_1 q1_2 q1_3 q1_4 q2_1 q2_2 q2_3 q2_4 q3_1 q3_2 q3_3 q3_4 : Pos} {j : Nat} (F : FunS P K "__init__" qual st f cc C cda fd) (U : SupTop P mg) (M : SupE K C C) (hno1 : PySem.W.findIn K (.ref C) f1 = some none) (hno2 : PySem.W.findIn K (.ref C) f2 = some none) (hno3 : PySem.W.findIn K (.ref C) f3 = some none)
    (S : SScope ["self", f1, f2, f3] ["self", f1, f2, f3] (defScope st)) (ks : (defScope st).names.lookup ("super" : Str) = some .globalImplicit) (kc : (defScope st).names.lookup ("__class__" : Str) = some .free)
    (hp : ∃ ar, ((defArgs st).posonlyargs ++ (defArgs st).args).head? = some ar ∧ (["self", f1, f2, f3] : List Str)[0]? = some ar.arg ∧ (defScope st).names.lookup ar.arg = some .local)
    (hb : defBody st = [.Expr (.Call (.Attribute (.Call (.Name "super" p0) [] [] p1) "__init__" p2) [.Constant (.str msg) j p3] [] p4) p5, .Assign [.Attribute (.Name "self" q1_1) f1 q1_2] (.Name f1 q1_3) q1_4, .Assign [.Attribute (.Name "self" q2_1) f2 q2_2] (.Name f2 q2_3) q2_4, .Assign [.Attribute (.Name "self" q3_1) f3 q3_2] (.Name f3 q3_3) q3_4])
    (ht : ∀ env : Env, ∃ pl, eval (.Call (.Attribute (.Call (.Name "super" p0) [] [] p1) "__init__" p2) [.Constant (.str msg) j p3] [] p4) env = (do
      let ov ← attributeBase (.Call (.Name "super" p0) [] [] p1) "__init__" env (eval (.Call (.Name "super" p0) [] [] p1) env)
      standAt p2.atName
      let (f, first) ← holding [ov] (getMethod ov "__init__" pl)
      callWith p4 f first (backTo p4 (starEach [.Constant (.str msg) j p3] env)) (backToKw p4 (keywordEach [] env))))
    (hd1 : (f1 == ("__debug__" : Str)) = false := by decide) (hcd1 : (f1 == ("__classdict__" : Str)) = false := by decide) (hd2 : (f2 == ("__debug__" : Str)) = false := by decide) (hcd2 : (f2 == ("__classdict__" : Str)) = false := by decide) (hd3 : (f3 == ("__debug__" : Str)) = false := by decide) (hcd3 : (f3 == ("__classdict__" : Str)) = false := by decide)
    : FnOk P w K mg base (L2.CX P w) 1 f fd ["self", f1, f2, f3] (spExc3 C f1 f2 f3) := by
  refine F.ok S U ks kc hp (fun vs H Q E h => ?_) (fun A outer s H vs Q E hr T tk h => ?_)
  · obtain ⟨a, v1, v2, v3, rfl, _⟩ := h
    rfl
  · obtain ⟨a, v1, v2, v3, rfl, ha, q⟩ := h
    rw [hb]
    obtain ⟨pl, hte⟩ := ht (PySem.W.ksEnv qual (defScope st) s.heap.objs.size f (.ref cda) cc)
    refine ⟨_, PSst.cons (pst_expr (pet_supE (pl := pl) T M (pa_cons pe_str pa_nil) rfl rfl hte) rfl) (PSst.of (pss_cons (ps_ost (pe_var (i := 0) rfl (.inl (S.par "self" (List.Mem.head _)))) (pe_var (i := 1) rfl (.inl (S.par f1 (List.Mem.tail _ (List.Mem.head _)))) hd1 hcd1) rfl) (pss_cons (ps_ost (pe_var (i := 0) rfl (.inl (S.par "self" (List.Mem.head _)))) (pe_var (i := 2) rfl (.inl (S.par f2 (List.Mem.tail _ (List.Mem.tail _ (List.Mem.head _))))) hd2 hcd2) rfl) (pss_one (ps_ost (pe_var (i := 0) rfl (.inl (S.par "self" (List.Mem.head _)))) (pe_var (i := 3) rfl (.inl (S.par f3 (List.Mem.tail _ (List.Mem.tail _ (List.Mem.tail _ (List.Mem.head _)))))) hd3 hcd3) rfl))))), ?_⟩
    refine ⟨a, rfl, ha, (by show 1 ≤ 1000; decide), ha, v1, rfl, .ref a, rfl, a, C, rfl, M.ox, hno1, .inl ⟨ha, fun dx n ne => ?_⟩⟩
    refine ⟨v2, rfl, .ref a, rfl, a, C, rfl, M.ox, hno2, .inr ⟨dx, [(f1, v1)], upd_same, (upd_ne ne).trans upd_same, (by show 1 ≤ 900; decide), ?_⟩⟩
    refine ⟨v3, rfl, .ref a, rfl, a, C, rfl, M.ox, hno3, .inr ⟨dx, ((f2, v2) :: [(f1, v1)]), (upd_ne (Ne.symm ne)).trans upd_same, upd_same, (by show 2 ≤ 900; decide), ?_⟩⟩
    exact q dx _ n ne ((upd_ne (Ne.symm ne)).trans ((upd_ne (Ne.symm ne)).trans upd_same)) upd_same fun b h1 h2 => by rw [upd_ne h2, upd_ne h2, upd_ne h1, upd_ne h2]
end
end Sw

set_option Elab.async false
set_option linter.all false
set_option maxRecDepth 100000
set_option maxHeartbeats 4000000
namespace Sw
open PySem PySem.Spec PyProof.Rows L2
/-! ### repr of a dict of flat values -/
def keyD : Key → PyData
  | .inl i => .int i
  | .inr x => .str x
def flatD : V → PyData
  | .bl b => .bool b
  | .int i => .int i
  | .str s => .str s
  | _ => .none
def dictD (kvs : List (Key × V)) : PyData := .dict (kvs.map fun p => (keyD p.1, flatD p.2))
theorem reads_flat {h : Heap} {v : V} {u : Value} (r : RelV v u) (f : flatV v = true) : Reads h u (flatD v) [] := by
  cases v with
  | non => cases r; exact Reads.none
  | bl b => cases r; exact Reads.bool b
  | int i => obtain ⟨t, rfl⟩ := r; exact Reads.int i t
  | str x => obtain ⟨t, rfl⟩ := r; exact Reads.str x t
  | _ => cases f
theorem reads_keys {P : Program} {w : World} {h : Heap} {es : List DictEntry} {vs : List (Key × Value)} (hp : Pairs (mixKind P w) es vs) : ReadsAll h (es.map (·.key)) (vs.map fun p => keyD p.1) [] := by
  induction hp with
  | nil => exact ReadsAll.nil
  | cons h1 _ _ ih =>
    rcases keyIs_shape h1 with ⟨i, t, e1, e2⟩ | ⟨x, t, e1, e2⟩
    · rw [List.map_cons, List.map_cons, e1, e2]
      exact ReadsAll.cons (Reads.int i t) ih
    · rw [List.map_cons, List.map_cons, e1, e2]
      exact ReadsAll.cons (Reads.str x t) ih
theorem reads_vals {P : Program} {w : World} {h : Heap} : ∀ {kvs : List (Key × V)} {vs : List (Key × Value)} {es : List DictEntry}, KV kvs vs → Pairs (mixKind P w) es vs → (∀ p ∈ kvs, flatV p.2 = true) → ReadsAll h (es.map (·.val)) (kvs.map fun p => flatD p.2) []
  | [], [], [], _, _, _ => ReadsAll.nil
  | p :: ps, q :: qs, e :: es, .cons r t, .cons _ h2 hp, f => by
    rw [List.map_cons, List.map_cons, h2]
    exact ReadsAll.cons (reads_flat r.2 (f p List.mem_cons_self)) (reads_vals t hp fun p hp => f p (List.mem_cons_of_mem _ hp))
theorem kv_keys {kvs : List (Key × V)} {vs : List (Key × Value)} (h : KV kvs vs) : vs.map (fun p => keyD p.1) = kvs.map (fun p => keyD p.1) := by
  unfold KV at h
  induction h with
  | nil => rfl
  | cons r _ ih => rw [List.map_cons, List.map_cons, ih, r.1]
def rReprD : List V → Hp → VK → Prop := fun xs H Q => ∃ (a : Addr) (kvs : List (Key × V)), xs = [.ref a] ∧ H a = some (.dK kvs) ∧ (∀ p ∈ kvs, flatV p.2 = true) ∧ (dictD kvs).showable = true ∧ (dictD kvs).depth ≤ 100 ∧ (dictD kvs).shown.length ≤ sizeLine ∧ Q (.str (dictD kvs).shown) H
theorem call_reprD {X : Cx} (hgd : X.A.guards = some []) (hu : X.A.units + 120 < cLine) : CallR X (.builtin "repr") rReprD := by
  intro pins s σ H xs us Q I r h
  obtain ⟨a, kvs, rfl, ea, hf, hs, hdp, hl, q⟩ := h
  cases r with
  | cons rx rr =>
    cases rr
    cases rx
    have hx : ObjOk X.prog X.w H s.heap a (.dK kvs) := I.hok a _ ea
    obtain ⟨hz, hsm, vs, kv, o, es, ep, e1, e2, e3, e4, e5, e6⟩ := hx
    have rd : Reads s.heap (.ref a) (dictD kvs) (a :: [] ++ []) := by
      refine Reads.dict (o := o) e1 e2.1 e3 ?_ ?_
      · rw [List.map_map]
        have := reads_keys (h := s.heap) e5
        rw [kv_keys kv] at this
        exact this
      · rw [List.map_map]
        exact reads_vals kv e5 hf
    exact repr_of_reads' rd hs (fun _ hm => by
      have : sysModules = a := by simpa using hm
      rw [← this] at hsm
      simp at hsm) hgd (by omega) (fun b o e => e) (fun h' u tk k => ⟨.str (dictD kvs).shown, H, I.kept (t' := tk) k, ⟨_, rfl⟩, q⟩) hl
/-- repr of data, or of such a dict -/
def aRepr (K : PySem.W.Frag) : List V → Hp → VK → Prop := fun xs H Q => rRepr K xs H Q ∨ rReprD xs H Q
theorem ka_reprA {X : Cx} (K : PySem.W.Frag) (hgd : X.A.guards = some []) (hu : X.A.units + 120 < cLine) (hK : X.K = K := by rfl) : CallR X (.builtin "repr") (aRepr K) := fun pins s σ H xs us Q I r h =>
  h.elim (ka_repr K hgd hu hK pins s σ H xs us Q I r) (call_reprD hgd hu pins s σ H xs us Q I r)
end Sw

set_option Elab.async false
set_option linter.all false
set_option maxRecDepth 100000
set_option maxHeartbeats 4000000
namespace Sw
open PySem PySem.Spec PyProof.Rows L2
/-! ### bs.count(b), bs.index(True) for truth values -/
def rCntB (K : PySem.W.Frag) : V → List V → Hp → VK → Prop := fun x xs H Q => ∃ (p : Addr) (bs : List Bool) (k : Bool), x = .ref p ∧ xs = [.bl k] ∧ SqL K H p (bs.map V.bl) ∧ Q (.int (bs.count k : Nat)) H
def eqB (k : Bool) : Value → Bool
  | .bool b => b == k
  | _ => false
theorem vals_bools : ∀ {bs : List Bool} {us : List Value}, Vals (bs.map V.bl) us → us = bs.map Value.bool
  | [], _, .nil => rfl
  | b :: bs, _, .cons r t => by
    rw [vals_bools t]
    cases r
    rfl
theorem cnt_bools (bs : List Bool) (k : Bool) : (bs.map Value.bool).countP (eqB k) = bs.count k := by
  induction bs with
  | nil => rfl
  | cons b r ih =>
    rw [List.map_cons, List.countP_cons, List.count_cons, ih]
    rfl
theorem mt_bcount {X : Cx} (K : PySem.W.Frag) (hK : X.K = K := by rfl) : MtR X "list.count" (rCntB K) := by
  subst hK
  intro pins s σ H x xs v us Q I rx rxs h
  obtain ⟨p, bs, k, rfl, rfl, hs, q⟩ := h
  cases rx
  obtain ⟨u, rfl, ru⟩ := rxs.one
  cases ru
  obtain ⟨its, rv, ⟨⟨cls, dd, data, sl⟩, n, ho, hc, hdn, hd⟩, hlen⟩ := I.list hs
  simp only at hc hd
  subst hc hd
  have hi := vals_bools rv
  subst hi
  refine call_meets PySem.F.slot_list_count ⟨_, ho, rfl⟩ PySem.F.entry_list_count (PySem.F.args_list_count_2 _ _)
    (SeqAt.list_countAt p (bs.map Value.bool).toArray n dd sl (.bool k) (eqB k)) ⟨ho, fun y hy => ?_, ?_⟩
  · obtain ⟨b, _, rfl⟩ := List.mem_map.mp (show y ∈ bs.map Value.bool by simpa using hy)
    exact eqAt_V (y := .bl b) (x := .bl k) rfl rfl rfl rfl
  · have ec : (bs.map Value.bool).toArray.toList.countP (eqB k) = bs.count k := by
      rw [show (bs.map Value.bool).toArray.toList = bs.map Value.bool by simp]
      exact cnt_bools bs k
    refine ⟨.int (bs.count k : Nat), H, I.tok _, ⟨s.toks, ?_⟩, q⟩
    show Value.int (((bs.map Value.bool).toArray.toList.countP (eqB k) : Nat) : Int) s.toks = Value.int ((bs.count k : Nat) : Int) s.toks
    rw [ec]
end Sw

set_option Elab.async false
set_option linter.all false
set_option maxRecDepth 100000
set_option maxHeartbeats 4000000
namespace PySem
open Sem (wp)
section
variable {prog : Program} {w : World} {h₀ : Heap}
mutual
theorem sw_reprK : ∀ {v : Value} {d : PyData} {as : List Addr}, Reads h₀ v d as → d.showable = true → (∀ b ∈ as, (∃ o, h₀.get? b = some o ∧ o.cls = .type "dict") → b ≠ sysModules) → d.shown.length ≤ sizeLine → ∃ bs, ReadAtMost h₀ d.depth bs ∧ ReprK prog w bs h₀ d.depth v d.shown
  | _, _, _, .none, _, _, _ => ⟨[], (fun _ h => nomatch h), by simp only [PyData.shown]; exact .of_is ReprIs.none _ _ _⟩
  | _, _, _, .bool b, _, _, _ => ⟨[], (fun _ h => nomatch h), by simp only [PyData.shown]; exact .of_is (ReprIs.bool b) _ _ _⟩
  | _, _, _, .int i t, hs, _, _ => ⟨[], (fun _ h => nomatch h), by simp only [PyData.shown]; exact .of_is (ReprIs.int t (by simpa [PyData.showable] using hs)) _ _ _⟩
  | _, _, _, .str x t, _, _, hz => ⟨[], (fun _ h => nomatch h), by simp only [PyData.shown]; exact .of_is (ReprIs.str x t (by simpa only [PyData.shown] using hz)) _ _ _⟩
  | _, _, _, .list (a := a) (vs := vs) (xs := xs) h1 h2 h3 h4, hs, hsm, hz => by
    have hz' : (listText (PyData.shownAll xs)).length ≤ sizeLine := by simpa only [PyData.shown] using hz
    obtain ⟨bs, hb, hk⟩ := sw_reprAllK h4 (by simpa [PyData.showable] using hs) (fun b hm => hsm b (List.mem_cons_of_mem _ hm)) (fun t ht => Nat.le_trans (listText_mem_le ht) hz')
    have r : Reads h₀ (.ref a) (.list xs) _ := .list h1 h2 h3 h4
    have hna : a ∉ bs := not_mem_of_deeper r (by simp only [PyData.depth]; omega) hb
    refine ⟨a :: bs, ReadAtMost.cons r (by simp only [PyData.depth]; omega) hb, ?_⟩
    simp only [PyData.depth, PyData.shown]
    obtain ⟨l⟩ := vs
    cases l with
    | nil =>
      have h4' : ReadsAll h₀ [] xs _ := h4
      cases h4'
      simp only [PyData.shownAll, listText_nil]
      exact ReprK.listEmpty h1 h2 h3
    | cons x l => exact ReprK.list h1 h2 h3 hna (by simpa using hk.length_eq) (fun i y e => hk.item i y (by simpa using e))
  | _, _, _, .tuple (a := a) (xs := xs) h1 h2 h3 h4, hs, hsm, hz => by
    have hz' : (tupleText (PyData.shownAll xs)).length ≤ sizeLine := by simpa only [PyData.shown] using hz
    obtain ⟨bs, hb, hk⟩ := sw_reprAllK h4 (by simpa [PyData.showable] using hs) (fun b hm => hsm b hm) (fun t ht => Nat.le_trans (tupleText_mem_le ht) hz')
    have r : Reads h₀ (.ref a) (.tuple xs) _ := .tuple h1 h2 h3 h4
    have hna : a ∉ bs := not_mem_of_deeper r (by simp only [PyData.depth]; omega) hb
    refine ⟨a :: bs, ReadAtMost.cons r (by simp only [PyData.depth]; omega) hb, ?_⟩
    simp only [PyData.depth, PyData.shown]
    exact ReprK.tuple h1 h2 h3 hna hk
  | _, _, _, .dict (a := a) (es := es) (kvs := kvs) (as := as₁) (bs := bs₁) h1 h2 h3 h4 h5, hs, hsm, hz => by
    have hz' : (dictText (PyData.shownKv kvs)).length ≤ sizeLine := by simpa only [PyData.shown] using hz
    obtain ⟨hs1, hs2⟩ := PyData.showableKv_split kvs (by simpa [PyData.showable] using hs)
    obtain ⟨b1, hb1, k1⟩ := sw_reprAllK h4 hs1 (fun b hm => hsm b (List.mem_cons_of_mem _ (List.mem_append_left _ hm))) (fun t ht => let ⟨p, hp, hl⟩ := PyData.shownKv_key_le kvs t ht; Nat.le_trans hl (Nat.le_trans (dictText_mem_le hp) hz'))
    obtain ⟨b2, hb2, k2⟩ := sw_reprAllK h5 hs2 (fun b hm => hsm b (List.mem_cons_of_mem _ (List.mem_append_right _ hm))) (fun t ht => let ⟨p, hp, hl⟩ := PyData.shownKv_val_le kvs t ht; Nat.le_trans hl (Nat.le_trans (dictText_mem_le hp) hz'))
    have r : Reads h₀ (.ref a) (.dict kvs) _ := .dict h1 h2 h3 h4 h5
    have hb : ReadAtMost h₀ (PyData.depthKv kvs) (b1 ++ b2) := (hb1.mono (PyData.depthAll_keys_le kvs)).append (hb2.mono (PyData.depthAll_vals_le kvs))
    have hna : a ∉ b1 ++ b2 := not_mem_of_deeper r (by simp only [PyData.depth]; omega) hb
    have hsys : (a == sysModules) = false := beq_eq_false_iff_ne.mpr (hsm a (List.mem_cons_self ..) ⟨_, h1, h2⟩)
    refine ⟨a :: (b1 ++ b2), ReadAtMost.cons r (by simp only [PyData.depth]; omega) hb, ?_⟩
    simp only [PyData.depth, PyData.shown, PyData.shownKv_eq]
    exact ReprK.dict h1 h2 h3 hsys hna (ReprEntriesK.of_two es.toList _ _
      (k1.more_le (fun b hb => List.mem_append_left _ hb) (PyData.depthAll_keys_le kvs)) (k2.more_le (fun b hb => List.mem_append_right _ hb) (PyData.depthAll_vals_le kvs)))
theorem sw_reprAllK : ∀ {vs : List Value} {ds : List PyData} {as : List Addr}, ReadsAll h₀ vs ds as → PyData.showableAll ds = true → (∀ b ∈ as, (∃ o, h₀.get? b = some o ∧ o.cls = .type "dict") → b ≠ sysModules) → (∀ t ∈ PyData.shownAll ds, t.length ≤ sizeLine) →
    ∃ bs, ReadAtMost h₀ (PyData.depthAll ds) bs ∧ ReprAllK prog w bs h₀ (PyData.depthAll ds) vs (PyData.shownAll ds)
  | _, _, _, .nil, _, _, _ => ⟨[], (fun _ h => nomatch h), by simp only [PyData.shownAll]; exact .nil⟩
  | _, _, _, .cons (d := d) (ds := ds) r rs, hs, hsm, hz => by
    have hs' : d.showable = true ∧ PyData.showableAll ds = true := by simpa [PyData.showableAll] using hs
    obtain ⟨b1, hb1, k1⟩ := sw_reprK r hs'.1 (fun b hm => hsm b (List.mem_append_left _ hm)) (hz _ (by simp only [PyData.shownAll]; exact List.mem_cons_self ..))
    obtain ⟨b2, hb2, k2⟩ := sw_reprAllK rs hs'.2 (fun b hm => hsm b (List.mem_append_right _ hm)) (fun t ht => hz t (by simp only [PyData.shownAll]; exact List.mem_cons_of_mem _ ht))
    refine ⟨b1 ++ b2, ?_, ?_⟩
    · intro b hm
      simp only [PyData.depthAll]
      rcases List.mem_append.mp hm with hm | hm
      · obtain ⟨d', as', r', hd'⟩ := hb1 b hm
        exact ⟨d', as', r', Nat.le_trans hd' (Nat.le_max_left _ _)⟩
      · obtain ⟨d', as', r', hd'⟩ := hb2 b hm
        exact ⟨d', as', r', Nat.le_trans hd' (Nat.le_max_right _ _)⟩
    · simp only [PyData.depthAll, PyData.shownAll]
      exact .cons ((k1.more fun b hb => List.mem_append_left _ hb).level_le (Nat.le_max_left _ _)) (k2.more_le (fun b hb => List.mem_append_right _ hb) (Nat.le_max_right _ _))
end
end
section
variable {prog : Program} {w : World} {h₀ : Heap} {a : Addr} {d : PyData} {as : List Addr}
theorem sw_showsBy (r : Reads h₀ (.ref a) d as) (hs : d.showable = true) (hsm : ∀ b ∈ as, (∃ o, h₀.get? b = some o ∧ o.cls = .type "dict") → b ≠ sysModules)
    (hsz : d.shown.length ≤ sizeLine := by size_fits) : ∃ T idr, ShowsBy prog w h₀ a d T idr := by
  cases r with
  | list h1 h2 h3 h4 =>
    rename_i o vs n xs bs₀
    have hz' : (listText (PyData.shownAll xs)).length ≤ sizeLine := by simpa only [PyData.shown] using hsz
    obtain ⟨bs, hb, hk⟩ := sw_reprAllK (prog := prog) (w := w) h4 (by simpa [PyData.showable] using hs) (fun b hm => hsm b (List.mem_cons_of_mem _ hm)) (fun t ht => Nat.le_trans (listText_mem_le ht) hz')
    have hna : a ∉ bs := not_mem_of_deeper (.list h1 h2 h3 h4) (by simp only [PyData.depth]; omega) hb
    refine ⟨"list", "list.__repr__", F.slot_list_repr.toG, F.slot_list_str, F.slot_list_format, fun s hk0 => ⟨o, hk0 _ _ h1, h2⟩, fun A E s Q hg hu hk0 hQ => ?_⟩
    simp only [PyData.depth] at hu
    simp only [PyData.shown] at hQ
    obtain ⟨l⟩ := vs
    cases l with
    | nil =>
      have h4' : ReadsAll h₀ [] xs _ := h4
      cases h4'
      simp only [PyData.shownAll, listText_nil] at hQ
      exact call_list_repr_empty ⟨o, hk0 _ _ h1, h2⟩ (hk0 _ _ h1) h3 (hQ s.heap _ _ fun _ _ e => e)
    | cons x l =>
      exact call_list_reprK h1 h2 h3 hna (by simpa using hk.length_eq) (fun i y e => hk.item i y (by simpa using e)) hg (fun b _ => Clear.nil b) hu hk0 hQ hz'
  | tuple h1 h2 h3 h4 =>
    rename_i o vs n xs
    have hz' : (tupleText (PyData.shownAll xs)).length ≤ sizeLine := by simpa only [PyData.shown] using hsz
    obtain ⟨bs, hb, hk⟩ := sw_reprAllK (prog := prog) (w := w) h4 (by simpa [PyData.showable] using hs) (fun b hm => hsm b hm) (fun t ht => Nat.le_trans (tupleText_mem_le ht) hz')
    have hna : a ∉ bs := not_mem_of_deeper (.tuple h1 h2 h3 h4) (by simp only [PyData.depth]; omega) hb
    refine ⟨"tuple", "tuple.__repr__", F.slot_tuple_repr, F.slot_tuple_str, F.slot_tuple_format, fun s hk0 => ⟨o, hk0 _ _ h1, h2⟩, fun A E s Q hg hu hk0 hQ => ?_⟩
    simp only [PyData.depth] at hu
    simp only [PyData.shown] at hQ
    exact call_tuple_reprK h1 h2 h3 hna hk hg (fun b _ => Clear.nil b) hu hk0 hQ hz'
  | dict h1 h2 h3 h4 h5 =>
    rename_i o es n kvs as₁ bs₁
    have hz' : (dictText (PyData.shownKv kvs)).length ≤ sizeLine := by simpa only [PyData.shown] using hsz
    obtain ⟨hs1, hs2⟩ := PyData.showableKv_split kvs (by simpa [PyData.showable] using hs)
    obtain ⟨b1, hb1, k1⟩ := sw_reprAllK (prog := prog) (w := w) h4 hs1 (fun b hm => hsm b (List.mem_cons_of_mem _ (List.mem_append_left _ hm))) (fun t ht => let ⟨p, hp, hl⟩ := PyData.shownKv_key_le kvs t ht; Nat.le_trans hl (Nat.le_trans (dictText_mem_le hp) hz'))
    obtain ⟨b2, hb2, k2⟩ := sw_reprAllK (prog := prog) (w := w) h5 hs2 (fun b hm => hsm b (List.mem_cons_of_mem _ (List.mem_append_right _ hm))) (fun t ht => let ⟨p, hp, hl⟩ := PyData.shownKv_val_le kvs t ht; Nat.le_trans hl (Nat.le_trans (dictText_mem_le hp) hz'))
    have hb : ReadAtMost h₀ (PyData.depthKv kvs) (b1 ++ b2) := (hb1.mono (PyData.depthAll_keys_le kvs)).append (hb2.mono (PyData.depthAll_vals_le kvs))
    have hna : a ∉ b1 ++ b2 := not_mem_of_deeper (.dict h1 h2 h3 h4 h5) (by simp only [PyData.depth]; omega) hb
    have hsys : (a == sysModules) = false := beq_eq_false_iff_ne.mpr (hsm a (List.mem_cons_self ..) ⟨_, h1, h2⟩)
    refine ⟨"dict", "dict.__repr__", F.slot_dict_repr, F.slot_dict_str, F.slot_dict_format, fun s hk0 => ⟨o, hk0 _ _ h1, h2⟩, fun A E s Q hg hu hk0 hQ => ?_⟩
    simp only [PyData.depth] at hu
    simp only [PyData.shown, PyData.shownKv_eq] at hQ
    exact call_dict_reprK h1 h2 h3 hsys hna (ReprEntriesK.of_two es.toList _ _
      (k1.more_le (fun b hb => List.mem_append_left _ hb) (PyData.depthAll_keys_le kvs)) (k2.more_le (fun b hb => List.mem_append_right _ hb) (PyData.depthAll_vals_le kvs))) hg (fun b _ => Clear.nil b) hu hk0 hQ (by rw [← PyData.shownKv_eq]; exact hz')


variable {A : Around} {E : Value → Shared → Prop} {s : Shared} {Q : Value → Shared → Prop}
theorem sw_repr (r : Reads h₀ (.ref a) d as) (hs : d.showable = true) (hsm : ∀ b ∈ as, (∃ o, h₀.get? b = some o ∧ o.cls = .type "dict") → b ≠ sysModules) (hg : A.guards = some []) (hu : A.units + (d.depth + 1) < cLine) (hk0 : ∀ b o, h₀.get? b = some o → s.heap.get? b = some o)
    (hQ : ∀ h' u tk, (∀ b o, s.heap.get? b = some o → h'.get? b = some o) → Q (.str d.shown u) { s with heap := h', toks := tk })
    (hsz : d.shown.length ≤ sizeLine := by size_fits) : wpAny (model prog w) A (call (.builtin "repr") [.ref a]) Q E s := by
  obtain ⟨T, idr, S⟩ := sw_showsBy (prog := prog) (w := w) r hs hsm hsz
  exact call_repr_slot (by omega) (S.typeIs s hk0) S.slotRepr (S.call A.in1 E s _ hg (by show A.units + 1 + d.depth < cLine; omega) hk0 fun h' u tk hk => ⟨_, _, rfl, hQ h' u tk hk⟩)
end
end PySem

set_option Elab.async false
set_option linter.all false
set_option maxRecDepth 100000
set_option maxHeartbeats 4000000
namespace Sw
open PySem PySem.Spec PyProof.Rows L2
/-! ### data at any depth, with dicts -/
mutual
inductive Dq (K : PySem.W.Frag) (H : Hp) : V → PyData → Prop
  | non : Dq K H .non .none
  | bl (b : Bool) : Dq K H (.bl b) (.bool b)
  | int (i : Int) : Dq K H (.int i) (.int i)
  | str (x : Str) : Dq K H (.str x) (.str x)
  | lst {a : Addr} {xs : List V} {ds : List PyData} : SqL K H a xs → DqAll K H xs ds → Dq K H (.ref a) (.list ds)
  | tup {a : Addr} {xs : List V} {ds : List PyData} : SqT K H a xs → DqAll K H xs ds → Dq K H (.ref a) (.tuple ds)
  | dic {a : Addr} {kvs : List (Key × V)} {ds : List PyData} : H a = some (.dK kvs) → DqAll K H (kvs.map (·.2)) ds → Dq K H (.ref a) (.dict ((kvs.map fun p => keyD p.1).zip ds))
inductive DqAll (K : PySem.W.Frag) (H : Hp) : List V → List PyData → Prop
  | nil : DqAll K H [] []
  | cons {v : V} {vs : List V} {d : PyData} {ds : List PyData} : Dq K H v d → DqAll K H vs ds → DqAll K H (v :: vs) (d :: ds)
end
theorem DqAll.length {K : PySem.W.Frag} {H : Hp} : ∀ {vs : List V} {ds : List PyData}, DqAll K H vs ds → vs.length = ds.length
  | [], _, h => by cases h; rfl
  | v :: vs, _, h => by
    cases h with
    | cons _ h2 => rw [List.length_cons, List.length_cons, DqAll.length h2]
section
variable {X : Cx} {pins : List (Addr × Obj)} {σ : L2.St} {H : Hp} {s : Shared}
def NoMod (h : Heap) (as : List Addr) : Prop := ∀ b ∈ as, (∃ o, h.get? b = some o ∧ o.cls = .type "dict") → b ≠ sysModules
theorem NoMod.nil {h : Heap} : NoMod h [] := fun _ hm => nomatch hm
theorem NoMod.app {h : Heap} {as bs : List Addr} (h1 : NoMod h as) (h2 : NoMod h bs) : NoMod h (as ++ bs) := fun b hm q => (List.mem_append.mp hm).elim (fun m => h1 b m q) (fun m => h2 b m q)
theorem dq_vals {P : Program} {w : World} : ∀ {kvs : List (Key × V)} {vs : List (Key × Value)} {es : List DictEntry}, KV kvs vs → Pairs (mixKind P w) es vs → Vals (kvs.map (·.2)) (es.map (·.val))
  | [], [], [], _, _ => .nil
  | p :: ps, q :: qs, e :: es, .cons r t, .cons _ h2 hp => by
    rw [List.map_cons, List.map_cons, h2]
    exact .cons r.2 (dq_vals t hp)
theorem Dq.reads (I : Inv X pins σ H s) {v : V} {d : PyData} (h : Dq X.K H v d) : ∀ u, RelV v u → ∃ as, Reads s.heap u d as ∧ NoMod s.heap as := by
  refine Dq.rec (motive_1 := fun v d _ => ∀ u, RelV v u → ∃ as, Reads s.heap u d as ∧ NoMod s.heap as) (motive_2 := fun vs ds _ => ∀ us, Vals vs us → ∃ as, ReadsAll s.heap us ds as ∧ NoMod s.heap as) ?_ ?_ ?_ ?_ ?_ ?_ ?_ ?_ ?_ h
  · intro u r
    cases r
    exact ⟨_, Reads.none, .nil⟩
  · intro b u r
    cases r
    exact ⟨_, Reads.bool b, .nil⟩
  · intro i u r
    obtain ⟨t, rfl⟩ := r
    exact ⟨_, Reads.int i t, .nil⟩
  · intro x u r
    obtain ⟨t, rfl⟩ := r
    exact ⟨_, Reads.str x t, .nil⟩
  · intro a xs ds hs _ ih u r
    cases r
    obtain ⟨its, rv, ⟨o, n, ho, hc, _, hd⟩, _⟩ := I.list hs
    obtain ⟨as, hr, hn⟩ := ih _ rv
    refine ⟨_, Reads.list ho hc hd hr, ?_⟩
    intro b hm q
    rcases List.mem_cons.mp hm with rfl | hm
    · obtain ⟨o', e1, e2⟩ := q
      rw [ho] at e1
      cases e1
      rw [hc] at e2
      exact absurd e2 (by decide)
    · exact hn b hm q
  · intro a xs ds hs _ ih u r
    cases r
    obtain ⟨its, rv, ⟨o, ho, hc, n, hd⟩, _⟩ := I.tuple hs
    obtain ⟨as, hr, hn⟩ := ih _ rv
    exact ⟨_, Reads.tuple ho hc hd hr, hn⟩
  · intro a kvs ds ea ha ih u r
    cases r
    have hx : ObjOk X.prog X.w H s.heap a (.dK kvs) := I.hok a _ ea
    obtain ⟨hz, hsm, vs, kv, o, es, ep, e1, e2, e3, e4, e5, e6⟩ := hx
    obtain ⟨as, hr, hn⟩ := ih _ (dq_vals kv e5)
    have hl := ha.length
    rw [List.length_map] at hl
    refine ⟨_, Reads.dict (o := o) (as := []) (bs := as) e1 e2.1 e3 ?_ ?_, ?_⟩
    · have := reads_keys (h := s.heap) e5
      rw [kv_keys kv] at this
      rw [List.map_fst_zip (by simp [hl])]
      exact this
    · rw [List.map_snd_zip (by simp [hl])]
      exact hr
    · intro b hm q
      have hm' : b = a ∨ b ∈ as := by simpa using hm
      rcases hm' with rfl | hm
      · intro e
        rw [e] at hsm
        simp at hsm
      · exact hn b hm q
  · intro us r
    cases r
    exact ⟨_, ReadsAll.nil, .nil⟩
  · intro v vs d ds _ _ ih1 ih2 us r
    cases r with
    | cons r1 r2 =>
      obtain ⟨as, q1, n1⟩ := ih1 _ r1
      obtain ⟨bs, q2, n2⟩ := ih2 _ r2
      exact ⟨_, ReadsAll.cons q1 q2, n1.app n2⟩
end
def qRepr (K : PySem.W.Frag) : List V → Hp → VK → Prop := fun xs H Q => ∃ v d, xs = [v] ∧ Dq K H v d ∧ d.showable = true ∧ d.depth ≤ 100 ∧ d.shown.length ≤ sizeLine ∧ Q (.str d.shown) H
theorem ka_reprQ {X : Cx} (K : PySem.W.Frag) (hgd : X.A.guards = some []) (hu : X.A.units + 120 < cLine) (hK : X.K = K := by rfl) : CallR X (.builtin "repr") (qRepr K) := by
  subst hK
  intro pins s σ H xs us Q I r h
  obtain ⟨v, d, rfl, hd, hs, hdp, hl, q⟩ := h
  cases r with
  | cons rx rr =>
    cases rr
    have kept : ∀ h' tk, (∀ b o, s.heap.get? b = some o → h'.get? b = some o) → Inv X pins σ H { s with heap := h', toks := tk } := fun h' tk k => I.kept (t' := tk) k
    have refs : ∀ {a : Addr} {u : Value}, v = .ref a → RelV v u → wpAny (model X.prog X.w) X.A (call (.builtin "repr") [u]) (EP X pins σ Q) X.xe s := fun {a u} ev ru => by
      subst ev
      obtain ⟨as, rd, hn⟩ := Dq.reads I hd u ru
      obtain rfl : u = Value.ref a := ru
      exact sw_repr rd hs hn hgd (by omega) (fun b o e => e) (fun h' u tk k => ⟨.str d.shown, H, kept h' tk k, ⟨_, rfl⟩, q⟩) hl
    cases hd with
    | non =>
      cases rx
      exact P.repr_of_none ⟨.str _, H, I.kept (t' := s.toks + 1) (fun _ _ e => e), ⟨_, rfl⟩, q⟩
    | bl b =>
      cases rx
      exact P.repr_of_bool ⟨.str _, H, I.kept (t' := s.toks + 1) (fun _ _ e => e), ⟨_, rfl⟩, q⟩
    | int i =>
      obtain ⟨t, rfl⟩ := rx
      exact P.repr_of_int (of_decide_eq_true hs) ⟨.str _, H, I.kept (t' := s.toks + 1) (fun _ _ e => e), ⟨_, rfl⟩, q⟩
    | str x =>
      obtain ⟨t, rfl⟩ := rx
      exact P.repr_of_str ⟨.str _, H, I.kept (t' := s.toks + 1) (fun _ _ e => e), ⟨_, rfl⟩, q⟩ hl
    | lst _ _ => exact refs rfl rx
    | tup _ _ => exact refs rfl rx
    | dic _ _ => exact refs rfl rx
end Sw

set_option Elab.async false
set_option linter.all false
set_option maxRecDepth 100000
set_option maxHeartbeats 4000000
namespace Sw
open PySem PySem.Spec PyProof.Rows L2
theorem Dq.mono {K : PySem.W.Frag} {G H : Hp} (e : Same G H) {v : V} {d : PyData} (h : Dq K G v d) : Dq K H v d := by
  refine Dq.rec (motive_1 := fun v d _ => Dq K H v d) (motive_2 := fun vs ds _ => DqAll K H vs ds) ?_ ?_ ?_ ?_ ?_ ?_ ?_ ?_ ?_ h
  · exact .non
  · exact fun b => .bl b
  · exact fun i => .int i
  · exact fun x => .str x
  · exact fun hs _ ih => .lst (Evl.ex_l e hs) ih
  · exact fun hs _ ih => .tup (Evl.ex_t e hs) ih
  · exact fun ea _ ih => .dic (e _ _ ea) ih
  · exact .nil
  · exact fun _ _ ih1 ih2 => .cons ih1 ih2
theorem DqAll.mono {K : PySem.W.Frag} {G H : Hp} (e : Same G H) : ∀ {vs : List V} {ds : List PyData}, DqAll K G vs ds → DqAll K H vs ds
  | _, _, .nil => .nil
  | _, _, .cons h1 h2 => .cons (h1.mono e) (h2.mono e)
/-- small data: repr has room -/
structure Td (d : PyData) : Prop where
  s : d.showable = true
  dp : d.depth ≤ 5
  l : d.shown.length ≤ 200
theorem g_repr {K : PySem.W.Frag} {G : Hp} {R : Res} {H : Hp} {v : V} {d : PyData} {Q : VK} (w : Wd G R H) (h : Dq K G v d) (t : Td d) (k : Q (.str d.shown) H) : qRepr K [v] H Q :=
  ⟨v, d, rfl, h.mono w.sub, t.s, Nat.le_trans t.dp (by decide), by have := t.l; rw [sizeLine_eq]; omega, k⟩
theorem g_disp {G : Hp} {R : Res} {H : Hp} {Q : VK} {σ : L2.St} {trs : List (TE × TE)} (w : Wd G R H) (k : ∀ p H1, G p = none → Wd (upd G p (.dK [])) R H1 → tPairs trs σ H1 fun ps H2 => H2 p = some (.dK []) ∧ ∃ kvs : List (Key × V), ps = kvs.map (fun kv => (kV kv.1, kv.2)) ∧ kvs.length ≤ 15 ∧ Q (.ref p) (upd H2 p (.dK (mergeK [] kvs)))) : tDisp trs σ H Q :=
  fun p hp => k p _ (w.free hp) (w.new hp)
end Sw

set_option Elab.async false
set_option linter.all false
set_option maxRecDepth 100000
set_option maxHeartbeats 4000000
namespace Sw
open PySem PySem.Spec PyProof.Rows L2
/-! ### errors made as values, in a world -/
def ErrAt (G : Hp) (a C : Addr) (fs : List (Str × V)) : Prop := (fs = [] ∧ G a = some (exo a C none)) ∨ ∃ d, G a = some (exo a C (some d)) ∧ G d = some (exd d fs)
section
variable {G G' H H' : Hp} {R : Res} {K : PySem.W.Frag} {Q : VK} {E : XK} {a d C : Addr} {o u : HO} {fs : List (Str × V)} {f f1 f2 f3 : Str} {v v1 v2 v3 : V} {σ : L2.St} {te : TE} {t tk : TA}
theorem ErrAt.same (h : ErrAt G a C fs) (e : Same G G') : ErrAt G' a C fs := by
  rcases h with ⟨h1, h2⟩ | ⟨d, h1, h2⟩
  · exact .inl ⟨h1, e _ _ h2⟩
  · exact .inr ⟨d, e _ _ h1, e _ _ h2⟩
theorem Wd.mkE (w : Wd G R H) (ha : H a = none) (hd : H d = none) (hda : d ≠ a) (e1 : H' a = some o) (e2 : H' d = some u) (e3 : ∀ b, b ≠ a → b ≠ d → H' b = H b) : Wd (upd (upd G a o) d u) R H' := by
  have w1 : Wd (upd G a o) R (upd H a o) := w.new ha
  have w2 : Wd (upd (upd G a o) d u) R (upd (upd H a o) d u) := w1.new (by rw [upd_ne hda]; exact hd)
  have : H' = upd (upd H a o) d u := by
    funext b
    by_cases hb : b = d
    · rw [hb, upd_same, e2]
    · rw [upd_ne hb]
      by_cases hb' : b = a
      · rw [hb', upd_same, e1]
      · rw [upd_ne hb', e3 b hb' hb]
  rw [this]
  exact w2
theorem mkE_err (w : Wd G R H) (ha : H a = none) (hd : H d = none) (hda : d ≠ a) : Same G (upd (upd G a (exo a C (some d))) d (exd d fs)) ∧ ErrAt (upd (upd G a (exo a C (some d))) d (exd d fs)) a C fs := by
  have ga := w.free ha
  have gd : upd G a (exo a C (some d)) d = none := by rw [upd_ne hda]; exact w.free hd
  exact ⟨Same.trans (Same.newG ga) (Same.newG gd), .inr ⟨d, by rw [upd_ne (Ne.symm hda)]; exact upd_same, upd_same⟩⟩
/-- what a made error gives -/
def MkQ (G : Hp) (R : Res) (C : Addr) (fs : List (Str × V)) (Q : VK) : Prop := ∀ a G' H', Same G G' → G a = none → ErrAt G' a C fs → Wd G' R H' → Q (.ref a) H'
theorem g_mk0 (w : Wd G R H) (k : MkQ G R C [] Q) : ∀ a, H a = none → spExc0 C [.ref a] (upd H a (exo a C none)) (fun v H3 => v = .non ∧ Q (.ref a) H3) E := fun a ha =>
  ⟨a, rfl, upd_same, rfl, k a _ _ (Same.newG (w.free ha)) (w.free ha) (.inl ⟨rfl, upd_same⟩) (w.new ha)⟩
theorem g_mk1 (w : Wd G R H) (k : MkQ G R C [(f, v)] Q) : ∀ a, H a = none → spExc1 C f [.ref a, v] (upd H a (exo a C none)) (fun v H3 => v = .non ∧ Q (.ref a) H3) E := fun a ha => by
  refine ⟨a, v, rfl, upd_same, fun d hd hda => ⟨rfl, ?_⟩⟩
  have hd' : H d = none := by rw [upd_ne hda] at hd; exact hd
  obtain ⟨s, e⟩ := mkE_err (C := C) (fs := [(f, v)]) w ha hd' hda
  refine k a _ _ s (w.free ha) e (w.mkE ha hd' hda upd_same ?_ ?_)
  · rw [upd_ne hda]; exact upd_same
  · intro b h1 h2
    rw [upd_ne h1, upd_ne h2, upd_ne h1]
theorem g_mk2 (w : Wd G R H) (k : MkQ G R C [(f2, v2), (f1, v1)] Q) : ∀ a, H a = none → spExc2 C f1 f2 [.ref a, v1, v2] (upd H a (exo a C none)) (fun v H3 => v = .non ∧ Q (.ref a) H3) E := fun a ha => by
  refine ⟨a, v1, v2, rfl, upd_same, fun d H' hd hda e1 e2 e3 => ⟨rfl, ?_⟩⟩
  have hd' : H d = none := by rw [upd_ne hda] at hd; exact hd
  obtain ⟨s, e⟩ := mkE_err (C := C) (fs := [(f2, v2), (f1, v1)]) w ha hd' hda
  exact k a _ _ s (w.free ha) e (w.mkE ha hd' hda e1 e2 fun b h1 h2 => by rw [e3 b h1 h2, upd_ne h1])
theorem g_mk3 (w : Wd G R H) (k : MkQ G R C [(f3, v3), (f2, v2), (f1, v1)] Q) : ∀ a, H a = none → spExc3 C f1 f2 f3 [.ref a, v1, v2, v3] (upd H a (exo a C none)) (fun v H3 => v = .non ∧ Q (.ref a) H3) E := fun a ha => by
  refine ⟨a, v1, v2, v3, rfl, upd_same, fun d H' hd hda e1 e2 e3 => ⟨rfl, ?_⟩⟩
  have hd' : H d = none := by rw [upd_ne hda] at hd; exact hd
  obtain ⟨s, e⟩ := mkE_err (C := C) (fs := [(f3, v3), (f2, v2), (f1, v1)]) w ha hd' hda
  exact k a _ _ s (w.free ha) e (w.mkE ha hd' hda e1 e2 fun b h1 h2 => by rw [e3 b h1 h2, upd_ne h1])
def MkC (C : Addr) (n m : Nat) (sp : SpC) (vs zs : List V) (H : Hp) (Q : VK) : Prop := vs.length = n ∧ zs.length = m ∧ n ≤ 1000 ∧ ∀ a, H a = none → sp (.ref a :: vs) zs (upd H a (exo a C none)) (fun v H3 => v = .non ∧ Q (.ref a) H3) (fun _ _ _ => False)
theorem g_mk0p {n m : Nat} (w : Wd G R H) (k : MkQ G R C [] Q) (h1 : ([] : List V).length = n := by rfl) (h2 : ([] : List V).length = m := by rfl) (h3 : n ≤ 1000 := by decide) : MkC C n m (fun vs zs => spExc0 C (vs ++ zs.reverse)) [] [] H Q := ⟨h1, h2, h3, g_mk0 w k⟩
theorem g_mk1p {n m : Nat} (w : Wd G R H) (k : MkQ G R C [(f, v)] Q) (h1 : ([v] : List V).length = n := by rfl) (h2 : ([] : List V).length = m := by rfl) (h3 : n ≤ 1000 := by decide) : MkC C n m (fun vs zs => spExc1 C f (vs ++ zs.reverse)) [v] [] H Q := ⟨h1, h2, h3, g_mk1 w k⟩
theorem g_mk1k {n m : Nat} (w : Wd G R H) (k : MkQ G R C [(f, v)] Q) (h1 : ([] : List V).length = n := by rfl) (h2 : ([v] : List V).length = m := by rfl) (h3 : n ≤ 1000 := by decide) : MkC C n m (fun vs zs => spExc1 C f (vs ++ zs.reverse)) [] [v] H Q := ⟨h1, h2, h3, g_mk1 w k⟩
theorem g_mk2p {n m : Nat} (w : Wd G R H) (k : MkQ G R C [(f2, v2), (f1, v1)] Q) (h1 : ([v1, v2] : List V).length = n := by rfl) (h2 : ([] : List V).length = m := by rfl) (h3 : n ≤ 1000 := by decide) : MkC C n m (fun vs zs => spExc2 C f1 f2 (vs ++ zs.reverse)) [v1, v2] [] H Q := ⟨h1, h2, h3, g_mk2 w k⟩
theorem g_mk2k {n m : Nat} (w : Wd G R H) (k : MkQ G R C [(f2, v2), (f1, v1)] Q) (h1 : ([] : List V).length = n := by rfl) (h2 : ([v2, v1] : List V).length = m := by rfl) (h3 : n ≤ 1000 := by decide) : MkC C n m (fun vs zs => spExc2 C f1 f2 (vs ++ zs.reverse)) [] [v2, v1] H Q := ⟨h1, h2, h3, g_mk2 w k⟩
theorem g_mk3p {n m : Nat} (w : Wd G R H) (k : MkQ G R C [(f3, v3), (f2, v2), (f1, v1)] Q) (h1 : ([v1, v2, v3] : List V).length = n := by rfl) (h2 : ([] : List V).length = m := by rfl) (h3 : n ≤ 1000 := by decide) : MkC C n m (fun vs zs => spExc3 C f1 f2 f3 (vs ++ zs.reverse)) [v1, v2, v3] [] H Q := ⟨h1, h2, h3, g_mk3 w k⟩
theorem g_mk3k {n m : Nat} (w : Wd G R H) (k : MkQ G R C [(f3, v3), (f2, v2), (f1, v1)] Q) (h1 : ([] : List V).length = n := by rfl) (h2 : ([v3, v2, v1] : List V).length = m := by rfl) (h3 : n ≤ 1000 := by decide) : MkC C n m (fun vs zs => spExc3 C f1 f2 f3 (vs ++ zs.reverse)) [] [v3, v2, v1] H Q := ⟨h1, h2, h3, g_mk3 w k⟩
theorem g_excG {n m : Nat} {sp : SpC} (k : t σ H fun vs H1 => tk σ H1 fun zs H2 => MkC C n m sp vs zs H2 Q) : tExcG C n m sp t tk σ H Q := k
theorem g_tXv (k : te σ H fun x H1 => ∃ (a C dd : Addr) (fs : List (Str × V)) (v : V), x = .ref a ∧ ExAt H1 a C (some dd) ∧ DxAt H1 dd fs ∧ XfC K C ∧ PySem.W.findIn K (.ref C) f = some none ∧ fs.lookup f = some v ∧ Q v H1) : tXv K f te σ H Q := k
theorem g_isV {c : V} {cv : Value} {b : Bool} (w : Wd G R H) (h : ErrAt G a C fs) (ec : ExcC K C) (hc : ∀ u, RelV c u → u = cv) (hk : PySem.W.kitOne K (.ref C) cv = some b) (k : Q (.bl b) H) : rIsV K [.ref a, c] H Q := by
  rcases h with ⟨h1, h2⟩ | ⟨d, h1, h2⟩
  · exact ⟨a, C, none, c, cv, b, rfl, .inl (w.get h2), fun _ z => (nomatch z), ec, hc, hk, k⟩
  · exact ⟨a, C, some d, c, cv, b, rfl, .inl (w.get h1), fun dd z => ⟨fs, by cases z; exact .inl (w.get h2)⟩, ec, hc, hk, k⟩
theorem g_xv {P : V → Prop} (w : Wd G R H) (h : ErrAt G a C fs) (xf : XfC K C) (hno : PySem.W.findIn K (.ref C) f = some none) (hl : fs.lookup f = some v) (k : P v) :
    ∃ (a' C' dd : Addr) (fs' : List (Str × V)) (v' : V), V.ref a = .ref a' ∧ ExAt H a' C' (some dd) ∧ DxAt H dd fs' ∧ XfC K C' ∧ PySem.W.findIn K (.ref C') f = some none ∧ fs'.lookup f = some v' ∧ P v' := by
  rcases h with ⟨rfl, h2⟩ | ⟨d, h1, h2⟩
  · cases hl
  · exact ⟨a, C, d, fs, v, rfl, .inl (w.get h1), .inl (w.get h2), xf, hno, hl, k⟩
theorem g_pairs1 {P : List (V × V) → Hp → Prop} {t1 t2 : TE} {r : List (TE × TE)} (k : t1 σ H fun x H1 => t2 σ H1 fun y H2 => tPairs r σ H2 fun ps H3 => P ((x, y) :: ps) H3) : tPairs ((t1, t2) :: r) σ H P := k
theorem g_pairs0 {P : List (V × V) → Hp → Prop} (k : P [] H) : tPairs [] σ H P := k
theorem g_abs {i : Int} (k : Q (.int (if i < 0 then -i else i)) H) : (fun xs H Q => ∃ i, xs = [V.int i] ∧ Q (.int (if i < 0 then -i else i)) H : List V → Hp → VK → Prop) [.int i] H Q := ⟨i, rfl, k⟩
end
/-- a new object; what is known grows by it -/
theorem g_newA {G H : Hp} {R : Res} {Q : VK} (w : Wd G R H) {o : HO} {n : Nat} (hz : n ≤ sizeLine) (k : ∀ p G' H', G p = none → Same G G' → G' p = some o → Wd G' R H' → Q (.ref p) H') : n ≤ sizeLine ∧ NewO o H Q :=
  ⟨hz, fun p hp => k p _ _ (w.free hp) (Same.newG (w.free hp)) upd_same (w.new hp)⟩
theorem g_newO {G H : Hp} {R : Res} {Q : VK} (w : Wd G R H) {o : HO} (k : ∀ p G' H', G p = none → Same G G' → G' p = some o → Wd G' R H' → Q (.ref p) H') : NewO o H Q :=
  fun p hp => k p _ _ (w.free hp) (Same.newG (w.free hp)) upd_same (w.new hp)
theorem g_addLA {G H : Hp} {R : Res} {Q : VK} {K : PySem.W.Frag} {a b : Addr} {xs ys : List V} (w : Wd G R H) (h1 : G a = some (.lst xs)) (h2 : G b = some (.lst ys)) (hz : xs.length + ys.length ≤ sizeLine) (k : ∀ p G' H', G p = none → Same G G' → G' p = some (.lst (xs ++ ys)) → Wd G' R H' → Q (.ref p) H') : aAdd K (.ref a) (.ref b) H Q :=
  g_addL w h1 h2 hz fun p H' n w' => k p _ H' n (Same.newG n) upd_same w'
theorem g_slLA {G H : Hp} {R : Res} {Q : VK} {K : PySem.W.Frag} {a : Addr} {xs : List V} {lo hi : Option Int} (w : Wd G R H) (h : SqL K G a xs) (k : ∀ p G' H', G p = none → Same G G' → G' p = some (.lst (cutV xs lo hi)) → Wd G' R H' → Q (.ref p) H') : aSl K (.ref a) lo hi H Q :=
  g_slL w h fun p H' n w' => k p _ H' n (Same.newG n) upd_same w'
/-- a list changed: what was known of others stays -/
theorem Same.setL {G0 G : Hp} {l : Addr} {o : HO} (e : Same G0 G) (n : G0 l = none) : Same G0 (upd G l o) := fun b u h => by
  rw [upd_ne (ne_of_none h n)]
  exact e b u h
theorem ErrAt.setL {G : Hp} {a C l : Addr} {fs : List (Str × V)} {xs ys : List V} (h : ErrAt G a C fs) (hl : G l = some (.lst xs)) : ErrAt (upd G l (.lst ys)) a C fs := by
  have key : ∀ {b : Addr} {phi}, G b = some (.ext phi) → b ≠ l := fun {b phi} e z => by
    rw [z, hl] at e
    cases e
  rcases h with ⟨h1, h2⟩ | ⟨d, h1, h2⟩
  · exact .inl ⟨h1, by rw [upd_ne (key h2)]; exact h2⟩
  · exact .inr ⟨d, by rw [upd_ne (key h1)]; exact h1, by rw [upd_ne (key h2)]; exact h2⟩
theorem hu120 {k : Nat} {A : Around} (h : Room k A) : A.units + 120 < cLine := by have := h.un; omega
/-! ### small data -/
structure Tz (n : Nat) (d : PyData) : Prop where
  s : d.showable = true
  dp : d.depth ≤ 6
  l : d.shown.length ≤ n
theorem g_reprZ {K : PySem.W.Frag} {G : Hp} {R : Res} {H : Hp} {v : V} {d : PyData} {Q : VK} {n : Nat} (w : Wd G R H) (h : Dq K G v d) (t : Tz n d) (hn : n ≤ 100000) (k : Q (.str d.shown) H) : qRepr K [v] H Q :=
  ⟨v, d, rfl, h.mono w.sub, t.s, Nat.le_trans t.dp (by decide), by have := t.l; rw [sizeLine_eq]; omega, k⟩
end Sw

set_option Elab.async false
set_option linter.all false
set_option maxRecDepth 100000
set_option maxHeartbeats 4000000
namespace Sw
open PySem PySem.Spec PyProof.Rows L2
/-! ### set(t), t a tuple of keys of one kind: how many different ones there are -/
section
variable {κ : Type} [DecidableEq κ]
def dcnt (ks : List κ) : Nat → Nat
  | 0 => 0
  | i + 1 => match ks[i]? with
    | some k => if k ∈ ks.take i then dcnt ks i else dcnt ks i + 1
    | none => dcnt ks i
theorem dcnt_le (ks : List κ) : ∀ i, dcnt ks i ≤ i
  | 0 => Nat.le_refl _
  | i + 1 => by
    have := dcnt_le ks i
    unfold dcnt
    split
    · split <;> omega
    · omega
theorem dcnt_take (ks : List κ) : ∀ i, i ≤ ks.length → (dcnt ks i = i ↔ (ks.take i).Nodup)
  | 0, _ => by simp [dcnt]
  | i + 1, h => by
    have ih := dcnt_take ks i (by omega)
    have le := dcnt_le ks i
    have e : ks[i]? = some ks[i] := List.getElem?_eq_getElem (by omega)
    unfold dcnt
    rw [e, List.take_add_one, e]
    simp only [Option.toList_some]
    rw [List.nodup_append]
    by_cases m : ks[i] ∈ ks.take i
    · rw [if_pos m]
      constructor
      · intro z; omega
      · intro z
        exact absurd rfl (z.2.2 _ m _ (List.mem_singleton.mpr rfl))
    · rw [if_neg m]
      constructor
      · intro z
        refine ⟨ih.mp (by omega), by simp, fun a ha b hb z => ?_⟩
        rw [List.mem_singleton] at hb
        subst hb
        subst z
        exact m ha
      · intro z
        have := ih.mpr z.1
        omega
theorem dcnt_nodup (ks : List κ) : dcnt ks ks.length = ks.length ↔ ks.Nodup := by
  rw [dcnt_take ks ks.length (Nat.le_refl _), List.take_length]
end
section
variable {prog : Program} {w : World} {A : Around} {R : Result → Shared → Prop} {κ : Type} [DecidableEq κ] {knd : KeyKind prog w κ} {I : Addr} {fp wr : List Addr} {G : Array GenState → Array GenState → Prop} {n : Nat} {Pv : Nat → Value → Prop} {St : Nat → Shared → Prop}
theorem set_congr {h : Heap} {a : Addr} {S S' : κ → Bool} {n n' : Nat} (x : h.SetOf knd a S n) (e : ∀ k, S k = S' k) (en : n = n') : h.SetOf knd a S' n' := by
  obtain rfl : S = S' := funext e
  subst en
  exact x
theorem set_keep {h h' : Heap} {a : Addr} {S : κ → Bool} {n : Nat} (x : h.SetOf knd a S n) (k : ∀ o, h.get? a = some o → h'.get? a = some o) : h'.SetOf knd a S n := by
  obtain ⟨o, es, ep, t, ho, z⟩ := x
  exact ⟨o, es, ep, t, k o ho, z⟩
theorem set_upd (W : WalksS prog w A.in1 I fp wr G n Pv St) (S : Addr) (out : S ∉ fp) (ks : List κ) (hn : n = ks.length) (room : ks.length + 1 < scanBound) (hval : ∀ i v, Pv i v → ∃ k, ks[i]? = some k ∧ knd.is k v = true ∧ v.scannable = true) :
    ∀ (j i : Nat) (s : Shared), n - i = j → i ≤ n → St i s → s.heap.SetOf knd S (fun k => decide (k ∈ ks.take i)) (dcnt ks i) →
      (∀ s', Moved (S :: wr) G s s' → s'.heap.SetOf knd S (fun k => decide (k ∈ ks.take n)) (dcnt ks n) → R (.ok (.ret .none)) s') → codeAny (model prog w) A (.builtin "set.update.loop" ⟨[.ref S, .ref I], []⟩) R s := by
  have outW : S ∉ wr := fun z => out (W.sub _ z)
  have more : ∀ b ∈ wr, b ∈ S :: wr := fun b z => List.mem_cons_of_mem _ z
  intro j
  induction j with
  | zero =>
    intro i s hj hi st hS fin
    obtain rfl : i = n := by omega
    refine codeAny_builtin F.entry_set_update_loop ?_
    rw [Around.under_plainId F.plain_set_update_loop _]
    show wpAny _ A.in1 (pyNext (.ref I) >>= _) _ _ s
    refine wpAny_bind (W.done s _ _ st fun s' mv => ?_)
    exact wpAny_pure (fin s' (mv.mono more) (set_keep hS fun o z => mv.heap S _ outW z))
  | succ j ih =>
    intro i s hj hi st hS fin
    have lt : i < n := by omega
    refine codeAny_builtin F.entry_set_update_loop ?_
    rw [Around.under_plainId F.plain_set_update_loop _]
    show wpAny _ A.in1 (pyNext (.ref I) >>= _) _ _ s
    refine wpAny_bind (W.item i s _ _ lt st fun v s' hP st' mv => ?_)
    obtain ⟨k, hk, isk, sck⟩ := hval i v hP
    have hS' := set_keep hS (h' := s'.heap) fun o z => mv.heap S _ outW z
    have cle := dcnt_le ks i
    show wpAny _ A.in1 (holding [v] (setAdd S v) >>= _) _ _ s'
    refine wpAny_bind (wpAny_holding ?_)
    unfold setAdd
    refine wpAny_holding ?_
    refine wpAny_bind (knd.pyHash (k := k) isk ?_)
    refine wpAny_setAddHashed_of (knd := knd) (s := { s' with toks := s'.toks + 1 }) isk sck hS' (by omega) fun h' sb hS2 => ?_
    have e1 : dcnt ks (i + 1) = if k ∈ ks.take i then dcnt ks i else dcnt ks i + 1 := by
      conv => lhs; unfold dcnt
      rw [hk]
    have hS3 : h'.SetOf knd S (fun k => decide (k ∈ ks.take (i + 1))) (dcnt ks (i + 1)) := set_congr hS2 (fun k' => by
      rw [List.take_add_one, hk]
      simp) (by rw [e1]; simp)
    refine wpAny_pure ⟨plainId_quiet F.plain_set_update_loop _, ih (i + 1) _ (by omega) lt (W.frame _ s' _ _ st' (Nat.le_succ _) fun b hb o z => ?_) hS3 fun s'' mv'' hS'' => ?_⟩
    · rw [sb.2 b fun q => out (by rw [← q]; exact hb)]
      exact z
    · refine fin s'' (Moved.trans W.gtrans ((mv.mono more).then_heap (Nat.le_succ _) fun b o hb z => ?_) mv'') hS''
      rw [sb.2 b fun q => hb (by rw [q]; exact List.mem_cons_self)]
      exact z
end
section
variable {prog : Program} {w : World} {A : Around} {E : Value → Shared → Prop} {s : Shared} {κ : Type} [DecidableEq κ] {knd : KeyKind prog w κ}
set_option maxHeartbeats 8000000 in
theorem call_set_tup {l : Addr} {items : Array Value} {ks : List κ} {Q : Value → Shared → Prop} (hh : A.handled = none) (hl : s.heap.IsTuple l items) (hz : ks.length = items.size) (room : ks.length + 1 < scanBound) (hval : ∀ (i : Nat) (v : Value), items[i]? = some v → ∃ k, ks[i]? = some k ∧ knd.is k v = true ∧ v.scannable = true)
    (fin : ∀ (h' : Heap) (tk : Nat), h'.SetOf knd s.heap.objs.size (fun k => decide (k ∈ ks.take items.size)) (dcnt ks items.size) → (∀ b o, b < s.heap.objs.size → s.heap.get? b = some o → h'.get? b = some o) → Q (.ref s.heap.objs.size) { s with heap := h', toks := tk }) :
    wpAny (model prog w) A (call (.type "set") [.ref l]) Q E s := by
  obtain ⟨c, tl, hmro⟩ := PySem.F.called_set.mro
  have hmade := PySem.F.called_set.made
  have hsub := PySem.F.called_set.sub
  refine wpAny_call (codeAny_of_tree ?_)
  show wpAny _ _ (callAny (.type "set") _) _ _ _
  refine wpAny_pure ⟨Code.quiet_builtin _ (by decide +kernel), codeAny_builtin PySem.F.entry_type_call ?_⟩
  rw [Around.under_plain (weight_type_call_type "set" [.ref l] []) rfl]
  have q1 := PySem.F.called_set.notType
  have q2 := PySem.F.called_set.canCreate
  have q3 := PySem.F.typeCall_set_1 (.ref l)
  repeat (any_goals (first | assumption | wp_step))
  refine codeAny_mono (code_set_new_1 (.ref l) (E := E) (Q₁ := fun obj s₁ => ∃ led : Bool, obj = .ref s.heap.objs.size ∧ s₁ = { s with heap := s.heap.push { cls := .type "set", dict := none, data := .set #[] 0 (.fresh 0 0 led) } }) fun led => ⟨led, rfl, rfl⟩) fun r s₁ hr => ?_
  cases r with
  | error e => exact hr
  | ok fl =>
    cases fl with
    | next => exact hr.elim
    | brk => exact hr.elim
    | cont => exact hr.elim
    | ret obj =>
      obtain ⟨led, rfl, rfl⟩ := hr
      have hS : (s.heap.push { cls := .type "set", dict := none, data := .set #[] 0 (.fresh 0 0 led) }).get? s.heap.objs.size = some { cls := .type "set", dict := none, data := .set #[] 0 (.fresh 0 0 led) } := Heap.get?_push_size _ rfl
      have hT : Shared.TypeIs { s with heap := s.heap.push { cls := .type "set", dict := none, data := .set #[] 0 (.fresh 0 0 led) } } (.ref s.heap.objs.size) "set" := ⟨_, hS, rfl⟩
      have hli := PySem.F.called_set.init.lookup
      have hbi := PySem.F.called_set.init.bind (.ref s.heap.objs.size)
      repeat (any_goals (first | assumption | wp_step))
      refine codeAny_mono (codeAny_call_builtin (R := wants (fun r s₂ => r = .none ∧ ∃ h' tk, s₂ = { s with heap := h', toks := tk } ∧
          h'.SetOf knd s.heap.objs.size (fun k => decide (k ∈ ks.take items.size)) (dcnt ks items.size) ∧
          (∀ b o, b < s.heap.objs.size → s.heap.get? b = some o → h'.get? b = some o)) E) PySem.F.called_set.init.plain PySem.F.entry_set_init (check_set_init_1 hT ?_)) fun r₂ s₂ hr₂ => ?_
      · obtain ⟨⟨cl', di', da', sl'⟩, hol, hcl, nl, hdl⟩ := hl
        simp only at hcl hdl
        subst hcl hdl
        have hol' : (s.heap.push { cls := .type "set", dict := none, data := .set #[] 0 (.fresh 0 0 led) }).get? l = some { cls := .type "tuple", dict := di', data := .seq items nl, slots := sl' } := Heap.get?_push_of_some _ hol
        have z1 := PySem.F.sub_tuple_set
        have z2 := PySem.F.sub_tuple_frozenset
        have z3 : (Value.type "tuple" == Value.type "dict") = false := by decide
        have hl1 : (s.heap.push { cls := .type "set", dict := none, data := .set #[] 0 (.fresh 0 0 led) }).IsTuple l items := ⟨_, hol', rfl, nl, rfl⟩
        unfold Builtin.«set.__init__» noKeywords Builtin.Frozenset.updateFrom
        generalize hPI : pyIter = PI
        wp_walk
        subst hPI
        refine wpAny_pyIter_tuple hl1 ?_
        refine wpAny_bind (wpAny_runValue ?_)
        have lt := Heap.lt_size hol
        have hh3 : A.in1.in1.in1.handled = none := by simp [hh]
        have ne1 : l ≠ (s.heap.push { cls := .type "set", dict := none, data := .set #[] 0 (.fresh 0 0 led) }).objs.size := by
          rw [Heap.size_push]
          exact Nat.ne_of_lt (Nat.lt_succ_of_lt lt)
        have nf : s.heap.objs.size ∉ [(s.heap.push { cls := .type "set", dict := none, data := .set #[] 0 (.fresh 0 0 led) }).objs.size, l] := by
          rw [Heap.size_push]
          simp only [List.mem_cons, List.mem_singleton, List.not_mem_nil, or_false, not_or]
          exact ⟨Nat.ne_of_lt (Nat.lt_succ_self _), Nat.ne_of_gt lt⟩
        refine set_upd (knd := knd) ((Walks.tuple hh3 _ l ne1 items).toS) s.heap.objs.size nf ks hz.symm room hval (items.size - 0) 0 _ (by omega) (Nat.zero_le _) ⟨⟨_, Heap.get?_push_size _ rfl, rfl, rfl⟩, (hl1.push _)⟩ ?begin ?finish
        case begin =>
          have hget : ((s.heap.push { cls := .type "set", dict := none, data := .set #[] 0 (.fresh 0 0 led) }).push { cls := .type "tuple_iterator", data := .fields #[.ref l, .int 0 0] }).get? s.heap.objs.size
              = some { cls := .type "set", dict := none, data := .set #[] 0 (.fresh 0 0 led) } := Heap.get?_push_of_some _ hS
          exact set_congr ((PyProof.Rows.setObjOf_fresh (knd := knd) led).setOf hget (by unfold scanBound; omega)) (fun _ => by simp) rfl
        case finish =>
          intro s' mv hS'
          obtain ⟨h', g', d', tk', os'⟩ := s'
          have eg : g' = s.gens := mv.gens
          have ed : d' = s.drawn := mv.drawn
          have eo : os' = s.os := mv.os
          subst eg ed eo
          show wpAny _ _ _ _ _ _
          refine wpAny_pure ?_
          show wpAny _ _ (ret Value.none) _ _ _
          refine wpAny_pure ⟨rfl, h', tk', rfl, hS', fun b o hb z => ?_⟩
          have ne2 : b ≠ (s.heap.push { cls := .type "set", dict := none, data := .set #[] 0 (.fresh 0 0 led) }).objs.size := by
            rw [Heap.size_push]
            exact Nat.ne_of_lt (Nat.lt_succ_of_lt hb)
          have k1 := Heap.get?_push_of_some ({ cls := .type "set", dict := none, data := .set #[] 0 (.fresh 0 0 led) } : Obj) z
          exact mv.heap b o (by simp only [List.mem_cons, List.mem_singleton, List.not_mem_nil, or_false, not_or]; exact ⟨Nat.ne_of_lt hb, ne2⟩) (Heap.get?_push_of_some _ k1)
      · cases r₂ with
        | error e => exact hr₂
        | ok fl₂ =>
          cases fl₂ with
          | ret r =>
            obtain ⟨rfl, h', tk, rfl, hS', hk'⟩ := hr₂
            repeat (any_goals (first | assumption | wp_step))
            exact fin _ _ hS' hk'
          | next => exact hr₂.elim
          | brk => exact hr₂.elim
          | cont => exact hr₂.elim
end
/-- len(set(t)), t a tuple of texts -/
def tLenSetT (K : PySem.W.Frag) (ta : TE) : TE := fun σ H Q => ta σ H fun x H1 => ∃ l, ∃ xs : List Str, x = .ref l ∧ SqT K H1 l (xs.map V.str) ∧ xs.length ≤ 20 ∧ Q (.int (dcnt xs xs.length)) H1
theorem pe_lenSetT {X : Cx} {a : Expr} {ta : TE} {p p2 q pos : Pos} (K : PySem.W.Frag) (hc : X.calm = true) (hg : Gl X "len") (hm : X.mg "len" = none) (hg2 : Gl X "set") (hm2 : X.mg "set" = none) (ha : PE X a ta) (hK : X.K = K := by rfl)
    (na : starEach [a] X.env = (false, eval a X.env) :: starEach [] X.env := by rfl) : PE X (.Call (.Name "len" p) [.Call (.Name "set" p2) [a] [] q] [] pos) (tLenSetT K ta) := by
  subst hK
  refine ⟨fun pins s σ H Q I h => ?_⟩
  refine Call_ (ld_blt I hg hm boot_len ?_)
  refine PyProof.Rows.callWith_builtin1 (PyProof.Rows.args_cons ?_ rfl) rfl rfl
  refine Call_ (ld_blt I hg2 hm2 boot_set ?_)
  refine PyProof.Rows.callWith_type1 (PyProof.Rows.args_cons (thn (ha.run pins s σ H _ I h) fun v s1 ⟨x, H1, I1, r1, q1⟩ => PyProof.Rows.args_nil ?_) na) na rfl
  obtain ⟨l, xs, rfl, hq, hx, q1⟩ := q1
  cases r1
  obtain ⟨its, r, pl, hz⟩ := I1.tuple hq
  have sa := strsAre_of r
  have le : its.length = xs.length := by rw [← r.length, List.length_map]
  refine call_set_tup (knd := PySem.strKind X.prog X.w) (ks := xs) (I1.ok.hd hc) pl (by rw [List.size_toArray, le]) (by unfold scanBound; omega) (fun i v hv => ?_) fun h' tk hS hk => ?_
  · have hv' : its[i]? = some v := by simpa using hv
    obtain ⟨t, e⟩ := SS.strs_at sa i v hv'
    have hi : i < xs.length := by rw [← le]; exact (List.getElem?_eq_some_iff.mp hv').1
    refine ⟨xs[i], List.getElem?_eq_getElem hi, ?_, ?_⟩
    · rw [e, List.getD_eq_getElem?_getD, List.getElem?_eq_getElem hi]
      exact strKind_is _ _ _ _
    · rw [e]; rfl
  · refine PyProof.Rows.args_nil ?_
    rw [show its.toArray.size = xs.length by rw [List.size_toArray, le]] at hS
    obtain ⟨o, es, ep, t, ho, hex, hd, _, _, _, hf, hn⟩ := hS
    have I2 : Inv X pins σ H1 { s1 with heap := h', toks := tk } := I1.kept fun b o e => hk b o (Heap.lt_size e) e
    have := dcnt_le xs xs.length
    refine call_len_set ho hex hd hf (by rw [hn]; omega) ⟨.int (dcnt xs xs.length), H1, I2.tok _, ⟨_, by rw [hn]⟩, q1⟩
theorem g_lenSetT {G H : Hp} {R : Res} {K : PySem.W.Frag} {Q : VK} {l : Addr} {xs : List Str} (w : Wd G R H) (h : SqT K G l (xs.map V.str)) (hx : xs.length ≤ 20) (k : Q (.int (dcnt xs xs.length)) H) :
    ∃ l', ∃ ys : List Str, V.ref l = .ref l' ∧ SqT K H l' (ys.map V.str) ∧ ys.length ≤ 20 ∧ Q (.int (dcnt ys ys.length)) H := ⟨l, xs, rfl, Evl.ex_t w.sub h, hx, k⟩
/-! ### xs == [] -/
def rEqL0 (K : PySem.W.Frag) : R2 := fun x y H Q => ∃ a b xs, x = .ref a ∧ y = .ref b ∧ SqL K H a xs ∧ SqL K H b [] ∧ Q (.bl xs.isEmpty) H
def rNeL0 (K : PySem.W.Frag) : R2 := fun x y H Q => ∃ a b xs, x = .ref a ∧ y = .ref b ∧ SqL K H a xs ∧ SqL K H b [] ∧ Q (.bl (!xs.isEmpty)) H
theorem op_eqL0 {X : Cx} (K : PySem.W.Frag) (hu : X.A.units + 64 < cLine) (hK : X.K = K := by rfl) : OpR X (compareOp .Eq) (rEqL0 K) := by
  subst hK
  intro pins s σ H x y v u Q I rx ry h
  obtain ⟨a, b, xs, rfl, rfl, ha, hb, q⟩ := h
  cases xs with
  | nil => exact op_eqF hu pins s σ H _ _ v u Q I rx ry ⟨a, b, [], [], rfl, rfl, ha, hb, rfl, rfl, q⟩
  | cons x xs =>
    cases rx
    cases ry
    obtain ⟨i1, r1, p1, z1⟩ := I.list ha
    obtain ⟨i2, r2, p2, z2⟩ := I.list hb
    have l1 := r1.length
    have l2 := r2.length
    refine SeqAt.RcAt.lists_lengths (A := X.A) p1.isList p2.isList (by simp only [List.size_toArray]; rw [← l1, ← l2]; simp) (by omega) X.prog X.w _ _ ?_
    exact ⟨.bl _, H, I, rfl, q⟩
theorem op_neL0 {X : Cx} (K : PySem.W.Frag) (hu : X.A.units + 64 < cLine) (hK : X.K = K := by rfl) : OpR X (compareOp .NotEq) (rNeL0 K) := by
  subst hK
  intro pins s σ H x y v u Q I rx ry h
  obtain ⟨a, b, xs, rfl, rfl, ha, hb, q⟩ := h
  cases xs with
  | nil => exact op_neF hu pins s σ H _ _ v u Q I rx ry ⟨a, b, [], [], rfl, rfl, ha, hb, rfl, rfl, q⟩
  | cons x xs =>
    cases rx
    cases ry
    obtain ⟨i1, r1, p1, z1⟩ := I.list ha
    obtain ⟨i2, r2, p2, z2⟩ := I.list hb
    have l1 := r1.length
    have l2 := r2.length
    refine SeqAt.RcNeAt.lists_lengths (A := X.A) p1.isList p2.isList (by simp only [List.size_toArray]; rw [← l1, ← l2]; simp) (by omega) X.prog X.w _ _ ?_
    exact ⟨.bl _, H, I, rfl, q⟩
theorem g_eqL0 {G H : Hp} {R : Res} {K : PySem.W.Frag} {Q : VK} {a b : Addr} {xs : List V} (w : Wd G R H) (h1 : SqL K G a xs) (h2 : SqL K G b []) (k : Q (.bl xs.isEmpty) H) : rEqL0 K (.ref a) (.ref b) H Q := ⟨a, b, xs, rfl, rfl, Evl.ex_l w.sub h1, Evl.ex_l w.sub h2, k⟩
theorem g_neL0 {G H : Hp} {R : Res} {K : PySem.W.Frag} {Q : VK} {a b : Addr} {xs : List V} (w : Wd G R H) (h1 : SqL K G a xs) (h2 : SqL K G b []) (k : Q (.bl (!xs.isEmpty)) H) : rNeL0 K (.ref a) (.ref b) H Q := ⟨a, b, xs, rfl, rfl, Evl.ex_l w.sub h1, Evl.ex_l w.sub h2, k⟩
end Sw

set_option Elab.async false
set_option linter.all false
set_option maxRecDepth 100000
set_option maxHeartbeats 4000000
namespace Sw
open PySem PySem.Spec PyProof.Rows L2
/-! ### an exception leaves a list comprehension -/
theorem noteB {M : Model} {A : Around} {E : Value → Shared → Prop} {env : Env} {outer : List Env} {s : Shared} {B : Heap} {Z : Obj → Prop} {a C L : Addr} {Q : Unit → Shared → Prop} (hZ : HandSPX.Steady Z) (hfr : A.frames = some (env :: outer)) (hf : env.frame = some L) (hC : C ≠ L)
    (hh : HandSPX.HeldZ B (env :: outer) a Z C s.heap) (hQ : ∀ h', HandSPX.HeldZ B (env :: outer) a Z L h' → s.heap.UpToSlots h' → Q () { s with heap := h' }) : wpAny M A (noteFrame (.ref a) env) Q E s := by
  obtain ⟨kb, na, ff, x, vs, t, y, ts, ex, zx, dx, x1, nt, ta, et, dt, t3⟩ := hh
  have ne1 : (Value.ref t != Value.none) = true := by simp
  have ne2 : ¬ ((rawInt C == rawInt L) = true) := by simp [rawInt]; exact fun z => hC (Int.ofNat.inj z)
  unfold noteFrame
  simp only [hf]
  refine wpAny_bind (wpAny_field ex dx x1 ?_)
  rw [if_pos ne1]
  refine wpAny_bind (wpAny_field et dt t3 ?_)
  rw [if_neg ne2]
  have l3 := (Array.getElem?_eq_some_iff.mp t3).1
  have l1 := (Array.getElem?_eq_some_iff.mp x1).1
  refine wpAny_bind (wpAny_setField et dt l3 ?_)
  have oth : ∀ b, b ≠ t → (s.heap.update t (Obj.mapFields (·.setIfInBounds 3 Value.none))).get? b = s.heap.get? b := fun b hb => Heap.get?_update_other _ _ fun z => hb z.symm
  have nrec : ∀ b o, s.heap.get? b = some o → (∀ us, o.data ≠ .fields us) → b ≠ t := fun b o hb hn z => by
    subst z
    rw [et] at hb
    cases hb
    exact hn ts dt
  have inB : ∀ b o, B.get? b = some o → b ≠ t := fun b o e z => by
    subst z
    rw [nt] at e
    cases e
  have ffs := ff.of_keeps (h' := s.heap.update t (Obj.mapFields (·.setIfInBounds 3 Value.none))) fun b o hb hn => ⟨o, (oth b (nrec b o hb hn)).trans hb, rfl⟩
  have exs := (oth a fun z => ta z.symm).trans ex
  refine HandSPX.wpAny_entryZ hZ hfr ffs hf exs (fun b o e => (oth b (inB b o e)).trans (kb b o e)) na dx l1 zx fun h' hN => ?_
  obtain ⟨q1, q2, q3, q4⟩ := hN
  exact hQ h' ⟨q1, na, q2, q3⟩ fun b o hb hn => q4 b o ((oth b (nrec b o hb hn)).trans hb) hn
theorem skyB {M : Model} {A : Around} {E : Value → Shared → Prop} {env : Env} {outer : List Env} {s : Shared} {B : Heap} {Z : Obj → Prop} {a C L : Addr} {Q : Unit → Shared → Prop} (hZ : HandSPX.Steady Z) (hfr : A.frames = some (env :: outer)) (hf : env.frame = some L) (hC : C ≠ L)
    (x : Sky B (env :: outer) a Z C s.heap) (hQ : ∀ h', HandSPX.HeldZ B (env :: outer) a Z L h' → s.heap.UpToSlots h' → Q () { s with heap := h' }) : wpAny M A (noteFrame (.ref a) env) Q E s := by
  rcases x with ⟨hB, hn, hl, oe, vs, he, hz, hd, h1⟩ | fl | hh
  · exact HandSPX.look_newZ hZ hfr hl hf he hB hn hd h1 hz hQ
  · exact HandSPX.looks_onZ hZ hfr hf fl hQ
  · exact noteB hZ hfr hf hC hh hQ
section
variable {X : Cx} {pins : List (Addr × Obj)} {σ : L2.St} {H3 : Hp} {s3 s' : Shared} {scope : Scope} {ce : Env} {fp : List Addr} {E : Value → Shared → Prop} {Wo : WX} {u : Value}
theorem lcX_out (I3 : Inv X pins σ H3 s3) (hs : X.stack = X.env :: X.outer) (hf : X.env.frame = some X.env.locals) (tw : Takes X Wo) (hcf : ce.frame = X.env.frame) (cL : ce.locals = s3.heap.objs.size) (f3 : ∀ b ∈ fp, FpOk X pins H3 b ∧ b < s3.heap.objs.size)
    (x : XE ((X.blk s3 H3 scope ce fp).wish E) (fun cls d _ H' => Wo cls d σ H') u s') : notedBy (model X.prog X.w) X.A ce (CompFails (model X.prog X.w) X.A X.xe ce) u s' := by
  obtain ⟨a, B, sI, pins', σ', H', cls, d, rfl, J', nb, up, sky, na, os, ag, hw⟩ := x
  have J : Inv (X.blk s3 H3 scope ce fp) pins' σ' H' sI := J'.unwish
  have hfr : X.A.frames = some (X.env :: X.outer) := by rw [I3.ok.frames, hs]
  have sky' : Sky B (X.env :: X.outer) a (Zc cls d) ce.locals s'.heap := by rw [← hs]; exact sky
  have nb' : ∀ b o, sI.heap.get? b = some o → b ∉ frs X.stack → B.get? b = some o := nb
  have hCL : ce.locals ≠ X.env.locals := by
    rw [cL]
    exact Nat.ne_of_gt I3.lt
  obtain ⟨m, hns, _⟩ := J.loc
  have hns' : sI.heap.Ns ce.locals m := hns
  -- back in the def
  have I7 : Inv X pins σ H' sI := I3.call' (ch := fp) J.os J.base J.hok J.bare fun b hb => ⟨(f3 b hb).1.2.2.2.1, (f3 b hb).1.2.1, (f3 b hb).1.2.2.2.2.1, (f3 b hb).1.2.2.2.2.2⟩
  have nC : H' s3.heap.objs.size = none := by
    have z : H' ce.locals = none := J.free
    rw [cL] at z
    exact z
  obtain ⟨f0, f1, f2, f4, f5, f6⟩ := I3.fpOk (Nat.le_refl _) nC
  obtain ⟨GI, g1, g2⟩ := restrict sI.heap fun b => !decide (b = ce.locals)
  obtain ⟨GB, b1, b2⟩ := restrict B fun b => !decide (b = ce.locals)
  have gI : ∀ b o, GI.get? b = some o → b ≠ ce.locals ∧ sI.heap.get? b = some o := fun b o e => by
    by_cases hb : b = ce.locals
    · rw [g2 b (by simp [hb])] at e
      cases e
    · exact ⟨hb, by rw [← g1 b (by simp [hb])]; exact e⟩
  have gB : ∀ b o, GB.get? b = some o → b ≠ ce.locals ∧ B.get? b = some o := fun b o e => by
    by_cases hb : b = ce.locals
    · rw [b2 b (by simp [hb])] at e
      cases e
    · exact ⟨hb, by rw [← b1 b (by simp [hb])]; exact e⟩
  have I2 : Inv X pins σ H' { sI with heap := GI, toks := sI.toks } := I7.turned (t' := sI.toks) (it := ce.locals) (fun b o hb e => by rw [g1 b (by simp [hb])]; exact e) (by rw [cL]; exact f0) (by rw [cL]; exact f1) (by rw [cL]; exact f4) (by rw [cL]; exact f5) (by rw [cL]; exact f6)
  show wpAny _ X.A (noteFrame (.ref a) ce) _ _ s'
  rw [noteFrame_env _ hcf]
  refine skyB Zc.steady hfr hf hCL sky' fun h1 hh up1 => ?_
  obtain ⟨st1, na1, ff1, oe, vs, T, oT, ts, he, hz, hd, hv1, hnT, hTe, hT, hdT, ht3⟩ := hh
  have upA : sI.heap.UpToSlots h1 := up.trans up1
  refine ⟨m, upA.ns hns', fun h2 m2 hn2 hs2 => ?_⟩
  have nsC : h1.Ns ce.locals m := upA.ns hns'
  have aC : a ≠ ce.locals := fun z => by
    obtain ⟨o, es, ep, ho, hdd, _⟩ := nsC
    rw [← z, he] at ho
    cases ho
    rw [hd] at hdd
    cases hdd
  have TC : T ≠ ce.locals := fun z => by
    obtain ⟨o, es, ep, ho, hdd, _⟩ := nsC
    rw [← z, hT] at ho
    cases ho
    rw [hdT] at hdd
    cases hdd
  have ff2 : h2.FunFrames GB (X.env :: X.outer) := by
    have q : ∀ {l : List Env}, h1.FunFrames B l → h1.FunFrames GB l := fun {l} => by
      induction l with
      | nil => exact fun _ => trivial
      | cons e r ih =>
        rintro ⟨k1, ⟨L', o, k2, k3, k4, k5⟩, k6⟩
        refine ⟨k1, ⟨L', o, k2, ?_, k4, k5⟩, ih k6⟩
        cases e' : GB.get? L' with
        | none => rfl
        | some o' =>
          have := (gB _ _ e').2
          rw [k3] at this
          cases this
    exact Heap.FunFrames.sameBut hs2 hn2 (q ff1)
  have st2 : GB.StaysIn h2 := fun b o e => by
    obtain ⟨n1, e1⟩ := gB b o e
    rw [hs2.2 b n1]
    exact st1 b o e1
  have naG : GB.get? a = none := by
    cases e' : GB.get? a with
    | none => rfl
    | some o' =>
      have := (gB _ _ e').2
      rw [na1] at this
      cases this
  have nTG : GB.get? T = none := by
    cases e' : GB.get? T with
    | none => rfl
    | some o' =>
      have := (gB _ _ e').2
      rw [hnT] at this
      cases this
  have he2 : h2.get? a = some oe := (hs2.2 a aC).trans he
  have hh2 : HandSPX.HeldZ GB (X.env :: X.outer) a (Zc cls d) X.env.locals h2 := ⟨st2, naG, ff2, oe, vs, T, oT, ts, he2, hz, hd, hv1, nTG, hTe, (hs2.2 T TC).trans hT, hdT, ht3⟩
  unfold PySem.passOn
  refine wpAny_bind (wpAny_field he2 hd hv1 ?_)
  rw [if_neg (by simp), hcf, hf]
  refine wpAny_bind (HandSPX.setFlight_onZ hh2 fun h3 hh3 up3 => wpAny_throw (tw _ _ ?_))
  refine ⟨a, GB, { sI with heap := GI, toks := sI.toks }, pins, σ, H', cls, d, rfl, I2, fun b o e hb => ?_, fun b o e hn => ?_, .inr (.inr (by rw [hs]; exact hh3)), na, os, ag, hw⟩
  · obtain ⟨n1, e1⟩ := gI b o e
    rw [b1 b (by simp [n1])]
    exact nb' b o e1 hb
  · obtain ⟨n1, e1⟩ := gI b o e
    obtain ⟨sl, e2⟩ := upA b o e1 hn
    obtain ⟨sl', e3⟩ := up3 b _ ((hs2.2 b n1).trans e2) hn
    exact ⟨sl', e3⟩
end
/-- [elt for target in iter if ..], elt may raise: Wo is what is wished of what leaves -/
def tLcX (wi : TI) (g : TG) (tt : TT) (te : WX → TE) (vs : List Nat) (Wo : WX) : TE := fun σ H Q => tLc wi g tt (te fun cls d _ H' => Wo cls d σ H') vs σ H Q
section
variable {X : Cx} {Wo : WX}
theorem lcX_core {pins : List (Addr × Obj)} {s : Shared} {σ : L2.St} {H : Hp} {Q : VK} {elt tg iter : Expr} {ifs : List Expr} {scope : Scope} {own : List (Str × Nat)} {pos pos' : Pos} {wi : TI} {g : TG} {tt : TT} {te : WX → TE} {use : Option (Value → Sem Unit)} {Qf : Value → Shared → Prop}
    (hc : X.calm = true) (hN : X.N.Nodup) (hst : X.stack = X.env :: X.outer) (hfm : X.env.frame = some X.env.locals) (tw : Takes X Wo) (I : Inv X pins σ H s) (hi : PI X tg iter wi) (ok : BlkOk X.N X.env.scope scope own)
    (hg : ∀ (s : Shared) (H : Hp) (C : Addr) (cl : List (Str × Addr)) (fp : List Addr), PG (X.blk s H scope (compEnvC scope cl C X.env) fp) tg g) (ht : ∀ (s : Shared) (H : Hp) (C : Addr) (cl : List (Str × Addr)) (fp : List Addr), PTs (X.blk s H scope (compEnvC scope cl C X.env) fp) ifs tt)
    (he : ∀ (s : Shared) (H : Hp) (C : Addr) (cl : List (Str × Addr)) (fp : List Addr) (E : Value → Shared → Prop) (W : WX), Takes ((X.blk s H scope (compEnvC scope cl C X.env) fp).wish E) W → PE ((X.blk s H scope (compEnvC scope cl C X.env) fp).wish E) elt (te W))
    (hs : ∀ x, foldedSetIterable iter X.env x = pure x) (h : tLcX wi g tt te (own.map (·.2)) Wo σ H Q)
    (fin : ∀ D s' m H' (ce : Env), ce.locals ≠ D → Inv X pins σ H' s' → Q (.ref D) H' → s'.heap.Ns ce.locals m → FpOk X pins H' ce.locals → compEnds (model X.prog X.w) X.A X.xe use Qf (.ref D) ce (.ok .next) s') :
    wpAny (model X.prog X.w) X.A (comprehension (.ListComp elt [⟨tg, iter, ifs, 0⟩] scope pos) scope X.env pos' (newList []) false (eval iter X.env) use) Qf X.xe s := by
  have free : ∀ y ∈ scope.names, y.2 = .free → ∃ c, X.env.cells.lookup y.1 = some c := fun y hy z => (ok.free y hy z).elim (fun k => I.ok.has _ (.inl k)) fun k => I.ok.has _ (.inr k)
  refine comprehension_at (use := use) rfl hs (closure_ok free) ok.kind (fun y hy z => by rw [ok.uniq y hy, z]) (thn (hi.run pins s σ H _ I h) fun v1 s1 h1 => thn h1 fun v2 s2 h2 => ?_)
  obtain ⟨it, fp, tn, J, H2, rfl, I2, T, st2, f2, q⟩ := h2
  refine wpAny_newObj_type (newEnv_comp ?_) (Nat.zero_le _)
  have nD : H2 s2.heap.objs.size = none := I2.hok.fresh (Nat.le_refl _)
  obtain ⟨W, ⟨m0, w0⟩, turn⟩ := q _ nD
  have push : ∀ b o, s2.heap.get? b = some o → (s2.heap.push ({ cls := .type "list", data := .seq ([] : List Value).toArray } : Obj)).get? b = some o := fun b o z => Heap.get?_push_of_some _ z
  have I3 : Inv X pins σ (upd H2 s2.heap.objs.size (.lst [])) { s2 with heap := s2.heap.push ({ cls := .type "list", data := .seq ([] : List Value).toArray } : Obj) } :=
    I2.laid (t' := s2.toks) push (Nat.le_refl _) ⟨Nat.zero_le _, [], 0, .nil, Heap.get?_push_size _ rfl⟩
  have old : ∀ b ∈ fp, b < s2.heap.objs.size := fun b hb => by
    obtain ⟨o, z, _⟩ := T.obj _ _ st2 b hb
    exact Heap.lt_size z
  have f3 : ∀ b ∈ fp, FpOk X pins (upd H2 s2.heap.objs.size (.lst [])) b ∧ b < (s2.heap.push ({ cls := .type "list", data := .seq ([] : List Value).toArray } : Obj)).objs.size := fun b hb => by
    have lt := old b hb
    obtain ⟨z1, z2⟩ := f2 b hb
    refine ⟨⟨?_, z2⟩, by rw [Heap.size_push]; exact Nat.lt_succ_of_lt lt⟩
    rw [upd_ne (Nat.ne_of_lt lt)]
    exact z1
  have st3 : tn 0 (s2.heap.push ({ cls := .type "list", data := .seq ([] : List Value).toArray } : Obj)) := T.keep _ _ _ st2 fun b _ o z => push b o z
  have nLD : s2.heap.objs.size < (s2.heap.push ({ cls := .type "list", data := .seq ([] : List Value).toArray } : Obj)).objs.size := by
    rw [Heap.size_push]
    exact Nat.lt_succ_self _
  generalize s2.heap.objs.size = D at *
  generalize hs3 : ({ s2 with heap := s2.heap.push ({ cls := .type "list", data := .seq ([] : List Value).toArray } : Obj) } : Shared) = s3 at *
  have e3 : s2.heap.push ({ cls := .type "list", data := .seq ([] : List Value).toArray } : Obj) = s3.heap := by rw [← hs3]
  rw [e3] at f3 st3 nLD
  generalize upd H2 D (.lst []) = H3 at *
  have I4 := block_start I3 ok hN f3
  have pg := hg s3 H3 s3.heap.objs.size (cellsFrom (s3.heap.objs.size + 1) scope.names (cloFrom X.env.cells scope.names [])) fp
  have pt := ht s3 H3 s3.heap.objs.size (cellsFrom (s3.heap.objs.size + 1) scope.names (cloFrom X.env.cells scope.names [])) fp
  have pe := he s3 H3 s3.heap.objs.size (cellsFrom (s3.heap.objs.size + 1) scope.names (cloFrom X.env.cells scope.names [])) fp
  show codeAny _ _ (.compStart (.ListComp elt [⟨tg, iter, ifs, 0⟩] scope pos) 0 (.ref it) (.ref D) (compEnvC scope (cellsFrom (s3.heap.objs.size + 1) scope.names (cloFrom X.env.cells scope.names [])) s3.heap.objs.size X.env))
    (compEnds (model X.prog X.w) X.A X.xe use Qf (.ref D) (compEnvC scope (cellsFrom (s3.heap.objs.size + 1) scope.names (cloFrom X.env.cells scope.names [])) s3.heap.objs.size X.env)) { s3 with heap := pushCells (s3.heap.push { cls := .type "dict", data := .dict #[] }) scope.names }
  have none3 : ∀ b ∈ fp, H3 b = none := fun b hb => (f3 b hb).1.1
  have cfr : (compEnvC scope (cellsFrom (s3.heap.objs.size + 1) scope.names (cloFrom X.env.cells scope.names [])) s3.heap.objs.size X.env).frame = X.env.frame := rfl
  have cL : (compEnvC scope (cellsFrom (s3.heap.objs.size + 1) scope.names (cloFrom X.env.cells scope.names [])) s3.heap.objs.size X.env).locals = s3.heap.objs.size := rfl
  generalize compEnvC scope (cellsFrom (s3.heap.objs.size + 1) scope.names (cloFrom X.env.cells scope.names [])) s3.heap.objs.size X.env = ce at *
  have st4 : tn 0 (pushCells (s3.heap.push { cls := .type "dict", data := .dict #[] }) scope.names) := T.keep _ _ _ st3 fun b _ o z => pushCells_keeps _ _ _ _ (Heap.get?_push_of_some _ z)
  generalize hs4 : ({ s3 with heap := pushCells (s3.heap.push { cls := .type "dict", data := .dict #[] }) scope.names } : Shared) = s4 at *
  have st4' : tn 0 s4.heap := by rw [← hs4]; exact st4
  have out := fun (u : Value) (s' : Shared) (E : Value → Shared → Prop) => lcX_out (scope := scope) (E := E) (u := u) (s' := s') I3 hst hfm tw cfr cL f3
  have blkFp : ∀ {σ' : L2.St} {H' : Hp} {s' : Shared}, Inv (X.blk s3 H3 scope ce fp) [] σ' H' s' → (∀ b ∈ fp, H' b = none) → ∀ b ∈ fp, FpOk (X.blk s3 H3 scope ce fp) [] H' b := fun {σ' H' s'} J hn b hb =>
    ⟨hn b hb, (J.ok.exf b hb).1, J.ok.exfs b hb, .inl hb, fun x c z => (J.ok.exf b hb).2 x c z, fun p hp => absurd (show p ∈ ([] : List (Addr × Obj)) ++ [] from hp) (by simp)⟩
  have loop : codeAny (model X.prog X.w) X.A (.compLoop (.ListComp elt [⟨tg, iter, ifs, 0⟩] scope pos) 0 (.ref it) (.ref D) ce) (compEnds (model X.prog X.w) X.A X.xe use Qf (.ref D) ce) s4 := by
    refine compLoop_any (fun n s' => ∃ i H', Inv (X.blk s3 H3 scope ce fp) [] (wipe σ (own.map (·.2))) H' s' ∧ tn i s'.heap ∧ (∀ b ∈ fp, H' b = none) ∧ W i n H') ?_ m0 ⟨0, H3, I4, st4', none3, w0⟩
    rintro n s5 ⟨i, H5, I5, st5, n5, w5⟩
    rcases turn i n H5 w5 with ⟨stop, qq⟩ | ⟨go, Nx, hNx, step⟩
    · refine thnF (T.done (X.blk s3 H3 scope ce fp) rfl rfl rfl hc i [] s5 _ H5 (fun _ _ => False) I5 (blkFp I5 n5) st5 stop) fun r s6 ⟨hr, I6⟩ => ?_
      subst hr
      have I7 : Inv X pins σ H5 s6 := I3.call' (ch := fp) I6.os I6.base I6.hok I6.bare fun b hb => ⟨(f3 b hb).1.2.2.2.1, (f3 b hb).1.2.1, (f3 b hb).1.2.2.2.2.1, (f3 b hb).1.2.2.2.2.2⟩
      obtain ⟨m, hn, _⟩ := I6.loc
      have nC : H5 ce.locals = none := I6.free
      refine fin D s6 m H5 ce (by rw [cL]; exact Nat.ne_of_gt nLD) I7 qq hn ?_
      rw [cL] at nC ⊢
      exact I3.fpOk (Nat.le_refl _) nC
    · refine thnF (T.item (X.blk s3 H3 scope ce fp) rfl rfl rfl hc i [] s5 _ H5 (fun _ _ => False) I5 (blkFp I5 n5) st5 go) fun r s6 ⟨u, hr, h6⟩ => ?_
      subst hr
      refine thnF h6 fun _ s7 ⟨x, H7, I7, r7, y7, st7, n7⟩ => ?_
      refine thnF (pg.run _ s7 _ H7 x u _ (I7.pinned (blkFp I7 n7) (T.obj _ _ st7)) r7 (step x H7 y7)) fun _ s8 ⟨σ8, H8, I8, hw8, q8⟩ => ?_
      refine thnF (pt.run _ s8 σ8 H8 _ I8 q8) fun b s9 ⟨H9, I9, q9⟩ => ?_
      have turned : ∀ {s' : Shared} {H' : Hp}, Inv (X.blk s3 H3 scope ce fp) ([] ++ pinsAt fp s7.heap) σ8 H' s' → Nx H' → ∃ m, m < n ∧ ∃ i H', Inv (X.blk s3 H3 scope ce fp) [] (wipe σ (own.map (·.2))) H' s' ∧ tn i s'.heap ∧ (∀ b ∈ fp, H' b = none) ∧ W i m H' := fun {s' H'} J nx => by
        obtain ⟨m', hm, w'⟩ := hNx H' nx
        have pinned : ∀ b ∈ fp, ∀ o, s7.heap.get? b = some o → s'.heap.get? b = some o ∧ H' b = none := fun b hb o z =>
          have k := J.pin (b, o) (List.mem_append_right _ (List.mem_append_right _ (mem_pinsAt hb z)))
          ⟨k.1, k.2.1⟩
        refine ⟨m', hm, i + 1, H', (J.unpinned (pins := [])).weak (by rw [← hw8, wipe_length]) (fun j v z => ?_), T.keep _ _ _ st7 fun b hb o z => (pinned b hb o z).1, fun b hb => ?_, w'⟩
        · rw [← hw8] at z
          exact (wipe_some z).1
        · obtain ⟨o, z, _⟩ := T.obj _ _ st7 b hb
          exact (pinned b hb o z).2
      cases b with
      | false => exact turned I9 q9
      | true =>
        simp only [if_true] at q9 ⊢
        have tk : Takes ((X.blk s3 H3 scope ce fp).wish (notedBy (model X.prog X.w) X.A ce fun e s' => compEnds (model X.prog X.w) X.A X.xe use Qf (.ref D) ce (.error e) s')) (fun cls d _ H' => Wo cls d σ H') := fun u s' x => by
          have z := out u s' _ x
          show notedBy (model X.prog X.w) X.A ce (fun e s' => compEnds (model X.prog X.w) X.A X.xe use Qf (.ref D) ce (.error e) s') u s'
          have ee : (fun e s' => compEnds (model X.prog X.w) X.A X.xe use Qf (.ref D) ce (.error e) s') = CompFails (model X.prog X.w) X.A X.xe ce := by
            funext e s'
            cases use <;> rfl
          rw [ee]
          exact z
        refine thn ((pe _ _ tk).run _ s9 σ8 H9 _ (I9.wish _) q9) fun z s10 ⟨yv, H10, I10, r10, acc, hD10, hz10, nx⟩ => ?_
        exact app_ok (X := X.blk s3 H3 scope ce fp) I10.unwish hD10 hz10 r10 fun s11 I11 => turned I11 nx
  exact codeAny_compStart_list loop (T.self X.A 0 _ _ _ st4' loop)
theorem pe_lcX {elt tg iter : Expr} {ifs : List Expr} {scope : Scope} {own : List (Str × Nat)} {pos : Pos} {wi : TI} {g : TG} {tt : TT} {te : WX → TE} (tw : Takes X Wo) (hc : X.calm = true) (hN : X.N.Nodup) (hi : PI X tg iter wi) (ok : BlkOk X.N X.env.scope scope own)
    (hg : ∀ (s : Shared) (H : Hp) (C : Addr) (cl : List (Str × Addr)) (fp : List Addr), PG (X.blk s H scope (compEnvC scope cl C X.env) fp) tg g) (ht : ∀ (s : Shared) (H : Hp) (C : Addr) (cl : List (Str × Addr)) (fp : List Addr), PTs (X.blk s H scope (compEnvC scope cl C X.env) fp) ifs tt)
    (he : ∀ (s : Shared) (H : Hp) (C : Addr) (cl : List (Str × Addr)) (fp : List Addr) (E : Value → Shared → Prop) (W : WX), Takes ((X.blk s H scope (compEnvC scope cl C X.env) fp).wish E) W → PE ((X.blk s H scope (compEnvC scope cl C X.env) fp).wish E) elt (te W))
    (hst : X.stack = X.env :: X.outer := by rfl) (hfm : X.env.frame = some X.env.locals := by rfl) (hs : ∀ x, foldedSetIterable iter X.env x = pure x := by intro _; rfl) :
    PE X (.ListComp elt [⟨tg, iter, ifs, 0⟩] scope pos) (tLcX wi g tt te (own.map (·.2)) Wo) := by
  refine ⟨fun pins s σ H Q I h => ?_⟩
  rw [eval_ListComp]
  refine lcX_core hc hN hst hfm tw I hi ok hg ht he hs h fun D s' m H' ce hne J q hn f => ⟨m, hn, fun h'' sb => ?_⟩
  obtain ⟨f0, f1, f2, f3, f4, f5⟩ := f
  exact ⟨.ref D, H', J.turned (t' := s'.toks) (fun b o hb z => (sb.2 b hb).trans z) f0 f1 f3 f4 f5, rfl, q⟩
theorem ps_setLcX {i : Nat} {y : Str} {py : Pos} {elt tg iter : Expr} {ifs : List Expr} {scope : Scope} {own : List (Str × Nat)} {pos spos : Pos} {wi : TI} {g : TG} {tt : TT} {te : WX → TE} (tw : Takes X Wo) (hc : X.calm = true) (hN : X.N.Nodup) (hy : X.N[i]? = some y) (hyl : X.env.scope.names.lookup y = some .local)
    (hsw : swapsWith (.ListComp elt [⟨tg, iter, ifs, 0⟩] scope pos) (some (.Name y py)) spos.line X.env = pure true) (hi : PI X tg iter wi) (ok : BlkOk X.N X.env.scope scope own)
    (hg : ∀ (s : Shared) (H : Hp) (C : Addr) (cl : List (Str × Addr)) (fp : List Addr), PG (X.blk s H scope (compEnvC scope cl C X.env) fp) tg g) (ht : ∀ (s : Shared) (H : Hp) (C : Addr) (cl : List (Str × Addr)) (fp : List Addr), PTs (X.blk s H scope (compEnvC scope cl C X.env) fp) ifs tt)
    (he : ∀ (s : Shared) (H : Hp) (C : Addr) (cl : List (Str × Addr)) (fp : List Addr) (E : Value → Shared → Prop) (W : WX), Takes ((X.blk s H scope (compEnvC scope cl C X.env) fp).wish E) W → PE ((X.blk s H scope (compEnvC scope cl C X.env) fp).wish E) elt (te W))
    (hst : X.stack = X.env :: X.outer := by rfl) (hfm : X.env.frame = some X.env.locals := by rfl) (hs : ∀ x, foldedSetIterable iter X.env x = pure x := by intro _; rfl) :
    PS X (.Assign [.Name y py] (.ListComp elt [⟨tg, iter, ifs, 0⟩] scope pos) spos) (tAsg (tLcX wi g tt te (own.map (·.2)) Wo) (gName i)) := by
  refine ⟨fun pins s σ H D I h => ?_⟩
  rw [exec_Assign_Name_used _ _ _ _ hsw]
  refine wpAny_bind (wpAny_standAt (wpAny_bind ?_))
  show wpAny _ X.A (do let _ ← comprehension (.ListComp elt [⟨tg, iter, ifs, 0⟩] scope pos) scope X.env (firstIterPos [⟨tg, iter, ifs, 0⟩] pos) (newList []) false (eval iter X.env) (some (assign (.Name y py) X.env))) _ _ s
  have h' : tLcX wi g tt te (own.map (·.2)) Wo σ H (fun x H1 => gName i x σ H1 D.nx) := h
  refine wpAny_bind (thn (lcX_core (Qf := fun _ s' => SP X pins D .next s') hc hN hst hfm tw I hi ok hg ht he hs h' fun L s' m H' ce hne J q hn f => ?_) fun _ s' hq => wpAny_pure (wpAny_pure hq))
  show wpAny _ _ (assign (.Name y py) X.env (.ref L)) _ _ _
  refine wpAny_assign_Name (store_ok2 (v := V.ref L) J hN hy (.inl hyl) rfl (fun s2 J2 ⟨a, sb, ha⟩ => ?_) (.inr hyl))
  obtain ⟨f0, f1, f2, f3, f4, f5⟩ := f
  have nCa : ce.locals ≠ a := ha.elim (fun z => by rw [z]; exact f1) fun z y' => f4 y a z y'.symm
  refine ⟨m, hn.sameBut sb nCa, fun h3 sb3 => ?_⟩
  exact ⟨_, H', J2.turned (t' := s2.toks) (fun b o hb z => (sb3.2 b hb).trans z) f0 f1 f3 f4 f5, q⟩
end
end Sw

set_option Elab.async false
set_option linter.all false
set_option maxRecDepth 100000
set_option maxHeartbeats 4000000
namespace Sw
open PySem PySem.Spec PyProof.Rows L2
def rLenSet (K : PySem.W.Frag) : V → Hp → VK → Prop := fun x H Q => ∃ l, ∃ xs : List Str, x = .ref l ∧ SqT K H l (xs.map V.str) ∧ xs.length ≤ 20 ∧ Q (.int (dcnt xs xs.length)) H
theorem g_rLenSet {G H : Hp} {R : Res} {K : PySem.W.Frag} {Q : VK} {l : Addr} {xs : List Str} (w : Wd G R H) (h : SqT K G l (xs.map V.str)) (hx : xs.length ≤ 20) (k : Q (.int (dcnt xs xs.length)) H) : rLenSet K (.ref l) H Q := ⟨l, xs, rfl, Evl.ex_t w.sub h, hx, k⟩
section
variable {σ : L2.St} {H : Hp} {Q : VK} {D : Ends} {G : Hp} {R : Res} {td ty tv te : TE} {t tk : TA} {C : Addr} {n m : Nat} {sp : SpC} {W : WX} {K : PySem.W.Frag}
def MkI (sp : SpC) (C : Addr) (vs zs : List V) (H : Hp) (Q : VK) (E : XK) : Prop := ∀ x dx, H x = none → H dx = none → dx ≠ x → sp (.ref x :: vs) zs (upd (upd H dx (.own x)) x (.ins C dx [])) (fun v H3 => v = .non ∧ Q (.ref x) H3) E
theorem g_js1 {tx : TE} {ts : List TE} {acc : Str} {P : Str → Hp → Prop} (k : tx σ H fun x H1 => ∃ y : Str, x = .str y ∧ (acc ++ y).length ≤ sizeLine ∧ tJs ts (acc ++ y) σ H1 P) : tJs (tx :: ts) acc σ H P := k
theorem g_js0 {acc : Str} {P : Str → Hp → Prop} (k : P acc H) : tJs [] acc σ H P := k
theorem g_fmt {tx : TE} (k : tx σ H fun x H1 => (∃ y : Str, x = .str y ∧ y.length ≤ sizeLine ∧ Q (.str y) H1) ∨ ∃ i : Int, x = .int i ∧ i.natAbs.log2 < 1920 ∧ Q (.str (toString i)) H1) : tFmt tx σ H Q := k
theorem g_tLenSet {ta : TE} (k : ta σ H fun x H1 => rLenSet K x H1 Q) : tLenSetT K ta σ H Q := k
theorem g_dput (k : tv σ H fun v H1 => td σ H1 fun x H2 => ty σ H2 fun y H3 => ∃ a H4, x = .ref a ∧ DPut H3 a y v H4 ∧ D.nx σ H4) : sDPut td ty tv D σ H := k
theorem g_mkV (k : t σ H fun vs H1 => tk σ H1 fun zs H2 => n ≤ vs.length ∧ zs.length = m ∧ MkI sp C vs zs H2 Q (WE W σ)) : tMkV C n m sp W t tk σ H Q := k
theorem g_mkV1 (k : te σ H fun y H1 => ∃ a xs, y = V.ref a ∧ (SqT K H1 a xs ∨ SqL K H1 a xs) ∧ n ≤ xs.length ∧ MkI sp C xs [] H1 Q (WE W σ)) : tMkV1 K C n sp W te σ H Q := k
end
section
variable {X : Cx} {k n : Nat} {ks : List Str} {W : WX} {m : Str} {pos apos : Pos} {e o : Expr} {es : List Expr} {kws : List Keyword} {t tk : TA} {ta : TE}
theorem kp_star {p : Pos} {te : TE} (K : PySem.W.Frag) (he : PE X e te) (hr : PA X es t) (hK : X.K = K := by rfl) (hs : starEach (.Starred e p :: es) X.env = (true, eval e X.env) :: starEach es X.env := by rfl) : PA X (.Starred e p :: es) (StX.tStar K te t) := by subst hK; exact StX.pa_star he hr hs
theorem kp_prop (P : Program) (w : World) (K : PySem.W.Frag) (mg : Str → Option Value) (base : Heap) (he : PE X o ta) (hr : Room (k + 1) X.A) (h1 : X.prog = P := by rfl) (h2 : X.w = w := by rfl) (h3 : X.K = K := by rfl) (h4 : X.mg = mg := by rfl) (h5 : X.base = base := by rfl)
    (hab : attributeBase o m X.env (eval o X.env) = eval o X.env := by rfl) : PE X (.Attribute o m pos) (tPrG P w K mg base k m ta) := by subst h1 h2 h3 h4 h5; exact pe_propG he hr hab
theorem kp_meth {pl : Sem Bool} (P : Program) (w : World) (K : PySem.W.Frag) (mg : Str → Option Value) (base : Heap) (he : PE X o ta) (hr : Room k X.A) (tw : Takes X W) (ha : PA X (e :: es) t) (hkw : PK X kws tk) (h1 : X.prog = P := by rfl) (h2 : X.w = w := by rfl) (h3 : X.K = K := by rfl) (h4 : X.mg = mg := by rfl) (h5 : X.base = base := by rfl)
    (hall : (backToKw pos (keywordEach kws X.env)).all (·.1.isSome) = true := by rfl) (hks : (backToKw pos (keywordEach kws X.env)).filterMap (·.1) = ks := by rfl)
    (hst : starEach (e :: es) X.env = (false, eval e X.env) :: starEach es X.env := by rfl) (hpl : ((backTo pos (starEach (e :: es) X.env)).any (·.1) || (backToKw pos (keywordEach kws X.env)).any (·.1.isNone)) = false := by rfl)
    (ht : eval (.Call (.Attribute o m apos) (e :: es) kws pos) X.env = (do
      let ov ← eval o X.env
      standAt apos.atName
      let (f, first) ← holding [ov] (getMethod ov m pl)
      callWith pos f first (backTo pos (starEach (e :: es) X.env)) (backToKw pos (keywordEach kws X.env))) := by rfl) :
    PE X (.Call (.Attribute o m apos) (e :: es) kws pos) (tMtG P w K mg base k m n ks W ta t tk) := by subst h1 h2 h3 h4 h5; exact pe_methG he hr tw ha hkw hall hks hst hpl ht
theorem kp_meth0 {pl : Sem Bool} (P : Program) (w : World) (K : PySem.W.Frag) (mg : Str → Option Value) (base : Heap) (he : PE X o ta) (hr : Room k X.A) (tw : Takes X W) (hkw : PK X kws tk) (h1 : X.prog = P := by rfl) (h2 : X.w = w := by rfl) (h3 : X.K = K := by rfl) (h4 : X.mg = mg := by rfl) (h5 : X.base = base := by rfl)
    (hall : (backToKw pos (keywordEach kws X.env)).all (·.1.isSome) = true := by rfl) (hks : (backToKw pos (keywordEach kws X.env)).filterMap (·.1) = ks := by rfl)
    (hpl : ((backTo pos (starEach [] X.env)).any (·.1) || (backToKw pos (keywordEach kws X.env)).any (·.1.isNone)) = false := by rfl)
    (ht : eval (.Call (.Attribute o m apos) [] kws pos) X.env = (do
      let ov ← eval o X.env
      standAt apos.atName
      let (f, first) ← holding [ov] (getMethod ov m pl)
      callWith pos f first (backTo pos (starEach [] X.env)) (backToKw pos (keywordEach kws X.env))) := by rfl) :
    PE X (.Call (.Attribute o m apos) [] kws pos) (tMtG P w K mg base k m n ks W ta tNil tk) := by subst h1 h2 h3 h4 h5; exact pe_methG0 he hr tw hkw hall hks hpl ht
end
/-- an object that will change is taken out of what is known -/
theorem Wd.apart {G G4 H : Hp} {R : Res} {D : Addr} {o : HO} (s : Same (upd G D o) G4) (nD : G D = none) (w : Wd G4 R H) : ∃ Gm, Same G Gm ∧ Gm D = none ∧ (∀ b, b ≠ D → Gm b = G4 b) ∧ Wd (upd Gm D o) R H := by
  have e4 : G4 D = some o := s _ _ upd_same
  refine ⟨fun b => if b = D then none else G4 b, fun b u e => ?_, if_pos rfl, fun b hb => if_neg hb, ?_⟩
  · have hb : b ≠ D := ne_of_none e nD
    show (if b = D then none else G4 b) = some u
    rw [if_neg hb]
    exact s _ _ (by rw [upd_ne hb]; exact e)
  · have : upd (fun b => if b = D then none else G4 b) D o = G4 := by
      funext b
      by_cases hb : b = D
      · rw [hb, upd_same, e4]
      · rw [upd_ne hb]
        exact if_neg hb
    rw [this]
    exact w
/-! ### comprehensions with two sources -/
def InW (J1 : It) (g1 : TG) (tt1 : TT) (te : TE) (vs1 : List Nat) (σ2 : L2.St) (D : Addr) (Nx : Hp → Prop) (H4 : Hp) : Prop := ∃ W1 : Nat → Nat → Hp → Prop, (∃ m, W1 0 m H4) ∧ ∀ j k H, W1 j k H →
  (J1.stop j H ∧ Nx H) ∨ (J1.go j H ∧ ∃ Nx1 : Hp → Prop, (∀ H', Nx1 H' → ∃ k', k' < k ∧ W1 (j + 1) k' H') ∧ ∀ x H', J1.yld j H x H' → g1 x (wipe σ2 vs1) H' fun σ3 H5 => wipe σ3 vs1 = wipe σ2 vs1 ∧ tt1 σ3 H5 fun b H6 =>
    if b = true then te σ3 H6 fun y H7 => ∃ acc, H7 D = some (.lst acc) ∧ acc.length < sizeLine ∧ Nx1 (upd H7 D (.lst (acc ++ [y]))) else Nx1 H6)
def Lc2W (J : It) (g : TG) (tt : TT) (wi1 : TI) (g1 : TG) (tt1 : TT) (te : TE) (vs vs1 : List Nat) (σ : L2.St) (Q : VK) (H1 : Hp) : Prop := ∀ D, H1 D = none → ∃ W : Nat → Nat → Hp → Prop, (∃ m, W 0 m (upd H1 D (.lst []))) ∧ ∀ i m H, W i m H →
  (J.stop i H ∧ Q (.ref D) H) ∨ (J.go i H ∧ ∃ Nx : Hp → Prop, (∀ H', Nx H' → ∃ m', m' < m ∧ W (i + 1) m' H') ∧ ∀ x H', J.yld i H x H' → g x (wipe σ vs) H' fun σ2 H2 => wipe σ2 vs = wipe σ vs ∧ tt σ2 H2 fun b H3 =>
    if b = true then wi1 σ2 H3 fun J1 H4 => InW J1 g1 tt1 te vs1 σ2 D Nx H4 else Nx H3)
/-- a turn is through: what is known, and the new list so far -/
def NxO (Pv : Nat → Hp → List V → Prop) (G : Hp) (R : Res) (D : Addr) (i : Nat) (H : Hp) : Prop := ∃ G4 acc4, Same G G4 ∧ G4 D = none ∧ Pv i G4 acc4 ∧ Wd (upd G4 D (.lst acc4)) R H
theorem lc2_it {J : It} {n : Nat} {I : Hp → Prop} {Y : Nat → V → Hp → Hp → Prop} (F : Itf J n I Y) {G H1 : Hp} {R : Res} {g g1 : TG} {tt tt1 : TT} {wi1 : TI} {te : TE} {vs vs1 : List Nat} {σ : L2.St} {Q : VK} (w : Wd G R H1) (hI : ∀ H, Same G H → I H)
    (Pv : Nat → Hp → List V → Prop) (h0 : Pv 0 G [])
    (hs : ∀ i x Gi acc D H H', i < n → Same G Gi → Gi D = none → Pv i Gi acc → Wd (upd Gi D (.lst acc)) R H → Y i x H H' → g x (wipe σ vs) H' fun σ2 H2 => wipe σ2 vs = wipe σ vs ∧ tt σ2 H2 fun b H3 =>
      if b = true then wi1 σ2 H3 fun J1 H4 => InW J1 g1 tt1 te vs1 σ2 D (NxO Pv G R D (i + 1)) H4 else NxO Pv G R D (i + 1) H3)
    (hd : ∀ D Gn acc H, Same G Gn → Gn D = none → Pv n Gn acc → Wd (upd Gn D (.lst acc)) R H → Q (.ref D) H) : Lc2W J g tt wi1 g1 tt1 te vs vs1 σ Q H1 := by
  intro D hD
  refine ⟨fun i m H => m = n - i ∧ i ≤ n ∧ NxO Pv G R D i H, ⟨n, by simp, Nat.zero_le _, G, [], Same.refl G, w.free hD, h0, w.new hD⟩, ?_⟩
  rintro i m H ⟨rfl, hi, Gi, acc, e, nD, p, wi⟩
  have q := hI H (Same.trans (Same.trans e (Same.newG nD)) wi.sub)
  by_cases hlt : i < n
  · exact .inr ⟨F.go i H hlt q, NxO Pv G R D (i + 1), fun H' p' => ⟨n - (i + 1), by omega, rfl, by omega, p'⟩, fun x H' y => hs i x Gi acc D H H' hlt e nD p wi (F.yld i H x H' hlt q y)⟩
  · have ei : i = n := by omega
    subst ei
    exact .inl ⟨F.stop H q, hd D Gi acc H e nD p wi⟩
theorem in_it {J1 : It} {n : Nat} {I : Hp → Prop} {Y : Nat → V → Hp → Hp → Prop} (F : Itf J1 n I Y) {G H4 : Hp} {R : Res} {D : Addr} {acc0 : List V} {g1 : TG} {tt1 : TT} {te : TE} {vs1 : List Nat} {σ2 : L2.St} {Nx : Hp → Prop} (w : Wd (upd G D (.lst acc0)) R H4) (nD : G D = none) (hI : ∀ H, Same G H → I H)
    (Pv : Nat → Hp → List V → Prop) (h0 : Pv 0 G acc0)
    (hs : ∀ j x Gj acc H H', j < n → Same G Gj → Gj D = none → Pv j Gj acc → Wd (upd Gj D (.lst acc)) R H → Y j x H H' → g1 x (wipe σ2 vs1) H' fun σ3 H5 => wipe σ3 vs1 = wipe σ2 vs1 ∧ tt1 σ3 H5 fun b H6 =>
      if b = true then te σ3 H6 fun y H7 => ∃ acc', H7 D = some (.lst acc') ∧ acc'.length < sizeLine ∧ NxO Pv G R D (j + 1) (upd H7 D (.lst (acc' ++ [y]))) else NxO Pv G R D (j + 1) H6)
    (hd : ∀ Gn acc H, Same G Gn → Gn D = none → Pv n Gn acc → Wd (upd Gn D (.lst acc)) R H → Nx H) : InW J1 g1 tt1 te vs1 σ2 D Nx H4 := by
  refine ⟨fun j k H => k = n - j ∧ j ≤ n ∧ NxO Pv G R D j H, ⟨n, by simp, Nat.zero_le _, G, acc0, Same.refl G, nD, h0, w⟩, ?_⟩
  rintro j k H ⟨rfl, hj, Gj, acc, e, nDj, p, wj⟩
  have q := hI H (Same.trans (Same.trans e (Same.newG nDj)) wj.sub)
  by_cases hlt : j < n
  · exact .inr ⟨F.go j H hlt q, NxO Pv G R D (j + 1), fun H' p' => ⟨n - (j + 1), by omega, rfl, by omega, p'⟩, fun x H' y => hs j x Gj acc H H' hlt e nDj p wj (F.yld j H x H' hlt q y)⟩
  · have ej : j = n := by omega
    subst ej
    exact .inl ⟨F.stop H q, hd Gj acc H e nDj p wj⟩
/-- an item is kept -/
theorem nx_keep {Pv : Nat → Hp → List V → Prop} {G G4 H7 : Hp} {R : Res} {D : Addr} {acc : List V} {y : V} {i : Nat} (w : Wd (upd G4 D (.lst acc)) R H7) (e : Same G G4) (nD : G4 D = none) (hz : acc.length < sizeLine) (p : Pv i G4 (acc ++ [y])) :
    ∃ acc', H7 D = some (.lst acc') ∧ acc'.length < sizeLine ∧ NxO Pv G R D i (upd H7 D (.lst (acc' ++ [y]))) := by
  refine ⟨acc, w.get upd_same, hz, G4, acc ++ [y], e, nD, p, ?_⟩
  have := w.set (o' := .lst (acc ++ [y])) upd_same
  rw [upd_upd] at this
  exact this
theorem g_lc2L {K : PySem.W.Frag} {tl : TE} {g g1 : TG} {tt tt1 : TT} {wi1 : TI} {te : TE} {vs vs1 : List Nat} {σ : L2.St} {H : Hp} {Q : VK} (k : tl σ H fun x H1 => ∃ a, x = .ref a ∧ (∃ xs, SqL K H1 a xs) ∧ Lc2W (Itl K a) g tt wi1 g1 tt1 te vs vs1 σ Q H1) : tLc2 (iList K tl) g tt wi1 g1 tt1 te vs vs1 σ H Q := k
theorem g_iList {K : PySem.W.Frag} {tl : TE} {σ : L2.St} {H : Hp} {P : It → Hp → Prop} (k : tl σ H fun x H1 => ∃ a, x = .ref a ∧ (∃ xs, SqL K H1 a xs) ∧ P (Itl K a) H1) : iList K tl σ H P := k
theorem g_lcX {wi : TI} {g : TG} {tt : TT} {te : WX → TE} {vs : List Nat} {Wo : WX} {σ : L2.St} {H : Hp} {Q : VK} (k : tLc wi g tt (te fun cls d _ H' => Wo cls d σ H') vs σ H Q) : tLcX wi g tt te vs Wo σ H Q := k
/-- the end of d[k] = v -/
theorem g_dputE {G H : Hp} {R : Res} {a : Addr} {kvs : List (Key × V)} {z : Str} {v : V} {P : Hp → Prop} (w : Wd G R H) (h : G a = some (.dK kvs)) (hz : kvs.length < sizeLine) (k : ∀ H', Wd (upd G a (.dK (putK kvs (.inr z) v))) R H' → P H') :
    ∃ a' H4, V.ref a = .ref a' ∧ DPut H a' (.str z) v H4 ∧ P H4 := ⟨a, _, rfl, DPut.k (k := .inr z) (w.get h) hz, k _ (w.set h)⟩
theorem tyX_tup {K : PySem.W.Frag} {G : Hp} {p : Addr} {xs : List V} (h : SqT K G p xs) : TyX K G (.ref p) (.type "tuple") := by
  rcases h with (h | ⟨o, h⟩) | ⟨o, its, n, h, c, _⟩
  · exact .base (.tup h)
  · exact .fTuple h
  · exact .kTuple h c
theorem g_any {G H : Hp} {R : Res} {K : PySem.W.Frag} {Q : VK} {a : Addr} {bs : List Bool} (w : Wd G R H) (h : SqL K G a (bs.map V.bl)) (k : Q (.bl (bs.any id)) H) : rAny K [.ref a] H Q := ⟨a, bs, rfl, Evl.ex_l w.sub h, k⟩
theorem Paired.at {α β : Type} {F : α → β → Prop} : ∀ {xs : List α} {ys : List β}, Paired F xs ys → ∀ {i : Nat} {x : α}, xs[i]? = some x → ∃ y, ys[i]? = some y ∧ F x y
  | _, _, .nil, i, x, h => by simp at h
  | _, _, .cons r _, 0, x, h => by cases h; exact ⟨_, rfl, r⟩
  | _, _, .cons _ t, i + 1, x, h => by
    rw [List.getElem?_cons_succ] at h ⊢
    exact Paired.at t h
theorem Paired.atR {α β : Type} {F : α → β → Prop} : ∀ {xs : List α} {ys : List β}, Paired F xs ys → ∀ {i : Nat} {y : β}, ys[i]? = some y → ∃ x, xs[i]? = some x ∧ F x y
  | _, _, .nil, i, x, h => by simp at h
  | _, _, .cons r _, 0, x, h => by cases h; exact ⟨_, rfl, r⟩
  | _, _, .cons _ t, i + 1, x, h => by
    rw [List.getElem?_cons_succ] at h ⊢
    exact Paired.atR t h
theorem Paired.imp {α β : Type} {F F' : α → β → Prop} (k : ∀ a b, F a b → F' a b) : ∀ {xs : List α} {ys : List β}, Paired F xs ys → Paired F' xs ys
  | _, _, .nil => .nil
  | _, _, .cons r t => .cons (k _ _ r) (Paired.imp k t)
theorem Paired.len {α β : Type} {F : α → β → Prop} : ∀ {xs : List α} {ys : List β}, Paired F xs ys → xs.length = ys.length
  | _, _, .nil => rfl
  | _, _, .cons _ t => by rw [List.length_cons, List.length_cons, Paired.len t]
theorem Paired.app {α β : Type} {F : α → β → Prop} : ∀ {xs xs' : List α} {ys ys' : List β}, Paired F xs ys → Paired F xs' ys' → Paired F (xs ++ xs') (ys ++ ys')
  | _, _, _, _, .nil, h => h
  | _, _, _, _, .cons r t, h => .cons r (Paired.app t h)
end Sw

set_option Elab.async false
set_option linter.all false
set_option maxRecDepth 100000
set_option maxHeartbeats 4000000
namespace Sv
open PySem L2
def top (i : Nat) : Stmt := PySem.Challenge.pw_savewise_k03_tables_checked.main.body.getD i (.Pass ⟨0, 0, 0, 0⟩)
abbrev s__wall : Stmt := top 0
abbrev s_InvalidName___init__ : Stmt := inClass (top 3) 0
abbrev s_InvalidColumn___init__ : Stmt := inClass (top 4) 0
abbrev s_InvalidGroup___init__ : Stmt := inClass (top 5) 0
abbrev s_UnknownColumn___init__ : Stmt := inClass (top 6) 0
abbrev s_is_name : Stmt := top 11
abbrev s_Column___init__ : Stmt := inClass (top 14) 3
abbrev s_Column___eq__ : Stmt := inClass (top 14) 4
abbrev s_Column_kind : Stmt := inClass (top 14) 5
abbrev s_Column_default : Stmt := inClass (top 14) 6
abbrev s_Column_text : Stmt := inClass (top 14) 7
abbrev s_Column_words : Stmt := inClass (top 14) 8
abbrev s_Column_accepts : Stmt := inClass (top 14) 9
abbrev s_Column_parse : Stmt := inClass (top 14) 10
abbrev s_IntColumn_accepts : Stmt := inClass (top 15) 1
abbrev s_TextColumn_accepts : Stmt := inClass (top 16) 2
abbrev s_RefColumn___init__ : Stmt := inClass (top 17) 1
abbrev s_RefColumn_words : Stmt := inClass (top 17) 2
abbrev s_RefColumn_accepts : Stmt := inClass (top 17) 3
abbrev s_Table___init__ : Stmt := inClass (top 20) 0
abbrev s_Table_columns : Stmt := inClass (top 20) 1
abbrev s_Table_groups : Stmt := inClass (top 20) 2
abbrev s_Table_find_column : Stmt := inClass (top 20) 3
abbrev s_Table_row : Stmt := inClass (top 20) 4
abbrev s_Table_lines : Stmt := inClass (top 20) 5
abbrev s_is_group : Stmt := top 21
abbrev s__law_begun : Stmt := top 23
abbrev s__law_draw : Stmt := top 24
abbrev s__law_pick : Stmt := top 25
abbrev s__law_mixed : Stmt := top 26
abbrev s__law_names : Stmt := top 27
abbrev s__law_column : Stmt := top 28
abbrev s__law_groups : Stmt := top 29
abbrev s__law_made : Stmt := top 30
abbrev s__law_table : Stmt := top 31
abbrev s__law_is_group : Stmt := top 32
abbrev s__law_due : Stmt := top 33
abbrev s__law_tried : Stmt := top 34
abbrev s__law_looked : Stmt := top 35
abbrev s_law : Stmt := top 36
/-- where the top has put its classes and tuples -/
structure Ad where
  (SaveError InvalidName InvalidColumn InvalidGroup UnknownColumn Column IntColumn TextColumn RefColumn Table RESERVED RULES : Addr)
structure Txt (K : PySem.W.Frag) (mg : Str → Option Value) (A : Ad) : Prop where
  nb_super : mg "super" = none
  nb_isinstance : mg "isinstance" = none
  nb_str : mg "str" = none
  nb_len : mg "len" = none
  nb_all : mg "all" = none
  nb_enumerate : mg "enumerate" = none
  nb_list : mg "list" = none
  nb_tuple : mg "tuple" = none
  nb_set : mg "set" = none
  nb_any : mg "any" = none
  nb_abs : mg "abs" = none
  nb_range : mg "range" = none
  nb_int : mg "int" = none
  nb_dict : mg "dict" = none
  nb_repr : mg "repr" = none
  g_SaveError : ∃ u, mg "SaveError" = some u ∧ RelV (.ref A.SaveError) u
  g_InvalidName : ∃ u, mg "InvalidName" = some u ∧ RelV (.ref A.InvalidName) u
  g_InvalidColumn : ∃ u, mg "InvalidColumn" = some u ∧ RelV (.ref A.InvalidColumn) u
  g_InvalidGroup : ∃ u, mg "InvalidGroup" = some u ∧ RelV (.ref A.InvalidGroup) u
  g_UnknownColumn : ∃ u, mg "UnknownColumn" = some u ∧ RelV (.ref A.UnknownColumn) u
  g_Column : ∃ u, mg "Column" = some u ∧ RelV (.ref A.Column) u
  g_IntColumn : ∃ u, mg "IntColumn" = some u ∧ RelV (.ref A.IntColumn) u
  g_TextColumn : ∃ u, mg "TextColumn" = some u ∧ RelV (.ref A.TextColumn) u
  g_RefColumn : ∃ u, mg "RefColumn" = some u ∧ RelV (.ref A.RefColumn) u
  g_Table : ∃ u, mg "Table" = some u ∧ RelV (.ref A.Table) u
  g_LETTERS : ∃ u, mg "LETTERS" = some u ∧ RelV (.str "abcdefghijklmnopqrstuvwxyz") u
  g_LONGEST_NAME : ∃ u, mg "LONGEST_NAME" = some u ∧ RelV (.int 8) u
  g_RESERVED : ∃ u, mg "RESERVED" = some u ∧ RelV (.ref A.RESERVED) u
  t_RESERVED : ∀ H, SqT K H A.RESERVED [.str "key", .str "limit", .str "order", .str "self", .str "table"]
  g_RULES : ∃ u, mg "RULES" = some u ∧ RelV (.ref A.RULES) u
  t_RULES : ∀ H, SqT K H A.RULES [.str "restrict", .str "clear", .str "cascade"]
  g_MOST_IN_GROUP : ∃ u, mg "MOST_IN_GROUP" = some u ∧ RelV (.int 3) u
end Sv

set_option Elab.async false
set_option linter.all false
set_option maxRecDepth 100000
set_option maxHeartbeats 4000000
namespace Sv
open PySem PySem.Spec PyProof.Rows L2 Sw

/-! ### the steps -/
local macro_rules | `(tactic| walk_at "go1") => `(tactic| first
  | ((with_reducible refine' g_var ?hv ?_); (case hv => rfl))
  | with_reducible refine g_c ?_
  | with_reducible refine g_op ?_
  | with_reducible refine g_un ?_
  | with_reducible refine g_seq ?_
  | with_reducible refine g_next ?_
  | with_reducible refine g_asg ?_
  | with_reducible refine g_name ?_
  | with_reducible refine g_drop ?_
  | with_reducible refine g_sub ?_
  | with_reducible refine g_ret ?_
  | with_reducible refine g_retN ?_
  | with_reducible refine g_ifS ?_
  | with_reducible refine g_if ?_
  | with_reducible refine g_test ?_
  | with_reducible refine g_bl ?_
  | with_reducible refine g_cons ?_
  | with_reducible refine g_nil ?_
  | with_reducible refine g_and ?_
  | with_reducible refine g_or ?_
  | with_reducible refine g_not ?_
  | with_reducible refine g_callB ?_
  | with_reducible refine g_addI ?_
  | with_reducible refine g_I0 ?_
  | with_reducible refine g_calG ?_
  | with_reducible refine g_mkG ?_
  | with_reducible refine g_tup ?_
  | with_reducible refine g_pairs1 ?_
  | with_reducible refine g_pairs0 ?_
  | with_reducible refine g_dget ?_
  | with_reducible refine g_lvals ?_
  | with_reducible refine g_forT ?_
  | with_reducible refine g_lcT ?_
  | with_reducible refine g_dput ?_
  | with_reducible refine g_lc2L ?_
  | with_reducible refine g_iList ?_
  | with_reducible refine g_lcX ?_
  | with_reducible refine g_js1 ?_
  | with_reducible refine g_js0 ?_
  | with_reducible refine g_fmt ?_
  | with_reducible refine g_tLenSet ?_
  | with_reducible refine g_mkV ?_
  | with_reducible refine g_mkV1 ?_
  | with_reducible refine g_lst ?_
  | with_reducible refine g_forL ?_
  | with_reducible refine g_forR ?_
  | with_reducible refine g_forR2 ?_
  | with_reducible refine g_forS ?_
  | with_reducible refine g_forE ?_
  | with_reducible refine g_forEB ?_
  | with_reducible refine g_lcL ?_
  | with_reducible refine g_lcR ?_
  | with_reducible refine g_lcS ?_
  | with_reducible refine g_lcE ?_
  | with_reducible refine g_lcEB ?_
  | with_reducible refine g_orT ?_
  | with_reducible refine g_slc ?_
  | with_reducible refine g_noPart ?_
  | with_reducible refine g_part ?_
  | with_reducible refine g_bm ?_
  | with_reducible refine g_par ?_
  | with_reducible refine g_yes ?_
  | with_reducible refine g_tupG ?_
  | with_reducible refine g_lstG ?_
  | with_reducible refine g_gcons ?_
  | with_reducible refine g_gnil ?_
  | with_reducible refine g_chain ?_
  | with_reducible refine g_truB ?_
  | with_reducible refine g_truN ?_
  | with_reducible refine g_truI ?_
  | with_reducible refine g_m1 ?_
  | with_reducible refine g_fld ?_
  | with_reducible refine g_con ?_
  | with_reducible refine g_tru ?_
  | with_reducible refine g_U ?_
  | with_reducible refine g_xg ?_
  | with_reducible refine g_andT ?_
  | with_reducible refine g_exI ?_
  | with_reducible refine g_dnew ?_
  | with_reducible refine g_intB ?_
  | with_reducible refine g_meth ?_
  | with_reducible refine g_prop ?_
  | with_reducible refine g_exc1 ?_
  | with_reducible refine g_setF ?_
  | with_reducible refine g_star ?_
  | with_reducible refine g_strM ?_
  | with_reducible refine iteT ?_
  | with_reducible refine iteF ?_
  | with_reducible refine iteNT ?_
  | with_reducible refine iteNF ?_)
local macro_rules | `(tactic| walk_at "go") => `(tactic| repeat (walk_at "go1"))
local macro_rules | `(tactic| walk_at "sz") => `(tactic| (first | (rw [sizeLine_eq]; simp only [List.length_cons, List.length_nil, List.length_map, List.length_append, List.length_take]; omega) | (rw [sizeLine_eq]; omega)))
/-! ### the state of the choices -/
structure DOk (xs : List Int) (i m : Int) : Prop where
  ne : xs ≠ []
  nn : ∀ x ∈ xs, 0 ≤ x
  len : xs.length ≤ 63
  i0 : 0 ≤ i
  m0 : 0 ≤ m
  m1 : m < 2147483647
def DS (a c : Addr) (H : Hp) : Prop := ∃ xs i m, DOk xs i m ∧ H a = some (.lst [.ref c, .int i, .int m]) ∧ H c = some (.lst (xs.map V.int))
def RD (a c : Addr) : Res := ⟨[a, c], DS a c, fun H H' h e => by
    obtain ⟨xs, i, m, d, h1, h2⟩ := h
    exact ⟨xs, i, m, d, by rw [e a (by simp)]; exact h1, by rw [e c (by simp)]; exact h2⟩,
  fun H h b hb => by
    obtain ⟨xs, i, m, d, h1, h2⟩ := h
    rcases List.mem_cons.mp hb with rfl | hb
    · rw [h1]; simp
    · rw [List.mem_singleton] at hb
      rw [hb, h2]; simp⟩
theorem RD.apart {a c : Addr} {H : Hp} (h : DS a c H) : a ≠ c := by
  obtain ⟨xs, i, m, d, h1, h2⟩ := h
  rintro rfl
  rw [h1] at h2
  cases xs with
  | nil => exact d.ne rfl
  | cons x xs => cases h2
/-- the resource changed: what is known stays -/
theorem RD.put {a c : Addr} {G H H' : Hp} (w : Wd G (RD a c) H) (h : DS a c H') (k : ∀ b o, b ≠ a → b ≠ c → H b = some o → H' b = some o) : Wd G (RD a c) H' := by
  refine ⟨fun b o e => ?_, w.out, h⟩
  have na : b ≠ a := fun z => by
    have := w.out a (by simp [RD])
    rw [← z, e] at this; cases this
  have nc : b ≠ c := fun z => by
    have := w.out c (by simp [RD])
    rw [← z, e] at this; cases this
  exact k b o na nc (w.sub b o e)

section
variable {P : Program} {wo : World} {A : Ad} {K : PySem.W.Frag} {mg : Str → Option Value} {base : Heap}

def spDraw : Sp := fun vs H Q _ => ∃ G a c b, vs = [.ref a, .int b] ∧ Wd G (RD a c) H ∧ 0 < b ∧ b < 1073741824 ∧ ∀ r H', 0 ≤ r → r < b → Wd G (RD a c) H' → Q (.int r) H'
theorem sc__law_draw : FnScope (["_law_state", "_law_bound", "_law_cells", "_law_at", "_law_cell"] : List Str) (["_law_state", "_law_bound"] : List Str) (defScope s__law_draw) := ⟨rfl, rfl, rfl, by decide +kernel, rfl, by decide +kernel, by decide +kernel⟩
theorem ok_draw {f : Addr} {fd : FuncData} (F : Fun K "_law_draw" "_law_draw" s__law_draw f fd) (T : Txt K mg A) : FnOk P wo K mg base (L2.CX P wo) 1 f fd (["_law_state", "_law_bound"] : List Str) spDraw := by
  refine okT F sc__law_draw (fun vs H Q E h => ?_) (fun cdv Ar outer s H vs Q E hr tk po h => ?_)
  · obtain ⟨_, _, _, _, rfl, _⟩ := h
    rfl
  obtain ⟨G, a, c, b, rfl, w, b0, b1, k⟩ := h
  refine ⟨_, (pss_cons (ps_set (i := 2) sc__law_draw.nd rfl (by first | exact Or.inl rfl | exact Or.inr rfl) (pe_ix (ka_ix K) (pv 0) pe_int (fun _ _ => rfl)))
      (pss_cons (ps_set (i := 3) sc__law_draw.nd rfl (by first | exact Or.inl rfl | exact Or.inr rfl) (pe_op op_mod (pe_ix (ka_ix K) (pv 0) pe_int (fun _ _ => rfl)) (pe_callB (ka_len K) (by rfl) T.nb_len (by decide +kernel) (pa_cons (pv 2) pa_nil))))
      (pss_cons (ps_set (i := 4) sc__law_draw.nd rfl (by first | exact Or.inl rfl | exact Or.inr rfl) (pe_ix (ka_ix K) (pv 2) (pv 3) (fun _ _ => rfl)))
      (pss_cons (ps_if (pt_cmpR op_ge (pv 4) pe_int (nomark _)) (pss_cons (ps_asg (pe_op op_fdiv (pv 4) (pv 1)) (pg_sub (pv 2) (pv 3) set_list))
      (pss_one (ps_ret (pe_op op_mod (pv 4) (pv 1))))) pss_nil)
      (pss_cons (ps_asg (pe_op (ka_add K) (pe_ix (ka_ix K) (pv 0) pe_int (fun _ _ => rfl)) pe_int) (pg_sub (pv 0) pe_int set_list))
      (pss_cons (ps_asg (pe_op op_mod (pe_op (ka_add K) (pe_op (ka_add K) (pe_op (ka_mul K) (pe_ix (ka_ix K) (pv 0) pe_int (fun _ _ => rfl)) pe_int) (pv 4)) pe_int) pe_int) (pg_sub (pv 0) pe_int set_list))
      (pss_one (ps_ret (pe_op op_mod (pe_op op_fdiv (pe_op op_mod (pe_op (ka_mul K) (pe_ix (ka_ix K) (pv 0) pe_int (fun _ _ => rfl)) (pe_ix (ka_ix K) (pv 0) pe_int (fun _ _ => rfl))) pe_int) pe_int) (pv 1)))))))))), ?_⟩
  obtain ⟨xs, i, m, d, ha, hc⟩ := id w.res
  have hac := RD.apart w.res
  have wH : Wd H R0 H := Wd.r0 H
  have hcl : SqL K H c (xs.map V.int) := SqL.of hc
  have n0 : 0 < xs.length := List.length_pos_iff.mpr d.ne
  walk_at "go"
  refine g_ixL wH (SqL.of ha) (by rfl) ?_
  walk_at "go"
  refine g_ixL wH (SqL.of ha) (by rfl) ?_
  walk_at "go"
  refine g_lenL wH hcl ?_
  rw [List.length_map]
  refine g_I (show (0 : Int) < (xs.length : Int) by omega) ?_
  obtain ⟨j, hj⟩ : ∃ j : Nat, i % (xs.length : Int) = (j : Int) := ⟨(i % (xs.length : Int)).toNat, by
    have := Int.emod_nonneg i (show (xs.length : Int) ≠ 0 by omega)
    omega⟩
  have hjl : j < xs.length := by
    have := Int.emod_lt_of_pos i (show (0 : Int) < (xs.length : Int) by omega)
    omega
  rw [hj]
  have hx : (xs.map V.int)[j]? = some (V.int xs[j]) := by simp [hjl]
  have hp : 0 ≤ xs[j] := d.nn _ (List.getElem_mem hjl)
  walk_at "go"
  refine g_ixL wH hcl (atI_nat hx) ?_
  walk_at "go"
  refine iteD (fun h1 => ?_) (fun h1 => ?_)
  · walk_at "go"
    refine g_I ⟨b0, b1⟩ ?_
    walk_at "go"
    have hi : ixN (xs.map V.int).length (j : Int) = some j := by
      unfold ixN
      rw [List.length_map, if_pos (by omega), if_pos (by omega)]
      simp
    refine g_setL wH hc hi fun H1 w1 => ?_
    walk_at "go"
    refine g_I b0 ?_
    refine k _ _ (Int.emod_nonneg _ (by omega)) (Int.emod_lt_of_pos _ b0) (RD.put w ⟨xs.set j (xs[j] / b), i, m, ⟨?_, ?_, ?_, d.i0, d.m0, d.m1⟩, ?_, ?_⟩ fun q o ha' hc' e => ?_)
    · intro z
      have := congrArg List.length z
      rw [List.length_set] at this
      exact d.ne (List.length_eq_zero_iff.mp this)
    · intro x hx
      rcases List.mem_or_eq_of_mem_set hx with h | h
      · exact d.nn x h
      · rw [h]
        exact Int.ediv_nonneg hp (by omega)
    · rw [List.length_set]
      exact d.len
    · exact w1.get (upd_oth ha hac)
    · rw [List.map_set]
      exact w1.get upd_same
    · exact w1.get (upd_oth e hc')
  · walk_at "go"
    refine g_ixL wH (SqL.of ha) (by rfl) ?_
    walk_at "go"
    refine g_setL (j' := 1) wH ha (by rfl) fun H1 w1 => ?_
    walk_at "go"
    refine g_ixL w1 (SqL.of upd_same) (by rfl) ?_
    walk_at "go"
    refine g_mulI (Or.inr (by decide)) ?_
    walk_at "go"
    refine g_I (show (0 : Int) < 2147483647 by decide) ?_
    walk_at "go"
    refine g_setL (j' := 2) w1 upd_same (by rfl) fun H2 w2 => ?_
    have a2 := w2.get upd_same
    have m20 := Int.emod_nonneg (m * 48271 + xs[j] + 12345) (show (2147483647 : Int) ≠ 0 by decide)
    have m21 := Int.emod_lt_of_pos (m * 48271 + xs[j] + 12345) (show (0 : Int) < 2147483647 by decide)
    generalize (m * 48271 + xs[j] + 12345) % 2147483647 = m2 at *
    walk_at "go"
    refine g_ixL w2 (SqL.of upd_same) (by rfl) ?_
    walk_at "go"
    refine g_ixL w2 (SqL.of upd_same) (by rfl) ?_
    refine g_mulI (Or.inl ⟨by omega, by omega⟩) ?_
    walk_at "go"
    refine g_I (show (0 : Int) < 2147483629 by decide) ?_
    walk_at "go"
    refine g_I (show CDiv _ 16 from ⟨by decide, by decide⟩) ?_
    walk_at "go"
    refine g_I b0 ?_
    refine k _ _ (Int.emod_nonneg _ (by omega)) (Int.emod_lt_of_pos _ b0) (RD.put w ⟨xs, i + 1, m2, ⟨d.ne, d.nn, d.len, by have := d.i0; omega, m20, m21⟩, a2, ?_⟩ fun q o ha' hc' e => ?_)
    · exact w2.get (upd_oth (upd_oth hc hac.symm) hac.symm)
    · exact w2.get (upd_oth (upd_oth e ha') ha')
end
end Sv


set_option Elab.async false
set_option linter.all false
set_option maxRecDepth 100000
set_option maxHeartbeats 4000000
namespace Sv
open PySem PySem.Spec PyProof.Rows L2 Sw
local macro_rules | `(tactic| walk_at "go1") => `(tactic| first
  | ((with_reducible refine' g_var ?hv ?_); (case hv => rfl))
  | with_reducible refine g_c ?_
  | with_reducible refine g_op ?_
  | with_reducible refine g_un ?_
  | with_reducible refine g_seq ?_
  | with_reducible refine g_next ?_
  | with_reducible refine g_asg ?_
  | with_reducible refine g_name ?_
  | with_reducible refine g_drop ?_
  | with_reducible refine g_sub ?_
  | with_reducible refine g_ret ?_
  | with_reducible refine g_retN ?_
  | with_reducible refine g_ifS ?_
  | with_reducible refine g_if ?_
  | with_reducible refine g_test ?_
  | with_reducible refine g_bl ?_
  | with_reducible refine g_cons ?_
  | with_reducible refine g_nil ?_
  | with_reducible refine g_and ?_
  | with_reducible refine g_or ?_
  | with_reducible refine g_not ?_
  | with_reducible refine g_callB ?_
  | with_reducible refine g_addI ?_
  | with_reducible refine g_I0 ?_
  | with_reducible refine g_calG ?_
  | with_reducible refine g_mkG ?_
  | with_reducible refine g_tup ?_
  | with_reducible refine g_pairs1 ?_
  | with_reducible refine g_pairs0 ?_
  | with_reducible refine g_dget ?_
  | with_reducible refine g_lvals ?_
  | with_reducible refine g_forT ?_
  | with_reducible refine g_lcT ?_
  | with_reducible refine g_dput ?_
  | with_reducible refine g_lc2L ?_
  | with_reducible refine g_iList ?_
  | with_reducible refine g_lcX ?_
  | with_reducible refine g_js1 ?_
  | with_reducible refine g_js0 ?_
  | with_reducible refine g_fmt ?_
  | with_reducible refine g_tLenSet ?_
  | with_reducible refine g_mkV ?_
  | with_reducible refine g_mkV1 ?_
  | with_reducible refine g_lst ?_
  | with_reducible refine g_forL ?_
  | with_reducible refine g_forR ?_
  | with_reducible refine g_forR2 ?_
  | with_reducible refine g_forS ?_
  | with_reducible refine g_forE ?_
  | with_reducible refine g_forEB ?_
  | with_reducible refine g_lcL ?_
  | with_reducible refine g_lcR ?_
  | with_reducible refine g_lcS ?_
  | with_reducible refine g_lcE ?_
  | with_reducible refine g_lcEB ?_
  | with_reducible refine g_orT ?_
  | with_reducible refine g_slc ?_
  | with_reducible refine g_noPart ?_
  | with_reducible refine g_part ?_
  | with_reducible refine g_bm ?_
  | with_reducible refine g_par ?_
  | with_reducible refine g_yes ?_
  | with_reducible refine g_tupG ?_
  | with_reducible refine g_lstG ?_
  | with_reducible refine g_gcons ?_
  | with_reducible refine g_gnil ?_
  | with_reducible refine g_chain ?_
  | with_reducible refine g_truB ?_
  | with_reducible refine g_truN ?_
  | with_reducible refine g_truI ?_
  | with_reducible refine g_m1 ?_
  | with_reducible refine g_fld ?_
  | with_reducible refine g_con ?_
  | with_reducible refine g_tru ?_
  | with_reducible refine g_U ?_
  | with_reducible refine g_xg ?_
  | with_reducible refine g_andT ?_
  | with_reducible refine g_exI ?_
  | with_reducible refine g_dnew ?_
  | with_reducible refine g_intB ?_
  | with_reducible refine g_meth ?_
  | with_reducible refine g_prop ?_
  | with_reducible refine g_exc1 ?_
  | with_reducible refine g_setF ?_
  | with_reducible refine g_star ?_
  | with_reducible refine g_strM ?_
  | with_reducible refine iteT ?_
  | with_reducible refine iteF ?_
  | with_reducible refine iteNT ?_
  | with_reducible refine iteNF ?_)
local macro_rules | `(tactic| walk_at "go") => `(tactic| repeat (walk_at "go1"))
local macro_rules | `(tactic| walk_at "sz") => `(tactic| (first | (rw [sizeLine_eq]; simp only [List.length_cons, List.length_nil, List.length_map, List.length_append, List.length_take]; omega) | (rw [sizeLine_eq]; omega)))
section
variable {P : Program} {wo : World} {A : Ad} {K : PySem.W.Frag} {mg : Str → Option Value} {base : Heap}

def spBegun (K : PySem.W.Frag) : Sp := fun vs H Q _ => ∃ (s : Addr) (ns : List Int), vs = [.ref s] ∧ SqL K H s (ns.map V.int) ∧ ∀ a c H', Wd H (RD a c) H' → Q (.ref a) H'
theorem sc__law_begun : FnScope (["_law_script", "_law_cell"] : List Str) (["_law_script"] : List Str) (defScope s__law_begun) := ⟨rfl, rfl, rfl, by decide +kernel, rfl, by decide +kernel, by decide +kernel⟩
theorem cut63 {xs : List V} : cutV xs none (some 63) = xs.take 63 := by
  unfold cutV
  have h1 : HT.sIx xs.length 0 none = 0 := rfl
  have h2 : HT.sIx xs.length xs.length (some 63) = min 63 xs.length := by
    unfold HT.sIx
    simp
    try omega
  rw [h1, h2]
  simp
  try (rw [List.take_eq_take_iff]; omega)
theorem ok_begun {f : Addr} {fd : FuncData} (F : Fun K "_law_begun" "_law_begun" s__law_begun f fd) (T : Txt K mg A) : FnOk P wo K mg base (L2.CX P wo) 1 f fd (["_law_script"] : List Str) (spBegun K) := by
  refine okT F sc__law_begun (fun vs H Q E h => ?_) (fun cdv Ar outer s H vs Q E hr tk po h => ?_)
  · obtain ⟨_, _, rfl, _⟩ := h
    rfl
  obtain ⟨l, ns, rfl, hl, k⟩ := h
  refine ⟨_, (pss_one (ps_ret (pe_lst (pa_cons (ke_orT K (pe_lc (own := [("_law_cell", 1)]) (g := (gName 1)) (tt := tYes) rfl sc__law_begun.nd (ki_list K (pe_slice (ka_sl K) (pv 0) po_none (po_some pe_int))) (blkOk_by (N := (["_law_script", "_law_cell"] : List Str)) (sc := defScope s__law_begun) (by decide +kernel)) (fun _ _ _ _ _ => (pg_name (i := 1) sc__law_begun.nd rfl (by first | exact Or.inl rfl | exact Or.inr rfl))) (fun _ _ _ _ _ => pts_nil) (fun _ _ _ _ _ => (pe_callB call_abs (by rfl) T.nb_abs (by decide +kernel) (pa_cons (pv 1) pa_nil)))) (pe_one (pe_lst (pa_cons pe_int pa_nil)))) (pa_cons pe_int (pa_cons pe_int pa_nil)))))), ?_⟩
  have w := Wd.r0 H
  walk_at "go"
  refine g_slL w hl fun p H1 np w1 => ?_
  rw [cut63, ← List.map_take] at w1
  refine ⟨p, rfl, ⟨_, SqL.of (w1.get upd_same)⟩, ?_⟩
  refine lc_it (itf_list (xs := (ns.take 63).map V.int)) w1 (fun H' e => SqL.of (e _ _ upd_same)) (by walk_at "sz") (fun i _ acc => ∃ ys : List Int, acc = ys.map V.int ∧ (∀ y ∈ ys, 0 ≤ y) ∧ ys.length = i) ⟨[], rfl, by simp, rfl⟩ ?_ ?_
  · rintro i x Gi acc D H2 H2' hi e nD ⟨ys, rfl, nn, hy⟩ hl2 w2 ⟨rfl, hx⟩
    obtain ⟨u, rfl⟩ : ∃ u, x = V.int u := by
      rw [List.getElem?_map] at hx
      cases e : (ns.take 63)[i]? with
      | none => rw [e] at hx; cases hx
      | some u => rw [e] at hx; exact ⟨u, (Option.some.inj hx).symm⟩
    walk_at "go"
    refine ⟨rfl, ?_⟩
    walk_at "go"
    refine ⟨_, rfl, ?_⟩
    refine lc_keep (Pv := fun i _ acc => ∃ ys : List Int, acc = ys.map V.int ∧ (∀ y ∈ ys, 0 ≤ y) ∧ ys.length = i) w2 e nD hl2 hi (by walk_at "sz") ⟨ys ++ [if u < 0 then -u else u], by simp, ?_, by simp [hy]⟩
    intro y hy'
    rcases List.mem_append.mp hy' with h | h
    · exact nn y h
    · rw [List.mem_singleton] at h
      rw [h]
      split <;> omega
  · rintro D Gn acc H2 e nD ⟨ys, rfl, nn, hy⟩ hl2 w2
    have hys : ys.length ≤ 63 := by
      rw [hy, List.length_map, List.length_take]
      omega
    refine ⟨_, .inl ⟨_, SqL.of (w2.get upd_same), rfl⟩, ?_⟩
    have fin : ∀ (c : Addr) (cs : List Int) (H3 : Hp), Same H H3 → H c = none → H3 c = some (.lst (cs.map V.int)) → cs ≠ [] → (∀ y ∈ cs, 0 ≤ y) → cs.length ≤ 63 → ∀ a, H3 a = none → Q (.ref a) (upd H3 a (.lst [.ref c, .int 0, .int 1])) := by
      intro c cs H3 e3 nc hc h1 h2 h3 a ha
      have hca : c ≠ a := ne_of_none hc ha
      refine k a c _ ⟨Same.trans e3 (Same.newG ha), fun b hb => ?_, ⟨cs, 0, 1, ⟨h1, h2, h3, by decide, by decide, by decide⟩, upd_same, by rw [upd_ne hca]; exact hc⟩⟩
      rcases List.mem_cons.mp hb with rfl | hb
      · exact Same.free e3 ha
      · rw [List.mem_singleton] at hb
        rw [hb]
        exact nc
    have e0 : Same H H2 := Same.trans (Same.trans (Same.newG np) e) (Same.trans (Same.newG nD) w2.sub)
    refine iteB (fun hb => ?_) (fun hb => ?_)
    · walk_at "go"
      refine ⟨by walk_at "sz", ?_⟩
      refine fin D ys _ e0 (Same.free (Same.newG np) (Same.free e nD)) (w2.get upd_same) (fun z => ?_) nn hys
      rw [z] at hb
      cases hb
    · walk_at "go"
      refine ⟨by walk_at "sz", fun q hq => ?_⟩
      walk_at "go"
      refine ⟨by walk_at "sz", ?_⟩
      exact fin q [7] _ (Same.trans e0 (Same.newG hq)) (Same.free e0 hq) upd_same (by simp) (by simp) (by simp)

/-! ### a choice out of a list, out of a text -/
def spPick (K : PySem.W.Frag) : Sp := fun vs H Q _ => ∃ G a c, Wd G (RD a c) H ∧
  ((∃ p xs, vs = [.ref a, .ref p] ∧ (SqL K G p xs ∨ SqT K G p xs) ∧ 0 < xs.length ∧ xs.length < 1000000 ∧ ∀ x H', x ∈ xs → Wd G (RD a c) H' → Q x H') ∨
  (∃ z : Str, vs = [.ref a, .str z] ∧ 0 < z.length ∧ z.length < 1000000 ∧ ∀ ch H', ch ∈ z.cps.toList → Wd G (RD a c) H' → Q (.str ⟨#[ch]⟩) H'))
theorem sc__law_pick : FnScope (["_law_state", "_law_some"] : List Str) (["_law_state", "_law_some"] : List Str) (defScope s__law_pick) := ⟨rfl, rfl, rfl, by decide +kernel, rfl, by decide +kernel, by decide +kernel⟩
theorem ok_pick {f : Addr} {fd : FuncData} (F : Fun K "_law_pick" "_law_pick" s__law_pick f fd) (T : Txt K mg A) (Gd : GFn P wo K mg base 1 "_law_draw" 2 [] (fun vs _ => spDraw vs)) : FnOk P wo K mg base (L2.CX P wo) 2 f fd (["_law_state", "_law_some"] : List Str) (spPick K) := by
  refine okT F sc__law_pick (fun vs H Q E h => ?_) (fun cdv Ar outer s H vs Q E hr tk po h => ?_)
  · obtain ⟨_, _, _, _, ⟨_, _, rfl, _⟩ | ⟨_, rfl, _⟩⟩ := h <;> rfl
  obtain ⟨G, a, c, w, h⟩ := h
  refine ⟨_, (pss_one (ps_ret (pe_ix (ka_ix K) (pv 1) (pe_callG Gd (hr.mono (by decide)) tk (pa_cons (pv 0) (pa_cons (pe_callB (ka_len K) (by rfl) T.nb_len (by decide +kernel) (pa_cons (pv 1) pa_nil)) pa_nil)) pk_nil) (fun _ _ => rfl)))), ?_⟩
  rcases h with ⟨p, xs, rfl, hp, h0, h1, k⟩ | ⟨z, rfl, h0, h1, k⟩
  · walk_at "go"
    have rd : ∀ {H1 : Hp} {Q1 : VK}, Wd G (RD a c) H1 → (∀ r H', 0 ≤ r → r < (xs.length : Int) → Wd G (RD a c) H' → Q1 (.int r) H') → spDraw [V.ref a, V.int xs.length] H1 Q1 E := fun w1 q => ⟨G, a, c, _, rfl, w1, by omega, by omega, q⟩
    have fin : ∀ r H', 0 ≤ r → r < (xs.length : Int) → Wd G (RD a c) H' → rIx K (.ref p) (.int r) H' Q := by
      intro r H' r0 r1 w'
      obtain ⟨j, rfl⟩ : ∃ j : Nat, r = j := ⟨r.toNat, by omega⟩
      have hj : j < xs.length := by omega
      rcases hp with hp | hp
      · exact g_ixL w' hp (atI_nat (List.getElem?_eq_getElem hj)) (k _ _ (List.getElem_mem hj) w')
      · exact g_ixT w' hp (atI_nat (List.getElem?_eq_getElem hj)) (k _ _ (List.getElem_mem hj) w')
    rcases id hp with hp' | hp'
    · refine g_lenL w hp' ?_
      walk_at "go"
      refine ⟨rfl, rfl, ?_⟩
      exact rd w fun r H' r0 r1 w' => fin r H' r0 r1 w'
    · refine g_lenT w hp' ?_
      walk_at "go"
      refine ⟨rfl, rfl, ?_⟩
      exact rd w fun r H' r0 r1 w' => fin r H' r0 r1 w'
  · walk_at "go"
    have hz : z.length ≤ sizeLine := by rw [sizeLine_eq]; omega
    refine g_lenS hz ?_
    walk_at "go"
    refine ⟨rfl, rfl, ?_⟩
    refine ⟨G, a, c, _, rfl, w, by omega, by omega, fun r H' r0 r1 w' => ?_⟩
    obtain ⟨j, rfl⟩ : ∃ j : Nat, r = j := ⟨r.toNat, by omega⟩
    have hj : j < z.cps.toList.length := by
      have : z.cps.toList.length = z.length := by simp [Str.length]
      omega
    exact g_ixS hz (atI_nat (List.getElem?_eq_getElem hj)) (k _ _ (List.getElem_mem hj) w')
end
end Sv


set_option Elab.async false
set_option linter.all false
set_option maxRecDepth 100000
set_option maxHeartbeats 4000000
namespace Sv
open PySem PySem.Spec PyProof.Rows L2 Sw
local macro_rules | `(tactic| walk_at "go1") => `(tactic| first
  | ((with_reducible refine' g_var ?hv ?_); (case hv => rfl))
  | with_reducible refine g_c ?_
  | with_reducible refine g_op ?_
  | with_reducible refine g_un ?_
  | with_reducible refine g_seq ?_
  | with_reducible refine g_next ?_
  | with_reducible refine g_asg ?_
  | with_reducible refine g_name ?_
  | with_reducible refine g_drop ?_
  | with_reducible refine g_sub ?_
  | with_reducible refine g_ret ?_
  | with_reducible refine g_retN ?_
  | with_reducible refine g_ifS ?_
  | with_reducible refine g_if ?_
  | with_reducible refine g_test ?_
  | with_reducible refine g_bl ?_
  | with_reducible refine g_cons ?_
  | with_reducible refine g_nil ?_
  | with_reducible refine g_and ?_
  | with_reducible refine g_or ?_
  | with_reducible refine g_not ?_
  | with_reducible refine g_callB ?_
  | with_reducible refine g_addI ?_
  | with_reducible refine g_I0 ?_
  | with_reducible refine g_calG ?_
  | with_reducible refine g_mkG ?_
  | with_reducible refine g_tup ?_
  | with_reducible refine g_pairs1 ?_
  | with_reducible refine g_pairs0 ?_
  | with_reducible refine g_dget ?_
  | with_reducible refine g_lvals ?_
  | with_reducible refine g_forT ?_
  | with_reducible refine g_lcT ?_
  | with_reducible refine g_dput ?_
  | with_reducible refine g_lc2L ?_
  | with_reducible refine g_iList ?_
  | with_reducible refine g_lcX ?_
  | with_reducible refine g_js1 ?_
  | with_reducible refine g_js0 ?_
  | with_reducible refine g_fmt ?_
  | with_reducible refine g_tLenSet ?_
  | with_reducible refine g_mkV ?_
  | with_reducible refine g_mkV1 ?_
  | with_reducible refine g_lst ?_
  | with_reducible refine g_forL ?_
  | with_reducible refine g_forR ?_
  | with_reducible refine g_forR2 ?_
  | with_reducible refine g_forS ?_
  | with_reducible refine g_forE ?_
  | with_reducible refine g_forEB ?_
  | with_reducible refine g_lcL ?_
  | with_reducible refine g_lcR ?_
  | with_reducible refine g_lcS ?_
  | with_reducible refine g_lcE ?_
  | with_reducible refine g_lcEB ?_
  | with_reducible refine g_orT ?_
  | with_reducible refine g_slc ?_
  | with_reducible refine g_noPart ?_
  | with_reducible refine g_part ?_
  | with_reducible refine g_bm ?_
  | with_reducible refine g_par ?_
  | with_reducible refine g_yes ?_
  | with_reducible refine g_tupG ?_
  | with_reducible refine g_lstG ?_
  | with_reducible refine g_gcons ?_
  | with_reducible refine g_gnil ?_
  | with_reducible refine g_chain ?_
  | with_reducible refine g_truB ?_
  | with_reducible refine g_truN ?_
  | with_reducible refine g_truI ?_
  | with_reducible refine g_m1 ?_
  | with_reducible refine g_fld ?_
  | with_reducible refine g_con ?_
  | with_reducible refine g_tru ?_
  | with_reducible refine g_U ?_
  | with_reducible refine g_xg ?_
  | with_reducible refine g_andT ?_
  | with_reducible refine g_exI ?_
  | with_reducible refine g_dnew ?_
  | with_reducible refine g_intB ?_
  | with_reducible refine g_meth ?_
  | with_reducible refine g_prop ?_
  | with_reducible refine g_exc1 ?_
  | with_reducible refine g_setF ?_
  | with_reducible refine g_star ?_
  | with_reducible refine g_strM ?_
  | with_reducible refine iteT ?_
  | with_reducible refine iteF ?_
  | with_reducible refine iteNT ?_
  | with_reducible refine iteNF ?_)
local macro_rules | `(tactic| walk_at "go") => `(tactic| repeat (walk_at "go1"))
local macro_rules | `(tactic| walk_at "sz") => `(tactic| (first | (rw [sizeLine_eq]; simp only [List.length_cons, List.length_nil, List.length_map, List.length_append, List.length_take]; omega) | (rw [sizeLine_eq]; omega)))
section
variable {P : Program} {wo : World} {A : Ad} {K : PySem.W.Frag} {mg : Str → Option Value} {base : Heap}

def resv : List Str := ["key", "limit", "order", "self", "table"]
def letters : Str := "abcdefghijklmnopqrstuvwxyz"
def lowS (s : Str) : Bool := s.cps.toList.all fun c => decide (c ∈ letters.cps.toList)
def isNm (s : Str) : Bool := decide (1 ≤ s.length) && decide (s.length ≤ 8) && !inV (.str s) (resv.map V.str) && lowS s
/-- no text: isinstance(v, str) says False -/
def NotStr (K : PySem.W.Frag) (H : Hp) (v : V) : Prop := ∃ t, TyX K H v t ∧ PySem.W.kitOne K t (.type "str") = some false
theorem kit_str : PySem.W.kitOne K (.type "str") (.type "str") = some true := kit_ty (by decide +kernel)
def spIsName (K : PySem.W.Frag) : Sp := fun vs H Q _ => ∃ v, vs = [v] ∧ ((∃ s : Str, v = .str s ∧ s.length ≤ 1000000 ∧ ∀ H', Same H H' → Q (.bl (isNm s)) H') ∨ (NotStr K H v ∧ ∀ H', Same H H' → Q (.bl false) H'))
theorem sc_is_name : FnScope (["value", "letter"] : List Str) (["value"] : List Str) (defScope s_is_name) := ⟨rfl, rfl, rfl, by decide +kernel, rfl, by decide +kernel, by decide +kernel⟩
theorem ok_is_name {f : Addr} {fd : FuncData} (F : Fun K "is_name" "is_name" s_is_name f fd) (T : Txt K mg A) : FnOk P wo K mg base (L2.CX P wo) 1 f fd (["value"] : List Str) (spIsName K) := by
  refine okT F sc_is_name (fun vs H Q E h => ?_) (fun cdv Ar outer s H vs Q E hr tk po h => ?_)
  · obtain ⟨_, rfl, _⟩ := h
    rfl
  obtain ⟨v, rfl, h⟩ := h
  refine ⟨_, (pss_cons (ps_if (PW.pt (pw_or (pt_not (kt_truth K (pe_callB (ka_isi K) (by rfl) T.nb_isinstance (by decide +kernel) (pa_cons (pv 0) (pa_cons (pe_bltn (v := .ty "str") (u := .type "str") (by rfl) T.nb_str (by decide +kernel) rfl) pa_nil))) (by intro _; rfl))) (pw_or (pt_not (pt_chain op_le op_le pe_int (pe_callB (ka_len K) (by rfl) T.nb_len (by decide +kernel) (pa_cons (pv 0) pa_nil)) (pe_globE (by rfl) T.g_LONGEST_NAME))) (pw_or1 (pt_cmpR (ka_in K) (pv 0) (pe_globE (by rfl) T.g_RESERVED) (by first | exact nomark _ | rfl)))))) (pss_one (ps_ret pe_bl)) pss_nil)
      (pss_one (ps_ret (pe_callB (ka_all K rfl) (by rfl) T.nb_all (by decide +kernel) (pa_cons (pe_lc (own := [("letter", 1)]) (g := (gName 1)) (tt := tYes) rfl sc_is_name.nd (pi_str (pv 0)) (blkOk_by (N := (["value", "letter"] : List Str)) (sc := defScope s_is_name) (by decide +kernel)) (fun _ _ _ _ _ => (pg_name (i := 1) sc_is_name.nd rfl (by first | exact Or.inl rfl | exact Or.inr rfl))) (fun _ _ _ _ _ => pts_nil) (fun _ _ _ _ _ => (pe_cmpR (ka_in K) (pv 1) (pe_globE (by rfl) T.g_LETTERS) (by first | exact nomark _ | rfl)))) pa_nil))))), ?_⟩
  have w := Wd.r0 H
  rcases h with ⟨z, rfl, hz, k⟩ | ⟨⟨t, ht, hk⟩, k⟩
  · have hz' : z.length ≤ sizeLine := by rw [sizeLine_eq]; omega
    walk_at "go"
    refine g_isi (.ty _) (.base (.str z)) kit_str ?_
    walk_at "go"
    refine g_lenS hz' ?_
    walk_at "go"
    have res : isNm z = (decide (1 ≤ z.length) && decide (z.length ≤ 8) && !inV (.str z) (resv.map V.str) && lowS z) := rfl
    refine iteD (fun h1 => ?_) (fun h1 => ?_)
    · walk_at "go"
      refine iteN (fun h2 => ?_) (fun h2 => ?_)
      · walk_at "go"
        have e : isNm z = false := by
          rw [res, decide_eq_false (show ¬ z.length ≤ 8 by omega), Bool.and_false]
          rfl
        rw [← e]
        exact k H (Same.refl H)
      walk_at "go"
      refine g_inT w (T.t_RESERVED H) rfl rfl ?_
      walk_at "go"
      refine iteB (fun h3 => ?_) (fun h3 => ?_)
      · walk_at "go"
        have e : isNm z = false := by
          rw [res, show inV (.str z) (resv.map V.str) = true from h3, Bool.not_true, Bool.and_false]
          rfl
        rw [← e]
        exact k H (Same.refl H)
      walk_at "go"
      have e : isNm z = lowS z := by
        rw [res, decide_eq_true (show 1 ≤ z.length by omega), decide_eq_true (show z.length ≤ 8 by omega), show inV (.str z) (resv.map V.str) = false from h3]
        simp
      rw [e] at k
      refine ⟨z, rfl, ?_⟩
      refine lc_it itf_str w (fun _ _ => True.intro) (by rw [sizeLine_eq]; have : z.cps.size = z.length := rfl; omega) (fun i _ acc => acc = ((z.cps.toList.take i).map fun c => decide (c ∈ letters.cps.toList)).map V.bl) rfl ?_ ?_
      · rintro i x Gi acc D H2 H2' hi e nD ha hl2 w2 ⟨rfl, c, hc, rfl⟩
        walk_at "go"
        refine ⟨rfl, ?_⟩
        walk_at "go"
        refine g_inSg ?_
        refine lc_keep (Pv := fun i _ acc => acc = ((z.cps.toList.take i).map fun c => decide (c ∈ letters.cps.toList)).map V.bl) w2 e nD hl2 hi (by rw [sizeLine_eq]; have : z.cps.size = z.length := rfl; omega) ?_
        have hc' : z.cps.toList[i]? = some c := by simpa using hc
        rw [ha, List.take_add_one, hc']
        simp
        rfl
      · rintro D Gn acc H2 e nD rfl hl2 w2
        walk_at "go"
        have hlen : z.cps.size = z.cps.toList.length := by simp
        rw [hlen, List.take_length] at w2
        refine g_all w2 (SqL.of upd_same) ?_
        rw [List.all_map]
        exact k _ (Same.trans (Same.trans e (Same.newG nD)) w2.sub)
    · walk_at "go"
      have e : isNm z = false := by
        rw [res, decide_eq_false (show ¬ 1 ≤ z.length by omega)]
        rfl
      rw [← e]
      exact k H (Same.refl H)
  · walk_at "go"
    refine g_isi (.ty _) ht hk ?_
    walk_at "go"
    exact k H (Same.refl H)
end
end Sv


set_option Elab.async false
set_option linter.all false
set_option maxRecDepth 100000
set_option maxHeartbeats 4000000
namespace Sv
open PySem PySem.Spec PyProof.Rows L2 Sw
local macro_rules | `(tactic| walk_at "go1") => `(tactic| first
  | ((with_reducible refine' g_var ?hv ?_); (case hv => rfl))
  | with_reducible refine g_c ?_
  | with_reducible refine g_op ?_
  | with_reducible refine g_un ?_
  | with_reducible refine g_seq ?_
  | with_reducible refine g_next ?_
  | with_reducible refine g_asg ?_
  | with_reducible refine g_name ?_
  | with_reducible refine g_drop ?_
  | with_reducible refine g_sub ?_
  | with_reducible refine g_ret ?_
  | with_reducible refine g_retN ?_
  | with_reducible refine g_ifS ?_
  | with_reducible refine g_if ?_
  | with_reducible refine g_test ?_
  | with_reducible refine g_bl ?_
  | with_reducible refine g_cons ?_
  | with_reducible refine g_nil ?_
  | with_reducible refine g_and ?_
  | with_reducible refine g_or ?_
  | with_reducible refine g_not ?_
  | with_reducible refine g_callB ?_
  | with_reducible refine g_addI ?_
  | with_reducible refine g_I0 ?_
  | with_reducible refine g_calG ?_
  | with_reducible refine g_mkG ?_
  | with_reducible refine g_tup ?_
  | with_reducible refine g_pairs1 ?_
  | with_reducible refine g_pairs0 ?_
  | with_reducible refine g_dget ?_
  | with_reducible refine g_lvals ?_
  | with_reducible refine g_forT ?_
  | with_reducible refine g_lcT ?_
  | with_reducible refine g_dput ?_
  | with_reducible refine g_lc2L ?_
  | with_reducible refine g_iList ?_
  | with_reducible refine g_lcX ?_
  | with_reducible refine g_js1 ?_
  | with_reducible refine g_js0 ?_
  | with_reducible refine g_fmt ?_
  | with_reducible refine g_tLenSet ?_
  | with_reducible refine g_mkV ?_
  | with_reducible refine g_mkV1 ?_
  | with_reducible refine g_lst ?_
  | with_reducible refine g_forL ?_
  | with_reducible refine g_forR ?_
  | with_reducible refine g_forR2 ?_
  | with_reducible refine g_forS ?_
  | with_reducible refine g_forE ?_
  | with_reducible refine g_forEB ?_
  | with_reducible refine g_lcL ?_
  | with_reducible refine g_lcR ?_
  | with_reducible refine g_lcS ?_
  | with_reducible refine g_lcE ?_
  | with_reducible refine g_lcEB ?_
  | with_reducible refine g_orT ?_
  | with_reducible refine g_slc ?_
  | with_reducible refine g_noPart ?_
  | with_reducible refine g_part ?_
  | with_reducible refine g_bm ?_
  | with_reducible refine g_par ?_
  | with_reducible refine g_yes ?_
  | with_reducible refine g_tupG ?_
  | with_reducible refine g_lstG ?_
  | with_reducible refine g_gcons ?_
  | with_reducible refine g_gnil ?_
  | with_reducible refine g_chain ?_
  | with_reducible refine g_truB ?_
  | with_reducible refine g_truN ?_
  | with_reducible refine g_truI ?_
  | with_reducible refine g_m1 ?_
  | with_reducible refine g_fld ?_
  | with_reducible refine g_con ?_
  | with_reducible refine g_tru ?_
  | with_reducible refine g_U ?_
  | with_reducible refine g_xg ?_
  | with_reducible refine g_andT ?_
  | with_reducible refine g_exI ?_
  | with_reducible refine g_dnew ?_
  | with_reducible refine g_intB ?_
  | with_reducible refine g_meth ?_
  | with_reducible refine g_prop ?_
  | with_reducible refine g_exc1 ?_
  | with_reducible refine g_setF ?_
  | with_reducible refine g_star ?_
  | with_reducible refine g_strM ?_
  | with_reducible refine iteT ?_
  | with_reducible refine iteF ?_
  | with_reducible refine iteNT ?_
  | with_reducible refine iteNF ?_)
local macro_rules | `(tactic| walk_at "go") => `(tactic| repeat (walk_at "go1"))
local macro_rules | `(tactic| walk_at "sz") => `(tactic| (first | (rw [sizeLine_eq]; simp only [List.length_cons, List.length_nil, List.length_map, List.length_append, List.length_take]; omega) | (rw [sizeLine_eq]; omega)))
/-! ### columns -/
inductive Kd where
  | int | text | ref
  deriving DecidableEq
def kcls (A : Ad) : Kd → Addr
  | .int => A.IntColumn
  | .text => A.TextColumn
  | .ref => A.RefColumn
def kstr : Kd → Str
  | .int => "int"
  | .text => "text"
  | .ref => "ref"
structure Col where
  k : Kd
  name : Str
  opt : Bool
  target : Str
  rule : Str
def optW (b : Bool) : List Str := if b = true then ["optional"] else []
def Col.words0 (c : Col) : List Str := [kstr c.k, c.name] ++ optW c.opt
def Col.words (c : Col) : List Str := if c.k = .ref then [kstr c.k, c.name, c.target] ++ optW c.opt ++ [c.rule] else c.words0
def Col.text (c : Col) : Str := Txt.join " " c.words
def Col.fs0 (c : Col) : List (Str × V) := [("name", .str c.name), ("optional", .bl c.opt)]
def Col.fs (c : Col) : List (Str × V) := if c.k = .ref then c.fs0 ++ ([("target", .str c.target), ("rule", .str c.rule)] : List (Str × V)) else c.fs0
theorem lk_ne {f g : Str} {x : V} {r : List (Str × V)} (h : (f == g) = false) : List.lookup f ((g, x) :: r) = List.lookup f r := by
  rw [List.lookup_cons, h]
theorem lk_eq {f : Str} {x : V} {r : List (Str × V)} : List.lookup f ((f, x) :: r) = some x := by
  rw [List.lookup_cons, beq_self_eq_true]
theorem Col.l_kind (c : Col) : c.fs.lookup ("KIND" : Str) = none := by
  unfold Col.fs Col.fs0
  split
  · rw [List.cons_append, List.cons_append, List.nil_append, lk_ne (by decide +kernel), lk_ne (by decide +kernel), lk_ne (by decide +kernel), lk_ne (by decide +kernel)]; rfl
  · rw [lk_ne (by decide +kernel), lk_ne (by decide +kernel)]; rfl
theorem Col.l_words (c : Col) : c.fs.lookup ("words" : Str) = none := by
  unfold Col.fs Col.fs0
  split
  · rw [List.cons_append, List.cons_append, List.nil_append, lk_ne (by decide +kernel), lk_ne (by decide +kernel), lk_ne (by decide +kernel), lk_ne (by decide +kernel)]; rfl
  · rw [lk_ne (by decide +kernel), lk_ne (by decide +kernel)]; rfl
theorem Col.l_name (c : Col) : c.fs.lookup ("name" : Str) = some (.str c.name) := by
  unfold Col.fs Col.fs0
  split <;> exact lk_eq
theorem Col.l_opt (c : Col) : c.fs.lookup ("optional" : Str) = some (.bl c.opt) := by
  unfold Col.fs Col.fs0
  split
  · rw [List.cons_append, List.cons_append, List.nil_append, lk_ne (by decide +kernel), lk_eq]
  · rw [lk_ne (by decide +kernel), lk_eq]
theorem Col.l_target (c : Col) (h : c.k = .ref) : c.fs.lookup ("target" : Str) = some (.str c.target) := by
  unfold Col.fs Col.fs0
  rw [if_pos h, List.cons_append, List.cons_append, List.nil_append, lk_ne (by decide +kernel), lk_ne (by decide +kernel), lk_eq]
theorem Col.l_rule (c : Col) (h : c.k = .ref) : c.fs.lookup ("rule" : Str) = some (.str c.rule) := by
  unfold Col.fs Col.fs0
  rw [if_pos h, List.cons_append, List.cons_append, List.nil_append, lk_ne (by decide +kernel), lk_ne (by decide +kernel), lk_ne (by decide +kernel), lk_eq]
def rules : List Str := ["restrict", "clear", "cascade"]
def ruleOk (r : Str) (o : Bool) : Bool := inV (.str r) (rules.map V.str) && !(decide (r = "clear") && !o)
def Col.ok (c : Col) : Prop := isNm c.name = true ∧ (c.k = .ref → isNm c.target = true ∧ ruleOk c.rule c.opt = true)
def ColAt (A : Ad) (G : Hp) (a : Addr) (c : Col) : Prop := ∃ dx, G a = some (.ins (kcls A c.k) dx c.fs)
theorem putF_ne {f g : Str} {v x : V} {r : List (Str × V)} (h : decide (g = f) = false) : putF f v ((g, x) :: r) = (g, x) :: putF f v r := by
  show (if g = f then (g, v) :: r else (g, x) :: putF f v r) = _
  rw [if_neg (of_decide_eq_false h)]
theorem ColAt.same {A : Ad} {G G' : Hp} {a : Addr} {c : Col} (h : ColAt A G a c) (e : Same G G') : ColAt A G' a c := ⟨_, e _ _ h.choose_spec⟩
/-- what the text says of the three classes -/
structure ColF (K : PySem.W.Frag) (A : Ad) : Prop where
  cls : ∀ k, Cls K (kcls A k)
  na : ∀ k, NoAttr K (kcls A k) "name"
  no : ∀ k, NoAttr K (kcls A k) "optional"
  nt : NoAttr K A.RefColumn "target"
  nr : NoAttr K A.RefColumn "rule"
  kd : ∀ k, ∃ u, Con K (kcls A k) "KIND" (.str (kstr k)) u
/-- a name or no text -/
def Nmb (K : PySem.W.Frag) (H : Hp) (v : V) (b : Bool) : Prop := (∃ s : Str, v = .str s ∧ s.length ≤ 1000000 ∧ b = isNm s) ∨ (NotStr K H v ∧ b = false)
theorem Nmb.same {K : PySem.W.Frag} {G H : Hp} {v : V} {b : Bool} (h : Nmb K G v b) (e : Same G H) : Nmb K H v b := by
  rcases h with ⟨s, h⟩ | ⟨⟨t, h1, h2⟩, h3⟩
  · exact .inl ⟨s, h⟩
  · exact .inr ⟨⟨t, tyX_same e h1, h2⟩, h3⟩
theorem Nmb.ins {K : PySem.W.Frag} {G : Hp} {v : V} {b : Bool} {x C dx : Addr} {fs fs' : List (Str × V)} (h : Nmb K G v b) (hx : G x = some (.ins C dx fs)) : Nmb K (upd G x (.ins C dx fs')) v b := by
  rcases h with ⟨s, h⟩ | ⟨⟨t, h1, h2⟩, h3⟩
  · exact .inl ⟨s, h⟩
  · exact .inr ⟨⟨t, tyX_ins hx h1, h2⟩, h3⟩
theorem Nmb.is {K : PySem.W.Frag} {H : Hp} {v : V} {b : Bool} {Q : VK} {E : XK} (h : Nmb K H v b) (k : ∀ H', Same H H' → Q (.bl b) H') : spIsName K [v] H Q E := by
  rcases h with ⟨s, rfl, hs, rfl⟩ | ⟨h, rfl⟩
  · exact ⟨_, rfl, .inl ⟨s, rfl, hs, k⟩⟩
  · exact ⟨_, rfl, .inr ⟨h, k⟩⟩
section
variable {P : Program} {wo : World} {A : Ad} {K : PySem.W.Frag} {mg : Str → Option Value} {base : Heap}

/-- Column.__init__: a name, or InvalidName -/
def spColInit (K : PySem.W.Frag) (A : Ad) : Sp := fun vs H Q E => ∃ G R x C dx v o b, vs = [.ref x, v, .bl o] ∧ Wd G R H ∧ G x = some (.ins C dx []) ∧ Cls K C ∧ NoAttr K C "name" ∧ NoAttr K C "optional" ∧ Nmb K G v b ∧
  (b = true → ∀ H', Wd (upd G x (.ins C dx [("name", v), ("optional", .bl o)])) R H' → Q .non H') ∧
  (b = false → ∀ d H', G d = none → Wd (upd G d (.xd [("name", v)])) R H' → E (.ref A.InvalidName) (some d) H')
theorem sc_Column___init__ : FnScope (["self", "name", "optional"] : List Str) (["self", "name", "optional"] : List Str) (defScope s_Column___init__) := ⟨rfl, rfl, rfl, by decide +kernel, rfl, by decide +kernel, by decide +kernel⟩
theorem ok_col_init {f : Addr} {fd : FuncData} (F : FunD K "__init__" "Column.__init__" (defArgs s_Column___init__) (defBody s_Column___init__) (defScope s_Column___init__) [] [("optional", .bl false)] f fd) (T : Txt K mg A)
    (Gn : GFn P wo K mg base 1 "is_name" 1 [] (fun vs _ => spIsName K vs)) (XN : Exc1 P wo K mg base "InvalidName" A.InvalidName "name") : FnOk P wo K mg base (L2.CX P wo) 3 f fd (["self", "name", "optional"] : List Str) (spColInit K A) := by
  refine okTD F sc_Column___init__ (fun vs H Q E h => ?_) (fun cdv Ar outer s H vs Q E hr tk po h => ?_)
  · obtain ⟨_, _, _, _, _, _, _, _, rfl, _⟩ := h
    rfl
  obtain ⟨G, R, x, C, dx, v, o, b, rfl, w, hx, hC, h1, h2, hn, k1, k2⟩ := h
  refine ⟨_, (pss_cons (ps_if (pt_not (kt_truth K (pe_callG Gn (hr.mono (by decide)) tk (pa_cons (pv 1) pa_nil) pk_nil) (by intro _; rfl))) (pss_one (ps_raise rfl tk (pmk_exc1 XN (hr.mono (by decide)) (pa_cons (pv 1) pa_nil)))) pss_nil)
      (pss_cons (ps_fld (pv 0) (pv 1) rfl)
      (pss_one (ps_fld (pv 0) (pv 2) rfl)))), ?_⟩
  walk_at "go"
  refine ⟨rfl, rfl, (hn.same w.sub).is fun H1 e1 => ?_⟩
  have w1 := w.same e1
  walk_at "go"
  refine iteBN (fun e => ?_) (fun e => ?_)
  · subst e
    walk_at "go"
    exact ⟨v, rfl, fun d hd => k2 rfl d _ (w1.free hd) (w1.new hd)⟩
  · subst e
    walk_at "go"
    refine g_sf w1 hx hC h1 (show 0 < 1000 by decide) fun H2 w2 => ?_
    rw [putF_nil] at w2
    walk_at "go"
    refine g_sf w2 upd_same hC h2 (show 1 < 1000 by decide) fun H3 w3 => ?_
    rw [upd_upd, putF_ne (by decide +kernel), putF_nil] at w3
    exact k1 rfl _ w3

def spWords0 (A : Ad) : Sp := fun vs H Q _ => ∃ G R x c, vs = [.ref x] ∧ Wd G R H ∧ ColAt A G x c ∧ ∀ p H', G p = none → Wd (upd G p (.lst (c.words0.map V.str))) R H' → Q (.ref p) H'
theorem sc_Column_words : FnScope (["self"] : List Str) (["self"] : List Str) (defScope s_Column_words) := ⟨rfl, rfl, rfl, by decide +kernel, rfl, by decide +kernel, by decide +kernel⟩
theorem ok_words0 {f : Addr} {fd : FuncData} (F : Fun K "words" "Column.words" s_Column_words f fd) (T : Txt K mg A) (CF : ColF K A) : FnOk P wo K mg base (L2.CX P wo) 1 f fd (["self"] : List Str) (spWords0 A) := by
  refine okT F sc_Column_words (fun vs H Q E h => ?_) (fun cdv Ar outer s H vs Q E hr tk po h => ?_)
  · obtain ⟨_, _, _, _, rfl, _⟩ := h
    rfl
  obtain ⟨G, R, x, c, rfl, w, ⟨dx, hx⟩, k⟩ := h
  obtain ⟨u, hu⟩ := CF.kd c.k
  have l0 := c.l_kind
  have l1 := c.l_name
  have l2 := c.l_opt
  refine ⟨_, (pss_one (ps_ret (pe_op (ka_add K) (pe_lst (pa_cons (ke_con K (pv 0) rfl) (pa_cons (ke_fld K (pv 0) rfl) pa_nil))) (pe_ifExp (kt_truth K (ke_fld K (pv 0) rfl) (by intro _; rfl)) (pe_lst (pa_cons pe_str pa_nil)) (pe_lst pa_nil))))), ?_⟩
  walk_at "go"
  refine g_gc w hx (CF.cls _) hu l0 ?_
  walk_at "go"
  refine g_gf w hx (CF.cls _) (CF.na _) l1 ?_
  walk_at "go"
  refine g_newL w (by walk_at "sz") fun p1 H1 n1 w1 => ?_
  walk_at "go"
  refine g_gf w1 (upd_old hx n1) (CF.cls _) (CF.no _) l2 ?_
  walk_at "go"
  refine iteB (fun e => ?_) (fun e => ?_)
  · walk_at "go"
    refine g_newL w1 (by walk_at "sz") fun p2 H2 n2 w2 => ?_
    refine g_addL w2 (upd_old upd_same n2) upd_same (by walk_at "sz") fun p3 H3 n3 w3 => ?_
    refine k p3 H3 (upd_nonne (upd_nonne n3).1).1 ?_
    have ew : c.words0.map V.str = [V.str (kstr c.k), V.str c.name] ++ [V.str "optional"] := by
      unfold Col.words0 optW
      rw [e]
      rfl
    rw [ew]
    exact w3.drop (Same.upd2 (Same.trans (Same.newG n1) (Same.newG n2)))
  · walk_at "go"
    refine g_newL w1 (by walk_at "sz") fun p2 H2 n2 w2 => ?_
    refine g_addL w2 (upd_old upd_same n2) upd_same (by walk_at "sz") fun p3 H3 n3 w3 => ?_
    refine k p3 H3 (upd_nonne (upd_nonne n3).1).1 ?_
    have ew : c.words0.map V.str = [V.str (kstr c.k), V.str c.name] ++ [] := by
      unfold Col.words0 optW
      rw [e]
      rfl
    rw [ew]
    exact w3.drop (Same.upd2 (Same.trans (Same.newG n1) (Same.newG n2)))
end
end Sv


set_option Elab.async false
set_option linter.all false
set_option maxRecDepth 100000
set_option maxHeartbeats 4000000
namespace Sv
open PySem PySem.Spec PyProof.Rows L2 Sw
local macro_rules | `(tactic| walk_at "go1") => `(tactic| first
  | ((with_reducible refine' g_var ?hv ?_); (case hv => rfl))
  | with_reducible refine g_c ?_
  | with_reducible refine g_op ?_
  | with_reducible refine g_un ?_
  | with_reducible refine g_seq ?_
  | with_reducible refine g_next ?_
  | with_reducible refine g_asg ?_
  | with_reducible refine g_name ?_
  | with_reducible refine g_drop ?_
  | with_reducible refine g_sub ?_
  | with_reducible refine g_ret ?_
  | with_reducible refine g_retN ?_
  | with_reducible refine g_ifS ?_
  | with_reducible refine g_if ?_
  | with_reducible refine g_test ?_
  | with_reducible refine g_bl ?_
  | with_reducible refine g_cons ?_
  | with_reducible refine g_nil ?_
  | with_reducible refine g_and ?_
  | with_reducible refine g_or ?_
  | with_reducible refine g_not ?_
  | with_reducible refine g_callB ?_
  | with_reducible refine g_addI ?_
  | with_reducible refine g_I0 ?_
  | with_reducible refine g_calG ?_
  | with_reducible refine g_mkG ?_
  | with_reducible refine g_tup ?_
  | with_reducible refine g_pairs1 ?_
  | with_reducible refine g_pairs0 ?_
  | with_reducible refine g_dget ?_
  | with_reducible refine g_lvals ?_
  | with_reducible refine g_forT ?_
  | with_reducible refine g_lcT ?_
  | with_reducible refine g_dput ?_
  | with_reducible refine g_lc2L ?_
  | with_reducible refine g_iList ?_
  | with_reducible refine g_lcX ?_
  | with_reducible refine g_js1 ?_
  | with_reducible refine g_js0 ?_
  | with_reducible refine g_fmt ?_
  | with_reducible refine g_tLenSet ?_
  | with_reducible refine g_mkV ?_
  | with_reducible refine g_mkV1 ?_
  | with_reducible refine g_lst ?_
  | with_reducible refine g_forL ?_
  | with_reducible refine g_forR ?_
  | with_reducible refine g_forR2 ?_
  | with_reducible refine g_forS ?_
  | with_reducible refine g_forE ?_
  | with_reducible refine g_forEB ?_
  | with_reducible refine g_lcL ?_
  | with_reducible refine g_lcR ?_
  | with_reducible refine g_lcS ?_
  | with_reducible refine g_lcE ?_
  | with_reducible refine g_lcEB ?_
  | with_reducible refine g_orT ?_
  | with_reducible refine g_slc ?_
  | with_reducible refine g_noPart ?_
  | with_reducible refine g_part ?_
  | with_reducible refine g_bm ?_
  | with_reducible refine g_par ?_
  | with_reducible refine g_yes ?_
  | with_reducible refine g_tupG ?_
  | with_reducible refine g_lstG ?_
  | with_reducible refine g_gcons ?_
  | with_reducible refine g_gnil ?_
  | with_reducible refine g_chain ?_
  | with_reducible refine g_truB ?_
  | with_reducible refine g_truN ?_
  | with_reducible refine g_truI ?_
  | with_reducible refine g_m1 ?_
  | with_reducible refine g_fld ?_
  | with_reducible refine g_con ?_
  | with_reducible refine g_tru ?_
  | with_reducible refine g_U ?_
  | with_reducible refine g_xg ?_
  | with_reducible refine g_andT ?_
  | with_reducible refine g_exI ?_
  | with_reducible refine g_dnew ?_
  | with_reducible refine g_intB ?_
  | with_reducible refine g_meth ?_
  | with_reducible refine g_prop ?_
  | with_reducible refine g_exc1 ?_
  | with_reducible refine g_setF ?_
  | with_reducible refine g_star ?_
  | with_reducible refine g_strM ?_
  | with_reducible refine iteT ?_
  | with_reducible refine iteF ?_
  | with_reducible refine iteNT ?_
  | with_reducible refine iteNF ?_)
local macro_rules | `(tactic| walk_at "go") => `(tactic| repeat (walk_at "go1"))
local macro_rules | `(tactic| walk_at "sz") => `(tactic| (first | (rw [sizeLine_eq]; simp only [List.length_cons, List.length_nil, List.length_map, List.length_append, List.length_take]; omega) | (rw [sizeLine_eq]; omega)))
section
variable {P : Program} {wo : World} {A : Ad} {K : PySem.W.Frag} {mg : Str → Option Value} {base : Heap}

/-- is the rule accepted, whatever value it is -/
def Rmb (K : PySem.W.Frag) (H : Hp) (v : V) (o : Bool) (b : Bool) : Prop := (∃ s : Str, v = .str s ∧ b = ruleOk s o) ∨ (NotStr K H v ∧ b = false)
theorem Rmb.same {G H : Hp} {v : V} {o b : Bool} (h : Rmb K G v o b) (e : Same G H) : Rmb K H v o b := by
  rcases h with ⟨s, h⟩ | ⟨⟨t, h1, h2⟩, h3⟩
  · exact .inl ⟨s, h⟩
  · exact .inr ⟨⟨t, tyX_same e h1, h2⟩, h3⟩
theorem Rmb.ins {G : Hp} {v : V} {o b : Bool} {x C dx : Addr} {fs fs' : List (Str × V)} (h : Rmb K G v o b) (hx : G x = some (.ins C dx fs)) : Rmb K (upd G x (.ins C dx fs')) v o b := by
  rcases h with ⟨s, h⟩ | ⟨⟨t, h1, h2⟩, h3⟩
  · exact .inl ⟨s, h⟩
  · exact .inr ⟨⟨t, tyX_ins hx h1, h2⟩, h3⟩
/-- RefColumn.__init__ -/
def spRefInit (K : PySem.W.Frag) (A : Ad) : Sp := fun vs H Q E => ∃ G R x dx v t o r b1 b2 b3, vs = [.ref x, v, t, .bl o, r] ∧ Wd G R H ∧ G x = some (.ins A.RefColumn dx []) ∧ Nmb K G v b1 ∧ Nmb K G t b2 ∧ Rmb K G r o b3 ∧
  (b1 = true → b2 = true → b3 = true → ∀ H', Wd (upd G x (.ins A.RefColumn dx [("name", v), ("optional", .bl o), ("target", t), ("rule", r)])) R H' → Q .non H') ∧
  (b1 = false → ∀ d H', G d = none → Wd (upd G d (.xd [("name", v)])) R H' → E (.ref A.InvalidName) (some d) H') ∧
  (b1 = true → b2 = false → ∀ d H', G d = none → Wd (upd (upd G x (.ins A.RefColumn dx [("name", v), ("optional", .bl o)])) d (.xd [("name", t)])) R H' → E (.ref A.InvalidName) (some d) H') ∧
  (b1 = true → b2 = true → b3 = false → ∀ d H', G d = none → Wd (upd (upd G x (.ins A.RefColumn dx [("name", v), ("optional", .bl o)])) d (.xd [("name", v)])) R H' → E (.ref A.InvalidColumn) (some d) H')
theorem sc_RefColumn___init__ : Sw.SScope (["self", "name", "target", "optional", "rule"] : List Str) (["self", "name", "target", "optional", "rule"] : List Str) (defScope s_RefColumn___init__) := ⟨rfl, rfl, rfl, by decide +kernel, rfl, by decide +kernel, by decide +kernel, by decide +kernel⟩
theorem ok_ref_init {f cc cda : Addr} {fd : FuncData} (F : FunS P K "__init__" "RefColumn.__init__" s_RefColumn___init__ f cc A.RefColumn cda fd) (U : SupTop P mg) (T : Txt K mg A) (CF : ColF K A)
    (Gn : GFn P wo K mg base 1 "is_name" 1 [] (fun vs _ => spIsName K vs)) (XN : Exc1 P wo K mg base "InvalidName" A.InvalidName "name") (XC : Exc1 P wo K mg base "InvalidColumn" A.InvalidColumn "name")
    {g : Addr} (M_init : SupM K A.RefColumn A.RefColumn "__init__" g) (C_init : Cal P wo K mg base 3 g 2 ["optional"] (fun vs zs => spColInit K A (vs ++ zs))) : FnOk P wo K mg base (L2.CX P wo) 4 f fd (["self", "name", "target", "optional", "rule"] : List Str) (spRefInit K A) := by
  refine F.ok sc_RefColumn___init__ U rfl rfl ⟨_, rfl, rfl, rfl⟩ (fun vs H Q E h => ?_) (fun Ar outer s H vs Q E hr Z tk h => ?_)
  · obtain ⟨_, _, _, _, _, _, _, _, _, _, _, rfl, _⟩ := h
    rfl
  obtain ⟨G, R, x, dx, v, t, o, r, b1, b2, b3, rfl, w, hx, hv, ht, hrr, k1, k2, k3, k4⟩ := h
  refine ⟨_, (PSst.cons (pst_expr (pet_sup Z M_init C_init (hr.mono (by decide)) tk (pa_cons (pv 1) pa_nil) (pk_cons (pv 3) pk_nil)) rfl) (PSst.of (pss_cons (ps_if (pt_not (kt_truth K (pe_callG Gn (hr.mono (by decide)) tk (pa_cons (pv 2) pa_nil) pk_nil) (by intro _; rfl))) (pss_one (ps_raise rfl tk (pmk_exc1 XN (hr.mono (by decide)) (pa_cons (pv 2) pa_nil)))) pss_nil)
      (pss_cons (ps_if (PW.pt (pw_or (pt_not (kt_truth K (pe_callB (ka_isi K) (by rfl) T.nb_isinstance (by decide +kernel) (pa_cons (pv 4) (pa_cons (pe_bltn (v := .ty "str") (u := .type "str") (by rfl) T.nb_str (by decide +kernel) rfl) pa_nil))) (by intro _; rfl))) (pw_or (pt_cmpR (ka_ni K) (pv 4) (pe_globE (by rfl) T.g_RULES) (by first | exact nomark _ | rfl)) (pw_or1 (PW.pt (pw_and (pt_cmpR (ka_eq K hr.units) (pv 4) pe_str (nomark _)) (pw_and1 (pt_not (kt_truth K (pv 3) (by intro _; rfl)))))))))) (pss_one (ps_raise rfl tk (pmk_exc1 XC (hr.mono (by decide)) (pa_cons (pv 1) pa_nil)))) pss_nil)
      (pss_cons (ps_fld (pv 0) (pv 2) rfl)
      (pss_one (ps_fld (pv 0) (pv 4) rfl))))))), ?_⟩
  walk_at "go"
  refine ⟨x, dx, [], rfl, w.get hx, ?_⟩
  walk_at "go"
  refine ⟨rfl, rfl, G, R, x, _, dx, v, o, b1, rfl, w, hx, CF.cls .ref, CF.na .ref, CF.no .ref, hv, fun e1 H1 w1 => ?_, fun e1 d H1 n1 w1 => k2 e1 d H1 n1 w1⟩
  walk_at "go"
  refine ⟨rfl, rfl, ((ht.ins hx).same w1.sub).is fun H2 s2 => ?_⟩
  have w2 := w1.same s2
  walk_at "go"
  refine iteBN (fun e2 => ?_) (fun e2 => ?_)
  · walk_at "go"
    exact ⟨t, rfl, fun d hd => k3 e1 e2 d _ (upd_nonne (w2.free hd)).1 (w2.new (o := .xd [("name", t)]) hd)⟩
  have rr := (hrr.ins (fs' := [("name", v), ("optional", .bl o)]) hx).same w2.sub
  have bad : b3 = false → ∀ d, H2 d = none → E (.ref A.InvalidColumn) (some d) (upd H2 d (.xd [("name", v)])) := fun e3 d hd => k4 e1 e2 e3 d _ (upd_nonne (w2.free hd)).1 (w2.new hd)
  walk_at "go"
  rcases rr with ⟨z, rfl, e3⟩ | ⟨⟨ty, ht1, ht2⟩, e3⟩
  · refine g_isi (.ty _) (.base (.str z)) kit_str ?_
    walk_at "go"
    refine g_niT w2 (T.t_RULES _) rfl rfl ?_
    walk_at "go"
    refine iteBN (fun h3 => ?_) (fun h3 => ?_)
    · walk_at "go"
      refine ⟨v, rfl, fun d hd => bad ?_ d hd⟩
      rw [e3]
      unfold ruleOk
      rw [show inV (.str z) (rules.map V.str) = false from h3]
      rfl
    have h3' : inV (.str z) (rules.map V.str) = true := h3
    walk_at "go"
    refine g_eqS rfl ?_
    walk_at "go"
    refine iteD (fun h4 => ?_) (fun h4 => ?_)
    · walk_at "go"
      have h4' : z = "clear" := V.str.inj h4
      cases o with
      | false =>
        walk_at "go"
        refine ⟨v, rfl, fun d hd => bad ?_ d hd⟩
        rw [e3]
        unfold ruleOk
        rw [h3', decide_eq_true h4']
        rfl
      | true =>
        walk_at "go"
        refine g_sf w2 upd_same (CF.cls .ref) CF.nt (show 2 < 1000 by decide) fun H3 w3 => ?_
        rw [putF_ne (by decide +kernel), putF_ne (by decide +kernel), putF_nil, upd_upd] at w3
        walk_at "go"
        refine g_sf w3 upd_same (CF.cls .ref) CF.nr (show 3 < 1000 by decide) fun H4 w4 => ?_
        rw [putF_ne (by decide +kernel), putF_ne (by decide +kernel), putF_ne (by decide +kernel), putF_nil, upd_upd] at w4
        refine k1 e1 e2 ?_ _ w4
        rw [e3]
        unfold ruleOk
        rw [h3']
        simp
    · walk_at "go"
      refine g_sf w2 upd_same (CF.cls .ref) CF.nt (show 2 < 1000 by decide) fun H3 w3 => ?_
      rw [putF_ne (by decide +kernel), putF_ne (by decide +kernel), putF_nil, upd_upd] at w3
      walk_at "go"
      refine g_sf w3 upd_same (CF.cls .ref) CF.nr (show 3 < 1000 by decide) fun H4 w4 => ?_
      rw [putF_ne (by decide +kernel), putF_ne (by decide +kernel), putF_ne (by decide +kernel), putF_nil, upd_upd] at w4
      refine k1 e1 e2 ?_ _ w4
      rw [e3]
      unfold ruleOk
      rw [h3', decide_eq_false (fun q => h4 (congrArg V.str q))]
      rfl
  · refine g_isi (.ty _) ht1 ht2 ?_
    walk_at "go"
    exact ⟨v, rfl, fun d hd => bad e3 d hd⟩
end
end Sv


set_option Elab.async false
set_option linter.all false
set_option maxRecDepth 100000
set_option maxHeartbeats 4000000
namespace Sv
open PySem PySem.Spec PyProof.Rows L2 Sw
local macro_rules | `(tactic| walk_at "go1") => `(tactic| first
  | ((with_reducible refine' g_var ?hv ?_); (case hv => rfl))
  | with_reducible refine g_c ?_
  | with_reducible refine g_op ?_
  | with_reducible refine g_un ?_
  | with_reducible refine g_seq ?_
  | with_reducible refine g_next ?_
  | with_reducible refine g_asg ?_
  | with_reducible refine g_name ?_
  | with_reducible refine g_drop ?_
  | with_reducible refine g_sub ?_
  | with_reducible refine g_ret ?_
  | with_reducible refine g_retN ?_
  | with_reducible refine g_ifS ?_
  | with_reducible refine g_if ?_
  | with_reducible refine g_test ?_
  | with_reducible refine g_bl ?_
  | with_reducible refine g_cons ?_
  | with_reducible refine g_nil ?_
  | with_reducible refine g_and ?_
  | with_reducible refine g_or ?_
  | with_reducible refine g_not ?_
  | with_reducible refine g_callB ?_
  | with_reducible refine g_addI ?_
  | with_reducible refine g_I0 ?_
  | with_reducible refine g_calG ?_
  | with_reducible refine g_mkG ?_
  | with_reducible refine g_tup ?_
  | with_reducible refine g_pairs1 ?_
  | with_reducible refine g_pairs0 ?_
  | with_reducible refine g_dget ?_
  | with_reducible refine g_lvals ?_
  | with_reducible refine g_forT ?_
  | with_reducible refine g_lcT ?_
  | with_reducible refine g_dput ?_
  | with_reducible refine g_lc2L ?_
  | with_reducible refine g_iList ?_
  | with_reducible refine g_lcX ?_
  | with_reducible refine g_js1 ?_
  | with_reducible refine g_js0 ?_
  | with_reducible refine g_fmt ?_
  | with_reducible refine g_tLenSet ?_
  | with_reducible refine g_mkV ?_
  | with_reducible refine g_mkV1 ?_
  | with_reducible refine g_lst ?_
  | with_reducible refine g_forL ?_
  | with_reducible refine g_forR ?_
  | with_reducible refine g_forR2 ?_
  | with_reducible refine g_forS ?_
  | with_reducible refine g_forE ?_
  | with_reducible refine g_forEB ?_
  | with_reducible refine g_lcL ?_
  | with_reducible refine g_lcR ?_
  | with_reducible refine g_lcS ?_
  | with_reducible refine g_lcE ?_
  | with_reducible refine g_lcEB ?_
  | with_reducible refine g_orT ?_
  | with_reducible refine g_slc ?_
  | with_reducible refine g_noPart ?_
  | with_reducible refine g_part ?_
  | with_reducible refine g_bm ?_
  | with_reducible refine g_par ?_
  | with_reducible refine g_yes ?_
  | with_reducible refine g_tupG ?_
  | with_reducible refine g_lstG ?_
  | with_reducible refine g_gcons ?_
  | with_reducible refine g_gnil ?_
  | with_reducible refine g_chain ?_
  | with_reducible refine g_truB ?_
  | with_reducible refine g_truN ?_
  | with_reducible refine g_truI ?_
  | with_reducible refine g_m1 ?_
  | with_reducible refine g_fld ?_
  | with_reducible refine g_con ?_
  | with_reducible refine g_tru ?_
  | with_reducible refine g_U ?_
  | with_reducible refine g_xg ?_
  | with_reducible refine g_andT ?_
  | with_reducible refine g_exI ?_
  | with_reducible refine g_dnew ?_
  | with_reducible refine g_intB ?_
  | with_reducible refine g_meth ?_
  | with_reducible refine g_prop ?_
  | with_reducible refine g_exc1 ?_
  | with_reducible refine g_setF ?_
  | with_reducible refine g_star ?_
  | with_reducible refine g_strM ?_
  | with_reducible refine iteT ?_
  | with_reducible refine iteF ?_
  | with_reducible refine iteNT ?_
  | with_reducible refine iteNF ?_)
local macro_rules | `(tactic| walk_at "go") => `(tactic| repeat (walk_at "go1"))
local macro_rules | `(tactic| walk_at "sz") => `(tactic| (first | (rw [sizeLine_eq]; simp only [List.length_cons, List.length_nil, List.length_map, List.length_append, List.length_take]; omega) | (rw [sizeLine_eq]; omega)))
section
variable {P : Program} {wo : World} {A : Ad} {K : PySem.W.Frag} {mg : Str → Option Value} {base : Heap}

def spWords (A : Ad) : Sp := fun vs H Q _ => ∃ G R x c, vs = [.ref x] ∧ Wd G R H ∧ ColAt A G x c ∧ ∀ p H', G p = none → Wd (upd G p (.lst (c.words.map V.str))) R H' → Q (.ref p) H'
theorem sc_RefColumn_words : Sw.SScope (["self", "first", "name", "rest"] : List Str) (["self"] : List Str) (defScope s_RefColumn_words) := ⟨rfl, rfl, rfl, by decide +kernel, rfl, by decide +kernel, by decide +kernel, by decide +kernel⟩
theorem ok_ref_words {f cc cda : Addr} {fd : FuncData} (F : FunS P K "words" "RefColumn.words" s_RefColumn_words f cc A.RefColumn cda fd) (U : SupTop P mg) (T : Txt K mg A) (CF : ColF K A)
    {g : Addr} (M_words : SupM K A.RefColumn A.RefColumn "words" g) (C_words : Cal P wo K mg base 1 g 1 [] (fun vs _ => spWords0 A vs)) : FnOk P wo K mg base (L2.CX P wo) 2 f fd (["self"] : List Str) (fun vs H Q E => (∃ G R x c, vs = [.ref x] ∧ Wd G R H ∧ ColAt A G x c ∧ c.k = .ref ∧ ∀ p H', G p = none → Wd (upd G p (.lst (c.words.map V.str))) R H' → Q (.ref p) H')) := by
  refine F.ok sc_RefColumn_words U rfl rfl ⟨_, rfl, rfl, rfl⟩ (fun vs H Q E h => ?_) (fun Ar outer s H vs Q E hr Z tk h => ?_)
  · obtain ⟨_, _, _, _, rfl, _⟩ := h
    rfl
  obtain ⟨G, R, x, c, rfl, w, ⟨dx, hx⟩, ck, k⟩ := h
  refine ⟨_, (PSst.cons (pst_asg (pet_sup0 Z M_words C_words (hr.mono (by decide)) tk pk_nil) (kg_starL (n := 3) (i := 2) K rfl (pgs_cons (pg_name (i := 1) sc_RefColumn_words.nd rfl (by first | exact Or.inl rfl | exact Or.inr rfl)) (pgs_cons (pg_name (i := 2) sc_RefColumn_words.nd rfl (by first | exact Or.inl rfl | exact Or.inr rfl)) (pgs_star (pg_name (i := 3) sc_RefColumn_words.nd rfl (by first | exact Or.inl rfl | exact Or.inr rfl)) pgs_nil))) (by decide))) (PSst.of (pss_one (ps_ret (pe_lst (pa_cons (pv 1) (pa_cons (pv 2) (pa_cons (ke_fld K (pv 0) rfl) (kp_star K (pv 3) (pa_cons (ke_fld K (pv 0) rfl) pa_nil)))))))))), ?_⟩
  have hx' : G x = some (.ins A.RefColumn dx c.fs) := by rw [hx, ck]; rfl
  have ew : c.words = [kstr c.k, c.name, c.target] ++ optW c.opt ++ [c.rule] := by
    unfold Col.words
    rw [if_pos ck]
  have l1 := c.l_target ck
  have l2 := c.l_rule ck
  walk_at "go"
  refine ⟨x, dx, c.fs, rfl, w.get hx', ?_⟩
  walk_at "go"
  refine ⟨rfl, rfl, G, R, x, c, rfl, w, ⟨dx, hx⟩, fun p H1 n1 w1 => ?_⟩
  have lw : (c.words0.map V.str).length = 2 + (optW c.opt).length := by
    unfold Col.words0
    rw [List.length_map, List.length_append]
    rfl
  have lo : (optW c.opt).length ≤ 1 := by
    unfold optW
    split <;> decide
  refine ⟨p, _, rfl, SqL.of (w1.get upd_same), by rw [lw]; omega, by rw [lw]; omega, fun q hq => ?_⟩
  have nq := w1.free hq
  have w2 := w1.new (o := .lst (((c.words0.map V.str).drop 2).take ((c.words0.map V.str).length + 1 - 3))) hq
  have e1 : (c.words0.map V.str).take 2 = [V.str (kstr c.k), V.str c.name] := rfl
  have e2 : (c.words0.map V.str).drop 2 = (optW c.opt).map V.str := rfl
  have e3 : ((optW c.opt).map V.str).take ((c.words0.map V.str).length + 1 - 3) = (optW c.opt).map V.str := List.take_of_length_le (by rw [List.length_map, lw]; omega)
  have e4 : ((optW c.opt).map V.str).drop ((c.words0.map V.str).length + 1 - 3) = [] := List.drop_of_length_le (by rw [List.length_map, lw]; omega)
  rw [e2, e3] at w2
  rw [e1, e2, e4, e3]
  show gCons _ _ [V.str (kstr c.k), V.str c.name, V.ref q] _ _ _
  generalize upd H1 q _ = H2 at *
  walk_at "go"
  refine g_gf w2 (upd_old (upd_old hx' n1) nq) (CF.cls .ref) CF.nt l1 ?_
  walk_at "go"
  refine ⟨q, _, rfl, .inr (SqL.of (w2.get upd_same)), ?_⟩
  walk_at "go"
  refine g_gf w2 (upd_old (upd_old hx' n1) nq) (CF.cls .ref) CF.nr l2 ?_
  walk_at "go"
  refine g_newL w2 (by rw [sizeLine_eq]; simp only [List.length_cons, List.length_append, List.length_map, List.length_nil]; omega) fun p3 H3 n3 w3 => ?_
  refine k p3 H3 (upd_nonne (upd_nonne n3).1).1 ?_
  have ev : c.words.map V.str = V.str (kstr c.k) :: V.str c.name :: V.str c.target :: ((optW c.opt).map V.str ++ [V.str c.rule]) := by
    rw [ew]
    simp
  rw [ev]
  exact w3.drop (Same.upd2 (Same.trans (Same.newG n1) (Same.newG nq)))

/-! ### column.text -/
theorem isNm_len {s : Str} (h : isNm s = true) : s.length ≤ 8 := by
  unfold isNm at h
  simp only [Bool.and_eq_true, decide_eq_true_eq] at h
  exact h.1.1.2
theorem eqV_str (a b : Str) : eqV (.str a) (.str b) = decide (a = b) := by
  show (a == b) = decide (a = b)
  exact Bool.eq_iff_iff.mpr (by rw [beq_iff_eq, decide_eq_true_eq])
theorem inV_str (s : Str) (l : List Str) : inV (.str s) (l.map V.str) = decide (s ∈ l) := by
  unfold inV
  induction l with
  | nil => rfl
  | cons y r ih =>
    rw [List.map_cons, List.any_cons, ih, eqV_str]
    by_cases h : y = s
    · subst h
      simp
    · have : ¬ s = y := fun z => h z.symm
      simp [h, this]
theorem ruleOk_mem {r : Str} {o : Bool} (h : ruleOk r o = true) : r = "restrict" ∨ r = "clear" ∨ r = "cascade" := by
  unfold ruleOk at h
  have := (Bool.and_eq_true_iff.mp h).1
  rw [inV_str, decide_eq_true_eq] at this
  simpa [rules] using this
theorem Col.text_len {c : Col} (h : c.ok) : (c.words.map (·.length)).sum + c.words.length * 1 ≤ 64 := by
  have hn := isNm_len h.1
  have hk : (kstr c.k).length ≤ 4 := by
    cases c.k <;> decide
  have ho : ((optW c.opt).map (·.length)).sum ≤ 8 := by
    unfold optW
    split <;> decide
  have ho2 : (optW c.opt).length ≤ 1 := by
    unfold optW
    split <;> decide
  unfold Col.words
  split
  · rename_i e
    obtain ⟨h2, h3⟩ := h.2 e
    have ht := isNm_len h2
    have hr : c.rule.length ≤ 8 := by
      rcases ruleOk_mem h3 with e | e | e <;> rw [e] <;> decide
    simp only [List.map_append, List.map_cons, List.map_nil, List.sum_append, List.sum_cons, List.sum_nil, List.length_append, List.length_cons, List.length_nil]
    omega
  · unfold Col.words0
    simp only [List.map_append, List.map_cons, List.map_nil, List.sum_append, List.sum_cons, List.sum_nil, List.length_append, List.length_cons, List.length_nil]
    omega
def spText (A : Ad) : Sp := fun vs H Q _ => ∃ G R x c, vs = [.ref x] ∧ Wd G R H ∧ ColAt A G x c ∧ c.ok ∧ ∀ H', Wd G R H' → Q (.str c.text) H'
theorem sc_Column_text : FnScope (["self"] : List Str) (["self"] : List Str) (defScope s_Column_text) := ⟨rfl, rfl, rfl, by decide +kernel, rfl, by decide +kernel, by decide +kernel⟩
theorem ok_text {f : Addr} {fd : FuncData} (F : Fun K "text" "Column.text" s_Column_text f fd) (T : Txt K mg A) (MW : ∀ k, GMt P wo K mg base 2 (kcls A k) "words" 0 [] (fun vs _ H Q E => ∃ G R x c, vs = [.ref x] ∧ Wd G R H ∧ ColAt A G x c ∧ c.k = k ∧ ∀ p H', G p = none → Wd (upd G p (.lst (c.words.map V.str))) R H' → Q (.ref p) H')) : FnOk P wo K mg base (L2.CX P wo) 3 f fd (["self"] : List Str) (spText A) := by
  refine okT F sc_Column_text (fun vs H Q E h => ?_) (fun cdv Ar outer s H vs Q E hr tk po h => ?_)
  · obtain ⟨_, _, _, _, rfl, _⟩ := h
    rfl
  obtain ⟨G, R, x, c, rfl, w, ⟨dx, hx⟩, ok, k⟩ := h
  refine ⟨_, (pss_one (ps_ret (ke_join K pe_str (kp_meth0 (k := 2) (n := 0) P wo K mg base (pv 0) (hr.mono (by decide)) tk pk_nil)))), ?_⟩
  walk_at "go"
  refine ⟨x, kcls A c.k, dx, c.fs, _, rfl, w.get hx, c.l_words, MW c.k, ?_⟩
  walk_at "go"
  refine ⟨rfl, rfl, G, R, x, c, rfl, w, ⟨dx, hx⟩, rfl, fun p H1 n1 w1 => ?_⟩
  have hz := Col.text_len ok
  refine g_join w1 (SqL.of upd_same) (Nat.le_trans (show _ ≤ 64 from hz) (by decide)) ?_
  exact k _ (w1.drop (Same.newG n1))
end
end Sv


set_option Elab.async false
set_option linter.all false
set_option maxRecDepth 100000
set_option maxHeartbeats 4000000
namespace Sv
open PySem PySem.Spec PyProof.Rows L2 Sw
local macro_rules | `(tactic| walk_at "go1") => `(tactic| first
  | ((with_reducible refine' g_var ?hv ?_); (case hv => rfl))
  | with_reducible refine g_c ?_
  | with_reducible refine g_op ?_
  | with_reducible refine g_un ?_
  | with_reducible refine g_seq ?_
  | with_reducible refine g_next ?_
  | with_reducible refine g_asg ?_
  | with_reducible refine g_name ?_
  | with_reducible refine g_drop ?_
  | with_reducible refine g_sub ?_
  | with_reducible refine g_ret ?_
  | with_reducible refine g_retN ?_
  | with_reducible refine g_ifS ?_
  | with_reducible refine g_if ?_
  | with_reducible refine g_test ?_
  | with_reducible refine g_bl ?_
  | with_reducible refine g_cons ?_
  | with_reducible refine g_nil ?_
  | with_reducible refine g_and ?_
  | with_reducible refine g_or ?_
  | with_reducible refine g_not ?_
  | with_reducible refine g_callB ?_
  | with_reducible refine g_addI ?_
  | with_reducible refine g_I0 ?_
  | with_reducible refine g_calG ?_
  | with_reducible refine g_mkG ?_
  | with_reducible refine g_tup ?_
  | with_reducible refine g_pairs1 ?_
  | with_reducible refine g_pairs0 ?_
  | with_reducible refine g_dget ?_
  | with_reducible refine g_lvals ?_
  | with_reducible refine g_forT ?_
  | with_reducible refine g_lcT ?_
  | with_reducible refine g_dput ?_
  | with_reducible refine g_lc2L ?_
  | with_reducible refine g_iList ?_
  | with_reducible refine g_lcX ?_
  | with_reducible refine g_js1 ?_
  | with_reducible refine g_js0 ?_
  | with_reducible refine g_fmt ?_
  | with_reducible refine g_tLenSet ?_
  | with_reducible refine g_mkV ?_
  | with_reducible refine g_mkV1 ?_
  | with_reducible refine g_lst ?_
  | with_reducible refine g_forL ?_
  | with_reducible refine g_forR ?_
  | with_reducible refine g_forR2 ?_
  | with_reducible refine g_forS ?_
  | with_reducible refine g_forE ?_
  | with_reducible refine g_forEB ?_
  | with_reducible refine g_lcL ?_
  | with_reducible refine g_lcR ?_
  | with_reducible refine g_lcS ?_
  | with_reducible refine g_lcE ?_
  | with_reducible refine g_lcEB ?_
  | with_reducible refine g_orT ?_
  | with_reducible refine g_slc ?_
  | with_reducible refine g_noPart ?_
  | with_reducible refine g_part ?_
  | with_reducible refine g_bm ?_
  | with_reducible refine g_par ?_
  | with_reducible refine g_yes ?_
  | with_reducible refine g_tupG ?_
  | with_reducible refine g_lstG ?_
  | with_reducible refine g_gcons ?_
  | with_reducible refine g_gnil ?_
  | with_reducible refine g_chain ?_
  | with_reducible refine g_truB ?_
  | with_reducible refine g_truN ?_
  | with_reducible refine g_truI ?_
  | with_reducible refine g_m1 ?_
  | with_reducible refine g_fld ?_
  | with_reducible refine g_con ?_
  | with_reducible refine g_tru ?_
  | with_reducible refine g_U ?_
  | with_reducible refine g_xg ?_
  | with_reducible refine g_andT ?_
  | with_reducible refine g_exI ?_
  | with_reducible refine g_dnew ?_
  | with_reducible refine g_intB ?_
  | with_reducible refine g_meth ?_
  | with_reducible refine g_prop ?_
  | with_reducible refine g_exc1 ?_
  | with_reducible refine g_setF ?_
  | with_reducible refine g_star ?_
  | with_reducible refine g_strM ?_
  | with_reducible refine iteT ?_
  | with_reducible refine iteF ?_
  | with_reducible refine iteNT ?_
  | with_reducible refine iteNF ?_)
local macro_rules | `(tactic| walk_at "go") => `(tactic| repeat (walk_at "go1"))
local macro_rules | `(tactic| walk_at "sz") => `(tactic| (first | (rw [sizeLine_eq]; simp only [List.length_cons, List.length_nil, List.length_map, List.length_append, List.length_take]; omega) | (rw [sizeLine_eq]; omega)))
/-! ### dicts of columns, groups -/
def colKvs (cs : List Col) (as : List Addr) : List (Key × V) := (cs.zip as).map fun p => (Sum.inr p.1.name, V.ref p.2)
def ColsAt (A : Ad) (G : Hp) (cs : List Col) (as : List Addr) : Prop := Paired (fun c a => ColAt A G a c) cs as
theorem ColsAt.same {A : Ad} {G G' : Hp} {cs : List Col} {as : List Addr} (h : ColsAt A G cs as) (e : Same G G') : ColsAt A G' cs as := Sw.Paired.imp (fun _ _ x => x.same e) h
def colOf (cs : List Col) (n : Str) : Option Col := cs.find? fun c => decide (c.name = n)
theorem colOf_at {A : Ad} {G : Hp} {n : Str} : ∀ {cs : List Col} {as : List Addr}, ColsAt A G cs as → (∃ c a, colOf cs n = some c ∧ valV (colKvs cs as) (.inr n) = some (.ref a) ∧ ColAt A G a c ∧ c ∈ cs) ∨ (colOf cs n = none ∧ valV (colKvs cs as) (.inr n) = none)
  | _, _, .nil => .inr ⟨rfl, rfl⟩
  | c :: cs, a :: as, .cons r t => by
    by_cases h : c.name = n
    · refine .inl ⟨c, a, ?_, ?_, r, List.mem_cons_self⟩
      · unfold colOf
        rw [List.find?_cons_of_pos (by simpa using h)]
      · exact valV_pos (p := (Sum.inr c.name, V.ref a)) (by rw [h])
    · have e1 : colOf (c :: cs) n = colOf cs n := by
        unfold colOf
        rw [List.find?_cons_of_neg (by simpa using h)]
      have e2 : valV (colKvs (c :: cs) (a :: as)) (.inr n) = valV (colKvs cs as) (.inr n) := valV_neg (p := (Sum.inr c.name, V.ref a)) fun z => h (Sum.inr.inj z)
      rw [e1, e2]
      rcases colOf_at (n := n) t with ⟨c', a', q1, q2, q3, q4⟩ | q
      · exact .inl ⟨c', a', q1, q2, q3, List.mem_cons_of_mem _ q4⟩
      · exact .inr q
/-- a group of the columns -/
def useful (c : Col) : Bool := !decide (c.k = .ref) || c.opt
def isGrp (cs : List Col) (g : List Str) : Bool := (decide (1 ≤ g.length) && decide (g.length ≤ 3)) && (g.all fun n => (colOf cs n).isSome) && decide g.Nodup && (g.any fun n => match colOf cs n with | some c => useful c | none => false)
/-- a value that may be a group: the texts of a tuple, or none -/
def GrpV (K : PySem.W.Frag) (G : Hp) (v : V) (o : Option (List Str)) : Prop :=
  (∃ p g, v = .ref p ∧ o = some g ∧ SqT K G p (g.map V.str) ∧ g.length ≤ 1000) ∨
  (∃ t, o = none ∧ TyX K G v t ∧ PySem.W.kitOne K t (.type "tuple") = some false) ∨
  (∃ p xs, v = .ref p ∧ o = none ∧ SqT K G p xs ∧ xs.length ≤ 1000 ∧ (∀ x ∈ xs, (∃ s, x = .str s) ∨ NotStr K G x) ∧ ∃ x ∈ xs, NotStr K G x)
theorem NotStr.same {K : PySem.W.Frag} {G G' : Hp} {v : V} (h : NotStr K G v) (e : Same G G') : NotStr K G' v := by
  obtain ⟨t, h1, h2⟩ := h
  exact ⟨t, tyX_same e h1, h2⟩
theorem GrpV.same {K : PySem.W.Frag} {G G' : Hp} {v : V} {o : Option (List Str)} (h : GrpV K G v o) (e : Same G G') : GrpV K G' v o := by
  rcases h with ⟨p, g, h1, h2, h3, h4⟩ | ⟨t, h1, h2, h3⟩ | ⟨p, xs, h1, h2, h3, h4, h5, x, h6, h7⟩
  · exact .inl ⟨p, g, h1, h2, Evl.ex_t e h3, h4⟩
  · exact .inr (.inl ⟨t, h1, tyX_same e h2, h3⟩)
  · exact .inr (.inr ⟨p, xs, h1, h2, Evl.ex_t e h3, h4, fun x hx => (h5 x hx).imp id fun z => z.same e, x, h6, h7.same e⟩)
def grpB (cs : List Col) : Option (List Str) → Bool
  | some g => isGrp cs g
  | none => false
theorem kit_tup : ∀ {K : PySem.W.Frag}, PySem.W.kitOne K (.type "tuple") (.type "tuple") = some true := kit_ty (by decide +kernel)
theorem all_map {α : Type} (f : α → Bool) (l : List α) : (l.map f).all id = l.all f := by rw [List.all_map]; rfl
theorem any_map {α : Type} (f : α → Bool) (l : List α) : (l.map f).any id = l.any f := by rw [List.any_map]; rfl
section
variable {P : Program} {wo : World} {A : Ad} {K : PySem.W.Frag} {mg : Str → Option Value} {base : Heap}
/-! ### Column.kind -/
def spKind (A : Ad) : Sp := fun vs H Q _ => ∃ G R x c, vs = [.ref x] ∧ Wd G R H ∧ ColAt A G x c ∧ ∀ H', Wd G R H' → Q (.str (kstr c.k)) H'
theorem sc_Column_kind : FnScope (["self"] : List Str) (["self"] : List Str) (defScope s_Column_kind) := ⟨rfl, rfl, rfl, by decide +kernel, rfl, by decide +kernel, by decide +kernel⟩
theorem ok_kind {f : Addr} {fd : FuncData} (F : Fun K "kind" "Column.kind" s_Column_kind f fd) (CF : ColF K A) : FnOk P wo K mg base (L2.CX P wo) 1 f fd (["self"] : List Str) (spKind A) := by
  refine okT F sc_Column_kind (fun vs H Q E h => ?_) (fun cdv Ar outer s H vs Q E hr tk po h => ?_)
  · obtain ⟨_, _, _, _, rfl, _⟩ := h
    rfl
  obtain ⟨G, R, x, c, rfl, w, ⟨dx, hx⟩, k⟩ := h
  obtain ⟨u, hu⟩ := CF.kd c.k
  refine ⟨_, (pss_one (ps_ret (ke_con K (pv 0) rfl))), ?_⟩
  walk_at "go"
  exact g_gc w hx (CF.cls _) hu c.l_kind (k _ w)
theorem prop_kind {G H : Hp} {R : Res} {a : Addr} {c : Col} {Q : VK} (GK : ∀ k, GPr P wo K mg base 1 (kcls A k) "kind" (fun vs _ => spKind A vs)) (w : Wd G R H) (h : ColAt A G a c) (k : ∀ H', Wd G R H' → Q (.str (kstr c.k)) H') :
    ∃ a' C dx fs sp, V.ref a = .ref a' ∧ H a' = some (.ins C dx fs) ∧ GPr P wo K mg base 1 C "kind" sp ∧ sp [.ref a'] [] H Q E0 := by
  obtain ⟨dx, hx⟩ := h
  exact ⟨a, _, dx, _, _, rfl, w.get hx, GK c.k, G, R, a, c, rfl, w, ⟨dx, hx⟩, k⟩
/-! ### is_group -/
def spIsGroup (K : PySem.W.Frag) (A : Ad) : Sp := fun vs H Q _ => ∃ G R d cs as v o, vs = [.ref d, v] ∧ Wd G R H ∧ G d = some (.dK (colKvs cs as)) ∧ ColsAt A G cs as ∧ GrpV K G v o ∧ ∀ H', Wd G R H' → Q (.bl (grpB cs o)) H'
theorem sc_is_group : FnScope (["by_name", "value", "name"] : List Str) (["by_name", "value"] : List Str) (defScope s_is_group) := ⟨rfl, rfl, rfl, by decide +kernel, rfl, by decide +kernel, by decide +kernel⟩
theorem ok_is_group {f : Addr} {fd : FuncData} (F : Fun K "is_group" "is_group" s_is_group f fd) (T : Txt K mg A) (CF : ColF K A) (GK : ∀ k, GPr P wo K mg base 1 (kcls A k) "kind" (fun vs _ => spKind A vs)) : FnOk P wo K mg base (L2.CX P wo) 3 f fd (["by_name", "value"] : List Str) (spIsGroup K A) := by
  refine okT F sc_is_group (fun vs H Q E h => ?_) (fun cdv Ar outer s H vs Q E hr tk po h => ?_)
  · obtain ⟨_, _, _, _, _, _, _, rfl, _⟩ := h
    rfl
  obtain ⟨G, R, d, cs, as, v, o, rfl, w, hd, hc, hv, k⟩ := h
  refine ⟨_, (pss_cons (ps_if (PW.pt (pw_or (pt_not (kt_truth K (pe_callB (ka_isi K) (by rfl) T.nb_isinstance (by decide +kernel) (pa_cons (pv 1) (pa_cons (pe_bltn (v := .ty "tuple") (u := .type "tuple") (by rfl) T.nb_tuple (by decide +kernel) rfl) pa_nil))) (by intro _; rfl))) (pw_or1 (pt_not (pt_chain op_le op_le pe_int (pe_callB (ka_len K) (by rfl) T.nb_len (by decide +kernel) (pa_cons (pv 1) pa_nil)) (pe_globE (by rfl) T.g_MOST_IN_GROUP)))))) (pss_one (ps_ret pe_bl)) pss_nil)
      (pss_cons (ps_if (PW.pt (pw_or (pt_not (kt_truth K (pe_callB (ka_all K rfl) (by rfl) T.nb_all (by decide +kernel) (pa_cons (pe_lc (own := [("name", 2)]) (g := (gName 2)) (tt := tYes) rfl sc_is_group.nd (ki_tup K (pv 1)) (blkOk_by (N := (["by_name", "value", "name"] : List Str)) (sc := defScope s_is_group) (by decide +kernel)) (fun _ _ _ _ _ => (pg_name (i := 2) sc_is_group.nd rfl (by first | exact Or.inl rfl | exact Or.inr rfl))) (fun _ _ _ _ _ => pts_nil) (fun _ _ _ _ _ => (ke_andT K (pe_callB (ka_isi K) (by rfl) T.nb_isinstance (by decide +kernel) (pa_cons (pv 2) (pa_cons (pe_bltn (v := .ty "str") (u := .type "str") (by rfl) T.nb_str (by decide +kernel) rfl) pa_nil))) (pe_one (pe_cmpR (op_inDk (L2.hu_of hr)) (pv 2) (pv 0) (by first | exact nomark _ | rfl)))))) pa_nil)) (by intro _; rfl))) (pw_or1 (pt_cmpR (ka_ne K hr.units) (pe_lenSetT K rfl (by rfl) T.nb_len (by rfl) T.nb_set (pv 1)) (pe_callB (ka_len K) (by rfl) T.nb_len (by decide +kernel) (pa_cons (pv 1) pa_nil)) (nomark _))))) (pss_one (ps_ret pe_bl)) pss_nil)
      (pss_one (ps_ret (pe_callB (ka_any K rfl) (by rfl) T.nb_any (by decide +kernel) (pa_cons (pe_lc (own := [("name", 2)]) (g := (gName 2)) (tt := tYes) rfl sc_is_group.nd (ki_tup K (pv 1)) (blkOk_by (N := (["by_name", "value", "name"] : List Str)) (sc := defScope s_is_group) (by decide +kernel)) (fun _ _ _ _ _ => (pg_name (i := 2) sc_is_group.nd rfl (by first | exact Or.inl rfl | exact Or.inr rfl))) (fun _ _ _ _ _ => pts_nil) (fun _ _ _ _ _ => (ke_orT K (pe_cmpR (ka_ne K hr.units) (kp_prop (k := 1) P wo K mg base (pe_dget (L2.hu_of hr) (pv 0) (pv 2) (fun _ _ => rfl)) (hr.mono (by decide))) pe_str (nomark _)) (pe_one (ke_fld K (pe_dget (L2.hu_of hr) (pv 0) (pv 2) (fun _ _ => rfl)) rfl))))) pa_nil)))))), ?_⟩
  walk_at "go"
  rcases hv with ⟨p, g, rfl, rfl, hp, hl⟩ | ⟨t, rfl, ht, hk⟩ | ⟨p, xs, rfl, rfl, hp, hl, hs, x0, hx0, hn0⟩
  · have res : grpB cs (some g) = ((((decide (1 ≤ g.length) && decide (g.length ≤ 3)) && (g.all fun n => (colOf cs n).isSome)) && decide g.Nodup) && (g.any fun n => match colOf cs n with | some c => useful c | none => false)) := rfl
    refine g_isi (.ty _) (tyX_same w.sub (tyX_tup hp)) kit_tup ?_
    walk_at "go"
    refine g_lenT w hp ?_
    rw [List.length_map]
    walk_at "go"
    refine iteD (fun h1 => ?_) (fun h1 => ?_)
    · walk_at "go"
      refine iteN (fun h2 => ?_) (fun h2 => ?_)
      · walk_at "go"
        rw [res, decide_eq_false (show ¬ g.length ≤ 3 by omega)] at k
        simp only [Bool.and_false, Bool.false_and] at k
        exact k _ w
      · rw [decide_eq_true (show 1 ≤ g.length by omega), decide_eq_true (show g.length ≤ 3 by omega)] at res
        simp only [Bool.and_self, Bool.true_and] at res
        walk_at "go"
        refine ⟨p, rfl, ⟨_, Evl.ex_t w.sub hp⟩, ?_⟩
        refine lc_it (itf_tup (xs := g.map V.str)) w (fun _ e => Evl.ex_t e hp) (by rw [sizeLine_eq, List.length_map]; omega) (fun i _ acc => acc = ((g.take i).map fun n => (colOf cs n).isSome).map V.bl) rfl ?_ ?_
        · rintro i x Gi acc D H1 H2 hi e nD rfl ha w1 ⟨rfl, hx⟩
          rw [List.getElem?_map] at hx
          obtain ⟨n, hn, rfl⟩ := Option.map_eq_some_iff.mp hx
          walk_at "go"
          refine ⟨rfl, ?_⟩
          walk_at "go"
          refine g_isi (.ty _) (.base (.str n)) kit_str ?_
          walk_at "go"
          refine g_inDk w1 (upd_old (e _ _ hd) nD) ?_
          have e2 : (valV (colKvs cs as) (.inr n)).isSome = (colOf cs n).isSome := by
            rcases colOf_at (n := n) hc with ⟨c, a, q1, q2, _⟩ | ⟨q1, q2⟩ <;> rw [q1, q2] <;> rfl
          rw [e2]
          refine lc_keep (Pv := fun i _ acc => acc = ((g.take i).map fun n => (colOf cs n).isSome).map V.bl) w1 e nD ha hi (by rw [sizeLine_eq, List.length_map]; omega) ?_
          rw [List.take_add_one, hn]
          simp
        · rintro D Gn acc H1 e nD rfl ha w1
          walk_at "go"
          rw [List.length_map, List.take_length] at w1
          refine g_all w1 (SqL.of upd_same) ?_
          rw [all_map]
          replace w1 := w1.drop (Same.trans e (Same.newG nD))
          walk_at "go"
          refine iteBN (fun h3 => ?_) (fun h3 => ?_)
          · walk_at "go"
            rw [res, h3] at k
            simp only [Bool.false_and] at k
            exact k _ w1
          · rw [h3, Bool.true_and] at res
            walk_at "go"
            refine g_rLenSet w1 hp (by omega) ?_
            walk_at "go"
            refine g_lenT w1 hp ?_
            rw [List.length_map]
            refine g_neS rfl ?_
            walk_at "go"
            refine iteN (fun h4 => ?_) (fun h4 => ?_)
            · walk_at "go"
              rw [res, decide_eq_false (fun z => h4 (by rw [(dcnt_nodup g).mpr z]))] at k
              simp only [Bool.false_and] at k
              exact k _ w1
            · have nd : g.Nodup := (dcnt_nodup g).mp (by have := V.int.inj h4; omega)
              rw [decide_eq_true nd, Bool.true_and] at res
              walk_at "go"
              refine ⟨p, rfl, ⟨_, Evl.ex_t w1.sub hp⟩, ?_⟩
              refine lc_it (itf_tup (xs := g.map V.str)) w1 (fun _ e => Evl.ex_t e hp) (by rw [sizeLine_eq, List.length_map]; omega) (fun i _ acc => acc = ((g.take i).map fun n => match colOf cs n with | some c => useful c | none => false).map V.bl) rfl ?_ ?_
              · rintro i x Gi acc D2 H2 H3 hi e2 nD2 rfl ha2 w2 ⟨rfl, hx⟩
                rw [List.getElem?_map] at hx
                obtain ⟨n, hn, rfl⟩ := Option.map_eq_some_iff.mp hx
                have hn3 := List.all_eq_true.mp h3 n (List.mem_of_getElem? hn)
                have hlast : ∀ (b : Bool), b = (match colOf cs n with | some c => useful c | none => false) → (((g.take i).map fun n => match colOf cs n with | some c => useful c | none => false).map V.bl) ++ [V.bl b] = ((g.take (i + 1)).map fun n => match colOf cs n with | some c => useful c | none => false).map V.bl := fun b hb => by
                  rw [List.take_add_one, hn, hb]
                  simp
                walk_at "go"
                refine ⟨rfl, ?_⟩
                walk_at "go"
                rcases colOf_at (n := n) hc with ⟨c, a, q1, q2, q3, q4⟩ | ⟨q1, q2⟩
                · rw [q1] at hlast
                  refine g_dgetE w2 (upd_old (e2 _ _ hd) nD2) q2 ?_
                  refine prop_kind GK w2 (q3.same (Same.trans e2 (Same.newG nD2))) fun H4 w4 => ?_
                  walk_at "go"
                  refine g_neS rfl ?_
                  walk_at "go"
                  have ek : decide (V.str (kstr c.k) = V.str "ref") = decide (c.k = .ref) := by cases c.k <;> decide
                  rw [ek]
                  refine iteN (fun h5 => ?_) (fun h5 => ?_)
                  · rw [decide_eq_false h5]
                    exact lc_keep (Pv := fun i _ acc => acc = ((g.take i).map fun n => match colOf cs n with | some c => useful c | none => false).map V.bl) w4 e2 nD2 ha2 hi (by rw [sizeLine_eq, List.length_map]; omega) (hlast true (by show true = (!decide (c.k = .ref) || c.opt); rw [decide_eq_false h5]; rfl))
                  · walk_at "go"
                    refine g_dgetE w4 (upd_old (e2 _ _ hd) nD2) q2 ?_
                    obtain ⟨dx, hx⟩ := q3.same (Same.trans e2 (Same.newG nD2))
                    refine g_gf w4 hx (CF.cls _) (CF.no _) c.l_opt ?_
                    exact lc_keep (Pv := fun i _ acc => acc = ((g.take i).map fun n => match colOf cs n with | some c => useful c | none => false).map V.bl) w4 e2 nD2 ha2 hi (by rw [sizeLine_eq, List.length_map]; omega) (hlast c.opt (by show c.opt = (!decide (c.k = .ref) || c.opt); rw [decide_eq_true h5]; rfl))
                · rw [q1] at hn3
                  cases hn3
              · rintro D2 Gn2 acc H2 e2 nD2 rfl ha2 w2
                walk_at "go"
                rw [List.length_map, List.take_length] at w2
                refine g_any w2 (SqL.of upd_same) ?_
                rw [any_map]
                rw [res] at k
                exact k _ (w2.drop (Same.trans e2 (Same.newG nD2)))
    · walk_at "go"
      rw [res, decide_eq_false (show ¬ 1 ≤ g.length by omega)] at k
      simp only [Bool.false_and] at k
      exact k _ w
  · refine g_isi (.ty _) (tyX_same w.sub ht) hk ?_
    walk_at "go"
    exact k _ w
  · refine g_isi (.ty _) (tyX_same w.sub (tyX_tup hp)) kit_tup ?_
    walk_at "go"
    refine g_lenT w hp ?_
    walk_at "go"
    refine iteD (fun h1 => ?_) (fun h1 => ?_)
    · walk_at "go"
      refine iteN (fun h2 => ?_) (fun h2 => ?_)
      · walk_at "go"
        exact k _ w
      · walk_at "go"
        refine ⟨p, rfl, ⟨_, Evl.ex_t w.sub hp⟩, ?_⟩
        refine lc_it (itf_tup (xs := xs)) w (fun _ e => Evl.ex_t e hp) (by rw [sizeLine_eq]; omega) (fun i _ acc => ∃ bs : List Bool, acc = bs.map V.bl ∧ ∀ j x, xs[j]? = some x → j < i → NotStr K G x → false ∈ bs) ⟨[], rfl, fun j x _ h => absurd h (Nat.not_lt_zero _)⟩ ?_ ?_
        · rintro i x Gi acc D H1 H2 hi e nD ⟨bs, rfl, hb⟩ ha w1 ⟨rfl, hx⟩
          have keep : ∀ b : Bool, (NotStr K G x → b = false) → (∃ bs' : List Bool, bs.map V.bl ++ [V.bl b] = bs'.map V.bl ∧ ∀ j x, xs[j]? = some x → j < i + 1 → NotStr K G x → false ∈ bs') := fun b hn => by
            refine ⟨bs ++ [b], by simp, fun j y hy hj hn' => ?_⟩
            rw [List.mem_append]
            by_cases h : j < i
            · exact .inl (hb j y hy h hn')
            · have : j = i := by omega
              subst this
              rw [hx] at hy
              cases hy
              exact .inr (by rw [hn hn']; exact List.mem_singleton.mpr rfl)
          walk_at "go"
          refine ⟨rfl, ?_⟩
          walk_at "go"
          rcases hs x (List.mem_of_getElem? hx) with ⟨n, rfl⟩ | hn
          · refine g_isi (.ty _) (.base (.str n)) kit_str ?_
            walk_at "go"
            refine g_inDk w1 (upd_old (e _ _ hd) nD) ?_
            refine lc_keep (Pv := fun i _ acc => ∃ bs : List Bool, acc = bs.map V.bl ∧ ∀ j x, xs[j]? = some x → j < i → NotStr K G x → false ∈ bs) w1 e nD ha hi (by rw [sizeLine_eq]; omega) (keep _ fun ⟨t, ht, hk⟩ => ?_)
            cases ht with
            | base ht =>
              cases ht
              rw [kit_str] at hk
              cases hk
          · obtain ⟨t, ht, hk⟩ := hn.same (Same.trans e (Same.newG nD))
            refine g_isi (.ty _) (tyX_same w1.sub ht) hk ?_
            walk_at "go"
            exact lc_keep (Pv := fun i _ acc => ∃ bs : List Bool, acc = bs.map V.bl ∧ ∀ j x, xs[j]? = some x → j < i → NotStr K G x → false ∈ bs) w1 e nD ha hi (by rw [sizeLine_eq]; omega) (keep _ fun _ => rfl)
        · rintro D Gn acc H1 e nD ⟨bs, rfl, hb⟩ ha w1
          obtain ⟨j, hj⟩ := List.getElem?_of_mem hx0
          have hf : bs.all id = false := by
            rw [List.all_eq_false]
            exact ⟨false, hb j x0 hj (List.getElem?_eq_some_iff.mp hj).1 hn0, by simp⟩
          walk_at "go"
          refine g_all w1 (SqL.of upd_same) ?_
          rw [hf]
          walk_at "go"
          exact k _ (w1.drop (Same.trans e (Same.newG nD)))
    · walk_at "go"
      exact k _ w
end
end Sv


set_option Elab.async false
set_option linter.all false
set_option maxRecDepth 100000
set_option maxHeartbeats 4000000
namespace PySem
open Sem (wp)
open AutoSeq1 (wpAny_loadPart')
/-! ### enumerate(v), v a tuple -/
theorem swMeets_enum1 {v : Value} {o : Obj} {H : Heap → Prop} (B : Begins v o H) :
    Meets (Builtin.«enumerate.__new__» ⟨[.type "enumerate", v], []⟩) (fun _ R s => H s.heap ∧
      R (.ok (.ret (.ref (s.heap.push o).objs.size))) { s with heap := (s.heap.push o).push { cls := .type "enumerate", data := .fields #[.none, .bool false, .ref s.heap.objs.size, rawInt 0, .none, .none] } }) :=
  .of_wp fun prog w A R s h => by
    obtain ⟨hp, g, d, tk, os⟩ := s; obtain ⟨h1, h⟩ := h
    have hsub := sub_enumerate
    have q1 : ∀ {A' : Around} {E : Value → Shared → Prop} {Q : Value → Shared → Prop}, Q (.ref hp.objs.size) ⟨hp.push o, g, d, tk, os⟩ → wpAny (model prog w) A' (pyIter v) Q E ⟨hp, g, d, tk, os⟩ :=
      fun q => B.iter prog w _ _ ⟨hp, g, d, tk, os⟩ _ h1 q
    wp_walk using q1
    refine wpAny_stack_any fun st => wpAny_pure ?_
    split
    · rename_i c _ _ _ _ _
      cases (c == Value.type "enumerate")
      · wp_walk using q1
        exact ⟨_, rfl, h⟩
      · wp_walk using q1
        exact ⟨_, rfl, h⟩
    · wp_walk using q1
      exact ⟨_, rfl, h⟩
section
variable {prog : Program} {w : World} {A : Around} {E : Value → Shared → Prop} {s : Shared}
theorem swCall_enum1 {v : Value} {o : Obj} {H : Heap → Prop} {Q : Value → Shared → Prop} (B : Begins v o H) (h1 : H s.heap)
    (h : ∀ h', IsEnum h' (s.heap.objs.size + 1) s.heap.objs.size 0 .none → h'.get? s.heap.objs.size = some o → h'.objs.size = s.heap.objs.size + 2 →
      (∀ b o, s.heap.get? b = some o → h'.get? b = some o) → Q (.ref (s.heap.objs.size + 1)) { s with heap := h' }) :
    wpAny (model prog w) A (call (.type "enumerate") [v]) Q E s := by
  refine callType_new F.called_enumerate (by decide) (F.typeCall_enumerate_1 _) (F.newCall_enumerate_1 _) (fun obj => F.args_object_init_2 obj _) F.entry_enumerate_new
    (swMeets_enum1 B) ⟨h1, ?_⟩
  have hz : (s.heap.push o).objs.size = s.heap.objs.size + 1 := Heap.size_push ..
  show _ ∧ _
  rw [hz]
  have he : IsEnum ((s.heap.push o).push { cls := .type "enumerate", data := .fields #[.none, .bool false, .ref s.heap.objs.size, rawInt 0, .none, .none] }) (s.heap.objs.size + 1) s.heap.objs.size 0 .none := by
    have := Heap.get?_push_size (s.heap.push o) (o := { cls := .type "enumerate", data := .fields #[.none, .bool false, .ref s.heap.objs.size, rawInt 0, .none, .none] }) rfl
    rw [hz] at this; exact this
  refine ⟨⟨_, he, rfl⟩, h _ he (Heap.get?_push_of_some _ (Heap.get?_push_size _ B.free)) (by rw [Heap.size_push, hz]) fun b o x => Heap.get?_push_of_some _ (Heap.get?_push_of_some _ x)⟩
end
end PySem
namespace Sw
open PySem PySem.Spec PyProof.Rows L2
/-- the tuple at a, each item in a new pair -/
def Itet (K : PySem.W.Frag) (a : Addr) : It :=
  ⟨fun i H => ∃ (xs : List V) (x : V), SqT K H a xs ∧ xs[i]? = some x, fun i H v H' => ∃ T x, v = .ref T ∧ H T = none ∧ H' = upd H T (.tup [.int (i : Nat), x]) ∧ ∀ xs, SqT K H a xs → xs[i]? = some x, fun i H => ∃ xs : List V, SqT K H a xs ∧ xs.length = i⟩
theorem turn_enumT {P : Program} {w : World} {K : PySem.W.Frag} {elts : List Expr} {kk : Nat} {tpos : Pos} (a e it : Addr) (hait : a ≠ it) (hae : e ≠ a) :
    Turn P w K (.Tuple elts kk tpos) (Itet K a) [e, it] e (fun i h => (∃ old, IsEnum h e it ((i : Nat) : Int) old) ∧ h.IsTupleIter it a i ∧ e ≠ it) where
  mem := by simp
  obj := fun i h st b hb => by
    obtain ⟨⟨old, he⟩, ⟨o, ho, hc, hd⟩, _⟩ := st
    have e' : b = e ∨ b = it := by simpa using hb
    rcases e' with z | z
    · rw [z]; exact ⟨_, he, fun v q => nomatch q⟩
    · rw [z]; exact ⟨o, ho, fun v q => by rw [hd] at q; cases q⟩
  keep := fun i h h' st k => let ⟨⟨old, he⟩, hi, hne⟩ := st; ⟨⟨old, k e (by simp) _ he⟩, hi.at fun o q => k it (by simp) o q, hne⟩
  item := by
    intro X hP hw hK hc i pins s σ H E I hf st hg
    subst hP hw hK
    obtain ⟨⟨old, he⟩, hit, hne⟩ := st
    obtain ⟨xs, x, hq, hx⟩ := hg
    obtain ⟨its, rv, p, hz⟩ := I.tuple hq
    obtain ⟨u, hu, ru⟩ := rv.get hx
    have hel : e < s.heap.objs.size := Heap.lt_size he
    have hil : it < s.heap.objs.size := by obtain ⟨_, q, _⟩ := hit; exact Heap.lt_size q
    have hlt : i < its.toArray.size := by
      have := List.getElem?_eq_some_iff.mp hu
      obtain ⟨h1, _⟩ := this
      simpa using h1
    refine wpAny_pyNext_enum_itemD (Draws.tuple (A := X.A.in1) (show X.A.in1.handled = none from I.ok.hd hc) it a hait its.toArray) he ⟨hit, show s.heap.IsTuple a its.toArray from p⟩ hlt hne (by simp [hne, hae]) fun u' h' tk hu' ho st2 hT hsz hk => ?_
    obtain rfl : u' = u := by
      have h2 : its[i]? = some u' := by simpa using hu'
      rw [hu] at h2
      exact (Option.some.inj h2).symm
    obtain ⟨hit', hTup⟩ := st2
    refine ⟨_, rfl, wpAny_letOwnedTupleGo_enum (s := { s with heap := h', toks := tk + 1 }) ho fun h'' he' sb => ?_⟩
    have hT2 : h''.get? s.heap.objs.size = some { cls := .type "tuple", data := .seq #[.int i tk, u'] } := (sb.2 _ (Nat.ne_of_gt hel)).trans hT
    have new : ObjOk X.prog X.w (upd H s.heap.objs.size (.tup [.int (i : Nat), x])) h'' s.heap.objs.size (.tup [.int (i : Nat), x]) :=
      ⟨by show 2 ≤ sizeLine; decide, [.int i tk, u'], .cons ⟨_, rfl⟩ (.cons ru .nil), ⟨_, hT2, rfl, _, rfl⟩⟩
    have I1 : Inv X pins σ (upd H s.heap.objs.size (.tup [.int (i : Nat), x])) { s with heap := h'', toks := tk + 1 } :=
      I.turnedNew (ch := [e, it]) (fun b ob hb q => (sb.2 b (fun z => hb (by simp [z]))).trans (hk b ob (fun z => hb (by simp [z])) (fun z => hb (by simp [z])) q)) hf (Nat.le_refl _) new
    refine ⟨.ref s.heap.objs.size, _, I1, rfl, ⟨_, x, rfl, I.hok.fresh (Nat.le_refl _), rfl, fun ys hy => by rw [I.tuple_inj hy hq]; exact hx⟩, ⟨⟨u', ?_⟩, hit'.at fun o q => (sb.2 it (Ne.symm hne)).trans q, hne⟩, fun b hb => ?_⟩
    · have e1 : ((i + 1 : Nat) : Int) = (i : Int) + 1 := by omega
      rw [e1]; exact he'
    · have hb' : b < s.heap.objs.size := by
        have e' : b = e ∨ b = it := by simpa using hb
        rcases e' with z | z
        · rw [z]; exact hel
        · rw [z]; exact hil
      rw [upd_ne (Nat.ne_of_lt hb')]
      exact (hf b hb).1
  done := by
    intro X hP hw hK hc i pins s σ H E I hf st hg
    subst hP hw hK
    obtain ⟨⟨old, he⟩, hit, hne⟩ := st
    obtain ⟨xs, hq, hx⟩ := hg
    obtain ⟨its, rv, p, hz⟩ := I.tuple hq
    obtain ⟨f0, f1, f2, f3, f4, f5⟩ := hf it (by simp)
    have hl := rv.length
    have hn : i = its.toArray.size := by rw [← hx, hl]; simp
    refine wpAny_pyNext_enum_endD (Draws.tuple (A := X.A.in1) (show X.A.in1.handled = none from I.ok.hd hc) it a hait its.toArray) he ⟨by rw [← hn]; exact hit, show s.heap.IsTuple a its.toArray from p⟩ fun h' eb => ⟨rfl, I.turned (t' := s.toks) (fun b o hb q => eb b o hb q) f0 f1 f3 f4 f5⟩
  self := fun A i s Q E st h => let ⟨⟨_, he⟩, _⟩ := st; wpAny_pyIter_enum he h
def iEnumT (K : PySem.W.Frag) (ta : TA) : TI := fun σ H R => ta σ H fun vs H1 => ∃ a xs, vs = [.ref a] ∧ SqT K H1 a xs ∧ R (Itet K a) H1
theorem pi_enumT {X : Cx} {e : Expr} {ta : TA} {p pos tpos : Pos} {elts : List Expr} {kk : Nat} (hg : Gl X "enumerate") (hm : X.mg "enumerate" = none) (ha : PA X [e] ta) (hs : starEach [e] X.env = [(false, eval e X.env)] := by rfl) :
    PI X (.Tuple elts kk tpos) (.Call (.Name "enumerate" p) [e] [] pos) (iEnumT X.K ta) := by
  refine ⟨fun pins s σ H R I h => ?_⟩
  refine Call_ (ld_blt I hg hm boot_enumerate (PyProof.Rows.callWith_type1 (thn (ha.run pos pins s σ H _ I h) fun us s1 ⟨vs, H1, I1, r1, q1⟩ => ?_) hs rfl))
  obtain ⟨a, xs, ex, hq, q⟩ := q1
  subst ex
  cases r1 with
  | cons r rr =>
    cases rr
    cases r
    obtain ⟨its, rv, p', hz⟩ := I1.tuple hq
    have hal : a < s1.heap.objs.size := by obtain ⟨_, q', _⟩ := p'; exact Heap.lt_size q'
    refine swCall_enum1 (begins_tuple a its.toArray) (show s1.heap.IsTuple a its.toArray from p') fun h' he hit hsz hk => wpAny_pyIter_enum he ?_
    have I2 : Inv X pins σ H1 { s1 with heap := h' } := I1.kept (t' := s1.toks) hk
    refine ⟨s1.heap.objs.size + 1, [s1.heap.objs.size + 1, s1.heap.objs.size], _, _, H1, rfl, I2, turn_enumT a (s1.heap.objs.size + 1) s1.heap.objs.size (Nat.ne_of_lt hal) (Nat.ne_of_gt (Nat.lt_succ_of_lt hal)), ⟨⟨.none, he⟩, ⟨_, hit, rfl, rfl⟩, Nat.succ_ne_self _⟩, fun b hb => ?_, q⟩
    have e' : b = s1.heap.objs.size + 1 ∨ b = s1.heap.objs.size := by simpa using hb
    have hle : s1.heap.objs.size ≤ b := by
      rcases e' with z | z
      · rw [z]; exact Nat.le_add_right _ _
      · rw [z]; exact Nat.le_refl _
    exact I1.fpOk hle (I1.hok.fresh hle)
theorem itf_enumT {K : PySem.W.Frag} {a : Addr} {xs : List V} : Itf (Itet K a) xs.length (fun H => SqT K H a xs) (fun i v H H' => ∃ T x, v = .ref T ∧ H T = none ∧ H' = upd H T (.tup [.int (i : Nat), x]) ∧ xs[i]? = some x) where
  go := fun i H hi h => ⟨xs, xs[i], h, List.getElem?_eq_getElem hi⟩
  stop := fun H h => ⟨xs, h, rfl⟩
  yld := fun i H x H' hi h y => by
    obtain ⟨T, u, e1, e2, e3, e4⟩ := y
    exact ⟨T, u, e1, e2, e3, e4 xs h⟩
theorem g_forET {K : PySem.W.Frag} {g : TG} {tb : TS} {D : Ends} {σ : L2.St} {H : Hp} {ta : TA} (k : ta σ H fun vs H1 => ∃ a xs, vs = [.ref a] ∧ SqT K H1 a xs ∧ ForW (Itet K a) g tb D σ H1) : tFor (iEnumT K ta) g tb D σ H := k
theorem g_lcET {K : PySem.W.Frag} {g : TG} {tt : TT} {te : TE} {vs : List Nat} {σ : L2.St} {H : Hp} {Q : VK} {ta : TA} (k : ta σ H fun us H1 => ∃ a xs, us = [.ref a] ∧ SqT K H1 a xs ∧ LcW (Itet K a) g tt te vs σ Q H1) : tLc (iEnumT K ta) g tt te vs σ H Q := k
/-! ### enumerate(x), x a list or a tuple -/
def SqB (t : Bool) (K : PySem.W.Frag) (H : Hp) (a : Addr) (xs : List V) : Prop := match t with
  | true => SqT K H a xs
  | false => SqL K H a xs
def Itex (K : PySem.W.Frag) (a : Addr) : Bool → It
  | true => Itet K a
  | false => Ite K a
theorem itf_enumB {K : PySem.W.Frag} {a : Addr} {xs : List V} : ∀ t : Bool, Itf (Itex K a t) xs.length (fun H => SqB t K H a xs) (fun i v H H' => ∃ T x, v = .ref T ∧ H T = none ∧ H' = upd H T (.tup [.int (i : Nat), x]) ∧ xs[i]? = some x)
  | true => itf_enumT
  | false => itf_enum
theorem SqB.ex {t : Bool} {K : PySem.W.Frag} {G H : Hp} {a : Addr} {xs : List V} (e : Same G H) (h : SqB t K G a xs) : SqB t K H a xs := by
  cases t with
  | true => exact Evl.ex_t e h
  | false => exact Evl.ex_l e h
theorem SqB.or {t : Bool} {K : PySem.W.Frag} {H : Hp} {a : Addr} {xs : List V} (h : SqB t K H a xs) : SqL K H a xs ∨ SqT K H a xs := by
  cases t with
  | true => exact .inr h
  | false => exact .inl h
def iEnumB (K : PySem.W.Frag) (ta : TA) : TI := fun σ H R => ta σ H fun vs H1 => ∃ a xs t, vs = [.ref a] ∧ SqB t K H1 a xs ∧ R (Itex K a t) H1
theorem pi_enumB {X : Cx} {e : Expr} {ta : TA} {p pos tpos : Pos} {elts : List Expr} {kk : Nat} (hg : Gl X "enumerate") (hm : X.mg "enumerate" = none) (ha : PA X [e] ta) (hs : starEach [e] X.env = [(false, eval e X.env)] := by rfl) :
    PI X (.Tuple elts kk tpos) (.Call (.Name "enumerate" p) [e] [] pos) (iEnumB X.K ta) := by
  refine ⟨fun pins s σ H R I h => ?_⟩
  refine Call_ (ld_blt I hg hm boot_enumerate (PyProof.Rows.callWith_type1 (thn (ha.run pos pins s σ H _ I h) fun us s1 ⟨vs, H1, I1, r1, q1⟩ => ?_) hs rfl))
  obtain ⟨a, xs, t, ex, hq, q⟩ := q1
  subst ex
  cases r1 with
  | cons r rr =>
    cases rr
    cases r
    cases t with
    | true =>
      obtain ⟨its, rv, p', hz⟩ := I1.tuple hq
      have hal : a < s1.heap.objs.size := by obtain ⟨_, q', _⟩ := p'; exact Heap.lt_size q'
      refine swCall_enum1 (begins_tuple a its.toArray) (show s1.heap.IsTuple a its.toArray from p') fun h' he hit hsz hk => wpAny_pyIter_enum he ?_
      have I2 : Inv X pins σ H1 { s1 with heap := h' } := I1.kept (t' := s1.toks) hk
      exact ⟨s1.heap.objs.size + 1, [s1.heap.objs.size + 1, s1.heap.objs.size], _, _, H1, rfl, I2, turn_enumT a (s1.heap.objs.size + 1) s1.heap.objs.size (Nat.ne_of_lt hal) (Nat.ne_of_gt (Nat.lt_succ_of_lt hal)), ⟨⟨.none, he⟩, ⟨_, hit, rfl, rfl⟩, Nat.succ_ne_self _⟩, fun b hb => by
        have e' : b = s1.heap.objs.size + 1 ∨ b = s1.heap.objs.size := by simpa using hb
        have hle : s1.heap.objs.size ≤ b := by
          rcases e' with z | z
          · rw [z]; exact Nat.le_add_right _ _
          · rw [z]; exact Nat.le_refl _
        exact I1.fpOk hle (I1.hok.fresh hle), q⟩
    | false =>
      obtain ⟨its, rv, p', hz⟩ := I1.list hq
      refine call_enumerate_list p'.isList fun h' he hit hsz hk => wpAny_pyIter_enum he ?_
      have I2 : Inv X pins σ H1 { s1 with heap := h' } := I1.kept (t' := s1.toks) hk
      exact ⟨s1.heap.objs.size + 1, [s1.heap.objs.size + 1, s1.heap.objs.size], _, _, H1, rfl, I2, turn_enum a (s1.heap.objs.size + 1) s1.heap.objs.size, ⟨⟨.none, he⟩, hit, Nat.succ_ne_self _⟩, fun b hb => by
        have e' : b = s1.heap.objs.size + 1 ∨ b = s1.heap.objs.size := by simpa using hb
        have hle : s1.heap.objs.size ≤ b := by
          rcases e' with z | z
          · rw [z]; exact Nat.le_add_right _ _
          · rw [z]; exact Nat.le_refl _
        exact I1.fpOk hle (I1.hok.fresh hle), q⟩
theorem g_forEB {K : PySem.W.Frag} {g : TG} {tb : TS} {D : Ends} {σ : L2.St} {H : Hp} {ta : TA} (k : ta σ H fun vs H1 => ∃ a xs t, vs = [.ref a] ∧ SqB t K H1 a xs ∧ ForW (Itex K a t) g tb D σ H1) : tFor (iEnumB K ta) g tb D σ H := k
theorem g_lcEB {K : PySem.W.Frag} {g : TG} {tt : TT} {te : TE} {vs : List Nat} {σ : L2.St} {H : Hp} {Q : VK} {ta : TA} (k : ta σ H fun us H1 => ∃ a xs t, us = [.ref a] ∧ SqB t K H1 a xs ∧ LcW (Itex K a t) g tt te vs σ Q H1) : tLc (iEnumB K ta) g tt te vs σ H Q := k
end Sw

set_option Elab.async false
set_option linter.all false
set_option maxRecDepth 100000
set_option maxHeartbeats 4000000
namespace Sv
open PySem PySem.Spec PyProof.Rows L2 Sw
local macro_rules | `(tactic| walk_at "go1") => `(tactic| first
  | ((with_reducible refine' g_var ?hv ?_); (case hv => rfl))
  | with_reducible refine g_c ?_
  | with_reducible refine g_op ?_
  | with_reducible refine g_un ?_
  | with_reducible refine g_seq ?_
  | with_reducible refine g_next ?_
  | with_reducible refine g_asg ?_
  | with_reducible refine g_name ?_
  | with_reducible refine g_drop ?_
  | with_reducible refine g_sub ?_
  | with_reducible refine g_ret ?_
  | with_reducible refine g_retN ?_
  | with_reducible refine g_ifS ?_
  | with_reducible refine g_if ?_
  | with_reducible refine g_test ?_
  | with_reducible refine g_bl ?_
  | with_reducible refine g_cons ?_
  | with_reducible refine g_nil ?_
  | with_reducible refine g_and ?_
  | with_reducible refine g_or ?_
  | with_reducible refine g_not ?_
  | with_reducible refine g_callB ?_
  | with_reducible refine g_addI ?_
  | with_reducible refine g_I0 ?_
  | with_reducible refine g_calG ?_
  | with_reducible refine g_mkG ?_
  | with_reducible refine g_tup ?_
  | with_reducible refine g_pairs1 ?_
  | with_reducible refine g_pairs0 ?_
  | with_reducible refine g_dget ?_
  | with_reducible refine g_lvals ?_
  | with_reducible refine g_forT ?_
  | with_reducible refine g_lcT ?_
  | with_reducible refine g_dput ?_
  | with_reducible refine g_lc2L ?_
  | with_reducible refine g_iList ?_
  | with_reducible refine g_lcX ?_
  | with_reducible refine g_js1 ?_
  | with_reducible refine g_js0 ?_
  | with_reducible refine g_fmt ?_
  | with_reducible refine g_tLenSet ?_
  | with_reducible refine g_mkV ?_
  | with_reducible refine g_mkV1 ?_
  | with_reducible refine g_lst ?_
  | with_reducible refine g_forL ?_
  | with_reducible refine g_forR ?_
  | with_reducible refine g_forR2 ?_
  | with_reducible refine g_forS ?_
  | with_reducible refine g_forE ?_
  | with_reducible refine g_forEB ?_
  | with_reducible refine g_lcL ?_
  | with_reducible refine g_lcR ?_
  | with_reducible refine g_lcS ?_
  | with_reducible refine g_lcE ?_
  | with_reducible refine g_lcEB ?_
  | with_reducible refine g_orT ?_
  | with_reducible refine g_slc ?_
  | with_reducible refine g_noPart ?_
  | with_reducible refine g_part ?_
  | with_reducible refine g_bm ?_
  | with_reducible refine g_par ?_
  | with_reducible refine g_yes ?_
  | with_reducible refine g_tupG ?_
  | with_reducible refine g_lstG ?_
  | with_reducible refine g_gcons ?_
  | with_reducible refine g_gnil ?_
  | with_reducible refine g_chain ?_
  | with_reducible refine g_truB ?_
  | with_reducible refine g_truN ?_
  | with_reducible refine g_truI ?_
  | with_reducible refine g_m1 ?_
  | with_reducible refine g_fld ?_
  | with_reducible refine g_con ?_
  | with_reducible refine g_tru ?_
  | with_reducible refine g_U ?_
  | with_reducible refine g_xg ?_
  | with_reducible refine g_andT ?_
  | with_reducible refine g_exI ?_
  | with_reducible refine g_dnew ?_
  | with_reducible refine g_intB ?_
  | with_reducible refine g_meth ?_
  | with_reducible refine g_prop ?_
  | with_reducible refine g_exc1 ?_
  | with_reducible refine g_setF ?_
  | with_reducible refine g_star ?_
  | with_reducible refine g_strM ?_
  | with_reducible refine iteT ?_
  | with_reducible refine iteF ?_
  | with_reducible refine iteNT ?_
  | with_reducible refine iteNF ?_)
local macro_rules | `(tactic| walk_at "go") => `(tactic| repeat (walk_at "go1"))
local macro_rules | `(tactic| walk_at "sz") => `(tactic| (first | (rw [sizeLine_eq]; simp only [List.length_cons, List.length_nil, List.length_map, List.length_append, List.length_take]; omega) | (rw [sizeLine_eq]; omega)))
/-! ### Table.__init__ -/
def firstDup : List Str → List Str → Option Str
  | _, [] => none
  | seen, n :: r => if n ∈ seen then some n else firstDup (seen ++ [n]) r
theorem firstDup_in {seen l r : List Str} {n : Str} (h : n ∈ seen) (e : l = n :: r) : firstDup seen l = some n := by
  rw [e, firstDup, if_pos h]
theorem firstDup_out {seen l r : List Str} {n : Str} (h : n ∉ seen) (e : l = n :: r) : firstDup seen l = firstDup (seen ++ [n]) r := by
  rw [e, firstDup, if_neg h]
inductive TRes where
  | name | col (n : Option Str) | grp (i : Nat) | ok
def tabRes (b : Bool) (cs : List Col) (os : List (Option (List Str))) : TRes :=
  if b = false then .name else match firstDup [] (cs.map Col.name) with
    | some n => .col (some n)
    | none => if cs = [] then .col none else match os.findIdx? fun o => !grpB cs o with
      | some i => .grp i
      | none => .ok
def XQ (G : Hp) (R : Res) (C : Addr) (fld : Str) (v : V) (E : XK) : Prop := ∀ G' d H', Same G G' → G d = none → G' d = some (.xd [(fld, v)]) → Wd G' R H' → E (.ref C) (some d) H'
theorem XQ.raise {G G1 H : Hp} {R : Res} {C : Addr} {fld : Str} {v : V} {E : XK} (k : XQ G R C fld v E) (w : Wd G1 R H) (e : Same G G1) : ∃ v', [v] = [v'] ∧ ∀ d, H d = none → E (.ref C) (some d) (upd H d (.xd [(fld, v')])) :=
  ⟨v, rfl, fun d hd => k _ d _ (Same.trans e (Same.newG (w.free hd))) (Same.free e (w.free hd)) upd_same (w.new hd)⟩
def optV : Option Str → V
  | some n => .str n
  | none => .non
structure TabF (K : PySem.W.Frag) (A : Ad) : Prop where
  cT : Cls K A.Table
  nn : NoAttr K A.Table "name"
  nb : NoAttr K A.Table "by_name"
  ng : NoAttr K A.Table "own_groups"
theorem colKvs_len {cs : List Col} {as : List Addr} : (colKvs cs as).length ≤ cs.length := by
  unfold colKvs
  rw [List.length_map, List.length_zip]
  exact Nat.min_le_left _ _
theorem colKvs_take {A : Ad} {G : Hp} {cs : List Col} {as : List Addr} (h : ColsAt A G cs as) {i : Nat} {c : Col} {a : Addr} (hc : cs[i]? = some c) (ha : as[i]? = some a) : colKvs (cs.take (i + 1)) (as.take (i + 1)) = colKvs (cs.take i) (as.take i) ++ [(Sum.inr c.name, V.ref a)] := by
  unfold colKvs
  rw [List.take_add_one, List.take_add_one, hc, ha]
  have l : (cs.take i).length = (as.take i).length := by
    rw [List.length_take, List.length_take, Sw.Paired.len h]
  rw [Option.toList_some, Option.toList_some, List.zip_append l, List.map_append]
  rfl
theorem ColsAt.take {A : Ad} {G : Hp} : ∀ {cs : List Col} {as : List Addr} (_ : ColsAt A G cs as) (i : Nat), ColsAt A G (cs.take i) (as.take i)
  | _, _, .nil, i => by rw [List.take_nil, List.take_nil]; exact .nil
  | _, _, .cons _ _, 0 => .nil
  | _, _, .cons r t, i + 1 => .cons r (ColsAt.take t i)
theorem valV_names {A : Ad} {G : Hp} {cs : List Col} {as : List Addr} (h : ColsAt A G cs as) (n : Str) : (valV (colKvs cs as) (.inr n)).isSome = decide (n ∈ cs.map Col.name) := by
  rcases colOf_at (n := n) h with ⟨c, a, q1, q2, q3, q4⟩ | ⟨q1, q2⟩
  · rw [q2]
    have : c.name = n := by
      have := List.find?_some q1
      simpa using this
    rw [decide_eq_true (List.mem_map.mpr ⟨c, q4, this⟩)]
    rfl
  · rw [q2]
    have : n ∉ cs.map Col.name := fun z => by
      obtain ⟨c, hc, e⟩ := List.mem_map.mp z
      have := List.find?_eq_none.mp q1 c hc
      simp [e] at this
    rw [decide_eq_false this]
    rfl
theorem putK_new {kvs : List (Key × V)} {k : Key} {v : V} (h : valV kvs k = none) : putK kvs k v = kvs ++ [(k, v)] := by
  unfold putK
  rw [if_neg]
  rw [valV_any, h]
  exact Bool.false_ne_true
theorem g_listB {t : Bool} {K : PySem.W.Frag} {G H : Hp} {R : Res} {Q : VK} {a : Addr} {xs : List V} (w : Wd G R H) (h : SqB t K G a xs) (k : ∀ p H', G p = none → Wd (upd G p (.lst xs)) R H' → Q (.ref p) H') : rListOf K [.ref a] H Q := ⟨a, xs, rfl, (h.ex w.sub).or, fun l hl => k l _ (w.free hl) (w.new hl)⟩
def TabQ (G : Hp) (R : Res) (A : Ad) (x dx : Addr) (v : V) (cs : List Col) (as : List Addr) (us : List V) (Q : VK) : Prop :=
  ∀ d gl G' H', G d = none → G gl = none → Same G G' → G' x = some (.ins A.Table dx [("name", v), ("by_name", .ref d), ("own_groups", .ref gl)]) → G' d = some (.dK (colKvs cs as)) → G' gl = some (.lst us) → Wd G' R H' → Q .non H'
def spTabInit (K : PySem.W.Frag) (A : Ad) : Sp := fun vs H Q E => ∃ G R x dx v b p q cs as us os t, vs = [.ref x, v, .ref q, .ref p] ∧ G x = none ∧ Wd (upd G x (.ins A.Table dx [])) R H ∧ SqT K G p (as.map V.ref) ∧ ColsAt A G cs as ∧ Nmb K G v b ∧ SqB t K G q us ∧ Paired (fun u o => GrpV K G u o) us os ∧ as.length ≤ 1000 ∧ us.length ≤ 1000 ∧
  match tabRes b cs os with
  | .name => XQ G R A.InvalidName "name" v E
  | .col o => XQ G R A.InvalidColumn "name" (optV o) E
  | .grp i => XQ G R A.InvalidGroup "index" (.int (i : Nat)) E
  | .ok => TabQ G R A x dx v cs as us Q
section
variable {P : Program} {wo : World} {A : Ad} {K : PySem.W.Frag} {mg : Str → Option Value} {base : Heap}
theorem sc_Table___init__ : FnScope (["self", "name", "unique", "columns", "by_name", "column", "index", "group"] : List Str) (["self", "name", "unique", "columns"] : List Str) (defScope s_Table___init__) := ⟨rfl, rfl, rfl, by decide +kernel, rfl, by decide +kernel, by decide +kernel⟩
theorem tab_body {f : Addr} {cdv : Value} {Ar : Around} {outer : List Env} {s : Shared} {H : Hp} {vs : List V} {Q : VK} {E : XK} (T : Txt K mg A) (CF : ColF K A) (TF : TabF K A)
    (Gn : GFn P wo K mg base 1 "is_name" 1 [] (fun vs _ => spIsName K vs)) (Gig : GFn P wo K mg base 3 "is_group" 2 [] (fun vs _ => spIsGroup K A vs))
    (XN : Exc1 P wo K mg base "InvalidName" A.InvalidName "name") (XC : Exc1 P wo K mg base "InvalidColumn" A.InvalidColumn "name") (XG : Exc1 P wo K mg base "InvalidGroup" A.InvalidGroup "index")
    (hr : Room 3 (Ar.deeper (envOfC "Table.__init__" (defScope s_Table___init__) s.heap.objs.size f cdv)))
    (tk : Takes (cxOf (L2.CX P wo) P wo K mg base (["self", "name", "unique", "columns", "by_name", "column", "index", "group"] : List Str) "Table.__init__" (defScope s_Table___init__) f cdv Ar outer s H E) (fun cls d _ H => E cls d H))
    (po : PassesOwn (model P wo) (Ar.deeper (envOfC "Table.__init__" (defScope s_Table___init__) s.heap.objs.size f cdv)) (envOfC "Table.__init__" (defScope s_Table___init__) s.heap.objs.size f cdv) (cxOf (L2.CX P wo) P wo K mg base (["self", "name", "unique", "columns", "by_name", "column", "index", "group"] : List Str) "Table.__init__" (defScope s_Table___init__) f cdv Ar outer s H E).xe)
    (h : spTabInit K A vs H Q E) :
    ∃ t, PSs (cxOf (L2.CX P wo) P wo K mg base (["self", "name", "unique", "columns", "by_name", "column", "index", "group"] : List Str) "Table.__init__" (defScope s_Table___init__) f cdv Ar outer s H E) (defBody s_Table___init__) t ∧ t { nx := fun _ H' => Q .non H', rt := Q } (L2.start (["self", "name", "unique", "columns", "by_name", "column", "index", "group"] : List Str) vs) H := by
  obtain ⟨G, R, x, dx, v, b, p, q, cs, as, us, os, tb, rfl, nx, w, hp, hc, hn, hq, hu, la, lu, k⟩ := h
  refine ⟨_, (pss_cons (ps_if (pt_not (kt_truth K (pe_callG Gn (hr.mono (by decide)) tk (pa_cons (pv 1) pa_nil) pk_nil) (by intro _; rfl))) (pss_one (ps_raise rfl tk (pmk_exc1 XN (hr.mono (by decide)) (pa_cons (pv 1) pa_nil)))) pss_nil)
      (pss_cons (ps_set (i := 4) sc_Table___init__.nd rfl (by first | exact Or.inl rfl | exact Or.inr rfl) pe_dnewK)
      (pss_cons (ps_for po rfl (ki_tup K (pv 3)) (pg_name (i := 5) sc_Table___init__.nd rfl (by first | exact Or.inl rfl | exact Or.inr rfl)) (pss_cons (ps_if (pt_cmpR (op_inDk (L2.hu_of hr)) (ke_fld K (pv 5) rfl) (pv 4) (by first | exact nomark _ | rfl)) (pss_one (ps_raise rfl tk (pmk_exc1 XC (hr.mono (by decide)) (pa_cons (ke_fld K (pv 5) rfl) pa_nil)))) pss_nil)
      (pss_one (ps_dput (L2.hu_of hr) (pv 4) (ke_fld K (pv 5) rfl) (pv 5) rfl))))
      (pss_cons (ps_if (pt_cmpR (op_eqDE hr.units0) (pv 4) pe_dnewK (nomark _)) (pss_one (ps_raise rfl tk (pmk_exc1 XC (hr.mono (by decide)) (pa_cons pe_non pa_nil)))) pss_nil)
      (pss_cons (ps_for po rfl (pi_enumB (by rfl) T.nb_enumerate (pa_cons (pv 2) pa_nil)) (kg_tup (n := 2) K rfl (pgs_cons (pg_name (i := 6) sc_Table___init__.nd rfl (by first | exact Or.inl rfl | exact Or.inr rfl)) (pgs_cons (pg_name (i := 7) sc_Table___init__.nd rfl (by first | exact Or.inl rfl | exact Or.inr rfl)) pgs_nil))) (pss_one (ps_if (pt_not (kt_truth K (pe_callG Gig (hr.mono (by decide)) tk (pa_cons (pv 4) (pa_cons (pv 7) pa_nil)) pk_nil) (by intro _; rfl))) (pss_one (ps_raise rfl tk (pmk_exc1 XG (hr.mono (by decide)) (pa_cons (pv 6) pa_nil)))) pss_nil)))
      (pss_cons (ps_fld (pv 0) (pv 1) rfl)
      (pss_cons (ps_fld (pv 0) (pv 4) rfl)
      (pss_one (ps_fld (pv 0) (pe_callTy (ka_list K) (by rfl) T.nb_list (by decide +kernel) (pa_cons (pv 2) pa_nil)) rfl))))))))), ?_⟩
  have sx : Same G (upd G x (.ins A.Table dx [])) := Same.newG nx
  have hx : upd G x (.ins A.Table dx []) x = some (.ins A.Table dx []) := upd_same
  walk_at "go"
  refine ⟨rfl, rfl, ((hn.same sx).same w.sub).is fun H1 e1 => ?_⟩
  replace w := w.same e1
  walk_at "go"
  refine iteBN (fun e => ?_) (fun e => ?_)
  · subst e
    walk_at "go"
    exact XQ.raise k w sx
  subst e
  walk_at "go"
  refine g_new w fun d H2 nd w => ?_
  walk_at "go"
  refine ⟨p, rfl, ⟨_, Evl.ex_t w.sub (Evl.ex_t (Same.trans sx (Same.newG nd)) hp)⟩, ?_⟩
  have ncs : (cs.map Col.name).length = as.length := by rw [List.length_map]; exact Sw.Paired.len hc
  generalize upd G x (.ins A.Table dx []) = G1 at *
  refine for_it (itf_tup (xs := as.map V.ref)) (fun i σ' H' => ∃ y5, σ' = [some (.ref x), some v, some (.ref q), some (.ref p), some (.ref d), y5, none, none] ∧ firstDup [] (cs.map Col.name) = firstDup ((cs.map Col.name).take i) ((cs.map Col.name).drop i) ∧ Wd (upd G1 d (.dK (colKvs (cs.take i) (as.take i)))) R H') ⟨_, rfl, rfl, w⟩ (fun i σ' H' _ h => ?_) ?_ ?_
  · obtain ⟨_, _, _, w⟩ := h
    exact Evl.ex_t w.sub (Evl.ex_t (Same.trans sx (Same.newG nd)) hp)
  · rintro i y σ' H3 H4 hi ⟨y5, rfl, hd1, w⟩ ⟨rfl, hy⟩
    rw [List.getElem?_map] at hy
    obtain ⟨a, ha, rfl⟩ := Option.map_eq_some_iff.mp hy
    obtain ⟨c, hci, hca⟩ := Sw.Paired.atR hc ha
    have S1 : Same G (upd G1 d (.dK (colKvs (cs.take i) (as.take i)))) := Same.trans sx (Same.newG nd)
    obtain ⟨cx, hcx⟩ := hca.same S1
    have hnm : (cs.map Col.name)[i]? = some c.name := by rw [List.getElem?_map, hci]; rfl
    have hdr : (cs.map Col.name).drop i = c.name :: (cs.map Col.name).drop (i + 1) := by
      have := List.drop_eq_getElem_cons (List.getElem?_eq_some_iff.mp hnm).1
      rw [(List.getElem?_eq_some_iff.mp hnm).2] at this
      exact this
    walk_at "go"
    refine g_gf w hcx (CF.cls _) (CF.na _) c.l_name ?_
    walk_at "go"
    refine g_inDk w upd_same ?_
    rw [valV_names (hc.take i)]
    walk_at "go"
    refine iteD (fun h1 => ?_) (fun h1 => ?_)
    · walk_at "go"
      refine g_gf w hcx (CF.cls _) (CF.na _) c.l_name ?_
      walk_at "go"
      have e : firstDup [] (cs.map Col.name) = some c.name := by rw [hd1]; exact firstDup_in (by rw [List.map_take] at h1; exact h1) hdr
      have ek : tabRes true cs os = .col (some c.name) := by
        unfold tabRes
        rw [if_neg (by decide), e]
      rw [ek] at k
      exact XQ.raise k w S1
    · walk_at "go"
      refine g_gf w hcx (CF.cls _) (CF.na _) c.l_name ?_
      have nv : valV (colKvs (cs.take i) (as.take i)) (.inr c.name) = none := by
        have := valV_names (hc.take i) c.name
        rw [decide_eq_false h1] at this
        cases hv : valV (colKvs (cs.take i) (as.take i)) (.inr c.name) with
        | none => rfl
        | some z => rw [hv] at this; cases this
      refine g_dputE w upd_same (by have := colKvs_len (cs := cs.take i) (as := as.take i); rw [List.length_take] at this; rw [sizeLine_eq]; have := Sw.Paired.len hc; omega) fun H5 w => ?_
      rw [upd_upd, putK_new nv, ← colKvs_take hc hci ha] at w
      refine ⟨_, rfl, ?_, w⟩
      rw [hd1, firstDup_out (by rw [List.map_take] at h1; exact h1) hdr, List.take_add_one, hnm]
      rfl
  · rintro σ' H3 ⟨y5, rfl, hd1, w⟩
    have e0 : firstDup [] (cs.map Col.name) = none := by
      rw [hd1, List.length_map, ← ncs, List.drop_length]
      rfl
    rw [List.length_map] at w
    rw [List.take_of_length_le (by rw [← ncs, List.length_map]; omega), List.take_of_length_le (Nat.le_refl _)] at w
    walk_at "go"
    refine g_new w fun d2 H4 n2 w2 => ?_
    refine g_eqDE w2 (upd_old upd_same n2) upd_same ?_
    replace w := w2.drop (Same.newG n2)
    clear w2
    have ee : (colKvs cs as).isEmpty = decide (cs = []) := by
      cases hc with
      | nil => rfl
      | cons _ _ => rfl
    rw [ee]
    walk_at "go"
    refine iteD (fun h1 => ?_) (fun h1 => ?_)
    · walk_at "go"
      have ek : tabRes true cs os = .col none := by
        unfold tabRes
        rw [if_neg (by decide), e0]
        exact if_pos h1
      rw [ek] at k
      exact XQ.raise (v := .non) k w (Same.trans sx (Same.newG nd))
    · walk_at "go"
      have S1 : Same G (upd G1 d (.dK (colKvs cs as))) := Same.trans sx (Same.newG nd)
      refine ⟨q, us, tb, rfl, (hq.ex S1).ex w.sub, ?_⟩
      refine for_it (itf_enumB tb (xs := us)) (fun i σ' H' => ∃ y6 y7, σ' = [some (.ref x), some v, some (.ref q), some (.ref p), some (.ref d), y5, y6, y7] ∧ (∀ o ∈ os.take i, grpB cs o = true) ∧ Wd (upd G1 d (.dK (colKvs cs as))) R H') ⟨_, _, rfl, fun o z => (nomatch z), w⟩ (fun i σ' H' _ h => ?_) ?_ ?_
      · obtain ⟨_, _, _, _, w⟩ := h
        exact (hq.ex S1).ex w.sub
      · rintro i y σ' H5 H6 hi ⟨y6, y7, rfl, hg, w⟩ ⟨T', u, rfl, nT, rfl, hu1⟩
        obtain ⟨o, ho, hgv⟩ := Sw.Paired.at hu hu1
        have wT := w.new (o := .tup [.int (i : Nat), u]) nT
        have nT' := w.free nT
        have sT : Same G (upd (upd G1 d (.dK (colKvs cs as))) T' (.tup [.int (i : Nat), u])) := Same.trans S1 (Same.newG nT')
        walk_at "go"
        refine ⟨T', _, rfl, SqT.of (wT.get upd_same), rfl, ?_⟩
        walk_at "go"
        refine ⟨rfl, rfl, _, R, d, cs, as, u, o, rfl, wT, upd_old upd_same nT', hc.same sT, hgv.same sT, fun H7 w7 => ?_⟩
        walk_at "go"
        refine iteBN (fun h2 => ?_) (fun h2 => ?_)
        · walk_at "go"
          have ek : tabRes true cs os = .grp i := by
            unfold tabRes
            rw [if_neg (by decide), e0]
            simp only [if_neg h1]
            have : os.findIdx? (fun o => !grpB cs o) = some i := by
              rw [List.findIdx?_eq_some_iff_getElem]
              have hi' := (List.getElem?_eq_some_iff.mp ho)
              refine ⟨hi'.1, by rw [hi'.2, h2]; rfl, fun j hj => ?_⟩
              have hj' : j < os.length := by have := hi'.1; omega
              have := hg os[j] (List.mem_take_iff_getElem.mpr ⟨j, by omega, rfl⟩)
              rw [this]
              simp
            rw [this]
          rw [ek] at k
          exact XQ.raise k w7 sT
        · walk_at "go"
          refine ⟨_, _, rfl, fun o' ho' => ?_, w7.drop (Same.newG nT')⟩
          rw [List.take_add_one, ho] at ho'
          rcases List.mem_append.mp ho' with z | z
          · exact hg o' z
          · have : o' = o := by simpa using z
            rw [this]; exact h2
      · rintro σ' H5 ⟨y6, y7, rfl, hg, w⟩
        have ek : tabRes true cs os = .ok := by
          unfold tabRes
          rw [if_neg (by decide), e0]
          simp only [if_neg h1]
          have : os.findIdx? (fun o => !grpB cs o) = none := by
            rw [List.findIdx?_eq_none_iff]
            intro o ho
            rw [hg o (by rw [List.take_of_length_le (by rw [Sw.Paired.len hu]; omega)]; exact ho)]
            rfl
          rw [this]
        rw [ek] at k
        have nxd : x ≠ d := ne_of_none hx nd
        walk_at "go"
        refine g_sf w (upd_old hx nd) TF.cT TF.nn (show 0 < 1000 by decide) fun H6 w => ?_
        rw [putF_nil] at w
        walk_at "go"
        refine g_sf w upd_same TF.cT TF.nb (show 1 < 1000 by decide) fun H7 w => ?_
        rw [upd_upd, putF_ne (by decide +kernel), putF_nil] at w
        walk_at "go"
        have S2 : ∀ o, Same G (upd (upd G1 d (.dK (colKvs cs as))) x o) := fun o => Same.setL S1 nx
        refine g_listB w (hq.ex (S2 _)) fun gl H8 ngl w => ?_
        walk_at "go"
        refine g_sf w (upd_old upd_same ngl) TF.cT TF.ng (show 2 < 1000 by decide) fun H9 w => ?_
        rw [putF_ne (by decide +kernel), putF_ne (by decide +kernel), putF_nil] at w
        have nxg : x ≠ gl := ne_of_none upd_same ngl
        have ndg : d ≠ gl := ne_of_none (upd_oth upd_same nxd.symm) ngl
        refine k d gl _ H9 (Same.free sx nd) (Same.free (S2 _) ngl) ?_ upd_same ?_ ?_ w
        · exact Same.setL (Same.trans (S2 _) (Same.newG ngl)) nx
        · rw [upd_ne nxd.symm, upd_ne ndg, upd_ne nxd.symm]; exact upd_same
        · rw [upd_ne nxg.symm]; exact upd_same
end
end Sv


set_option Elab.async false
set_option linter.all false
set_option maxRecDepth 100000
set_option maxHeartbeats 4000000
namespace Sw
open PySem PySem.Spec PyProof.Rows L2
/-! ### x == y by an own __eq__ that gives a truth value -/
def rEqO (P : Program) (w : World) (K : PySem.W.Frag) (mg : Str → Option Value) (base : Heap) (k : Nat) : R2 := fun x y H Q => ∃ a C dx fs sp tb, x = .ref a ∧ H a = some (.ins C dx fs) ∧ GMt P w K mg base k C "__eq__" 1 [] sp ∧ TyX K H y tb ∧ PySem.W.notFirst K C tb = true ∧
  sp [.ref a, y] [] H (fun v H' => ∃ b, v = .bl b ∧ Q (.bl b) H') E0
theorem oo_eq {X : Cx} {k : Nat} (hr : Room k X.A) : OpR X (compareOp .Eq) (rEqO X.prog X.w X.K X.mg X.base k) := by
  intro pins s σ H x y v u Q I rx ry h
  obtain ⟨a, C, dx, fs, sp, tb, rfl, ha, G, ty, hn, hs⟩ := h
  obtain rfl : v = Value.ref a := rx
  obtain ⟨f, M, F⟩ := G.ex
  obtain ⟨mA, J, _⟩ := ins_get I.hok ha
  obtain ⟨od, J, _⟩ := J.look
  obtain ⟨Pk, kx, hp, _⟩ := kit_of I ry ty
  obtain ⟨m, hF⟩ := I.fr
  show wpAny (model X.prog X.w) X.A (richCompare .Eq (.ref a) u) (EP X pins σ Q) X.xe s
  refine PySem.W.cmp_K (op := .Eq) hr.units0 hF I.ok.mod.kin J (kx.ty _ _ I.kIn hp) hn M.at_ M.fn ?_
  refine wpAny_call (codeAny_mono (F X.A X.stack s H [.ref a, u] [] [.ref a, y] [] _ E0 hr I.env0 (.cons rfl (.cons ry .nil)) .nil rfl rfl hs) ?_)
  intro r s' hq
  match r, hq with
  | .error er, hq => exact False.elim (passL (X := X.nox) pins σ H s er s' (I.wish _) hq)
  | .ok (.ret z), hq =>
    obtain ⟨v, H', I3, rv, b, eb, q3⟩ := I.after hq
    subst eb
    obtain rfl : z = Value.bool b := rv
    exact ⟨.bl b, H', I3, rfl, q3⟩
  | .ok .next, hq => exact False.elim hq
  | .ok .brk, hq => exact False.elim hq
  | .ok .cont, hq => exact False.elim hq
theorem ko_eq {X : Cx} {k : Nat} (P : Program) (w : World) (K : PySem.W.Frag) (mg : Str → Option Value) (base : Heap) (hr : Room k X.A) (h1 : X.prog = P := by rfl) (h2 : X.w = w := by rfl) (h3 : X.K = K := by rfl) (h4 : X.mg = mg := by rfl) (h5 : X.base = base := by rfl) : OpR X (compareOp .Eq) (rEqO P w K mg base k) := by
  subst h1 h2 h3 h4 h5
  exact oo_eq hr
end Sw

set_option Elab.async false
set_option linter.all false
set_option maxRecDepth 100000
set_option maxHeartbeats 4000000
namespace Sv
open PySem PySem.Spec PyProof.Rows L2 Sw
local macro_rules | `(tactic| walk_at "go1") => `(tactic| first
  | ((with_reducible refine' g_var ?hv ?_); (case hv => rfl))
  | with_reducible refine g_c ?_
  | with_reducible refine g_op ?_
  | with_reducible refine g_un ?_
  | with_reducible refine g_seq ?_
  | with_reducible refine g_next ?_
  | with_reducible refine g_asg ?_
  | with_reducible refine g_name ?_
  | with_reducible refine g_drop ?_
  | with_reducible refine g_sub ?_
  | with_reducible refine g_ret ?_
  | with_reducible refine g_retN ?_
  | with_reducible refine g_ifS ?_
  | with_reducible refine g_if ?_
  | with_reducible refine g_test ?_
  | with_reducible refine g_bl ?_
  | with_reducible refine g_cons ?_
  | with_reducible refine g_nil ?_
  | with_reducible refine g_and ?_
  | with_reducible refine g_or ?_
  | with_reducible refine g_not ?_
  | with_reducible refine g_callB ?_
  | with_reducible refine g_addI ?_
  | with_reducible refine g_I0 ?_
  | with_reducible refine g_calG ?_
  | with_reducible refine g_mkG ?_
  | with_reducible refine g_tup ?_
  | with_reducible refine g_pairs1 ?_
  | with_reducible refine g_pairs0 ?_
  | with_reducible refine g_dget ?_
  | with_reducible refine g_lvals ?_
  | with_reducible refine g_forT ?_
  | with_reducible refine g_lcT ?_
  | with_reducible refine g_dput ?_
  | with_reducible refine g_lc2L ?_
  | with_reducible refine g_iList ?_
  | with_reducible refine g_lcX ?_
  | with_reducible refine g_js1 ?_
  | with_reducible refine g_js0 ?_
  | with_reducible refine g_fmt ?_
  | with_reducible refine g_tLenSet ?_
  | with_reducible refine g_mkV ?_
  | with_reducible refine g_mkV1 ?_
  | with_reducible refine g_lst ?_
  | with_reducible refine g_forL ?_
  | with_reducible refine g_forR ?_
  | with_reducible refine g_forR2 ?_
  | with_reducible refine g_forS ?_
  | with_reducible refine g_forE ?_
  | with_reducible refine g_forEB ?_
  | with_reducible refine g_lcL ?_
  | with_reducible refine g_lcR ?_
  | with_reducible refine g_lcS ?_
  | with_reducible refine g_lcE ?_
  | with_reducible refine g_lcEB ?_
  | with_reducible refine g_orT ?_
  | with_reducible refine g_slc ?_
  | with_reducible refine g_noPart ?_
  | with_reducible refine g_part ?_
  | with_reducible refine g_bm ?_
  | with_reducible refine g_par ?_
  | with_reducible refine g_yes ?_
  | with_reducible refine g_tupG ?_
  | with_reducible refine g_lstG ?_
  | with_reducible refine g_gcons ?_
  | with_reducible refine g_gnil ?_
  | with_reducible refine g_chain ?_
  | with_reducible refine g_truB ?_
  | with_reducible refine g_truN ?_
  | with_reducible refine g_truI ?_
  | with_reducible refine g_m1 ?_
  | with_reducible refine g_fld ?_
  | with_reducible refine g_con ?_
  | with_reducible refine g_tru ?_
  | with_reducible refine g_U ?_
  | with_reducible refine g_xg ?_
  | with_reducible refine g_andT ?_
  | with_reducible refine g_exI ?_
  | with_reducible refine g_dnew ?_
  | with_reducible refine g_intB ?_
  | with_reducible refine g_meth ?_
  | with_reducible refine g_prop ?_
  | with_reducible refine g_exc1 ?_
  | with_reducible refine g_setF ?_
  | with_reducible refine g_star ?_
  | with_reducible refine g_strM ?_
  | with_reducible refine iteT ?_
  | with_reducible refine iteF ?_
  | with_reducible refine iteNT ?_
  | with_reducible refine iteNF ?_)
local macro_rules | `(tactic| walk_at "go") => `(tactic| repeat (walk_at "go1"))
local macro_rules | `(tactic| walk_at "sz") => `(tactic| (first | (rw [sizeLine_eq]; simp only [List.length_cons, List.length_nil, List.length_map, List.length_append, List.length_take]; omega) | (rw [sizeLine_eq]; omega)))
/-! ### tables -/
def tabFs (nm : V) (d gl : Addr) : List (Str × V) := [("name", nm), ("by_name", .ref d), ("own_groups", .ref gl)]
theorem tf_nm {nm : V} {d gl : Addr} : (tabFs nm d gl).lookup ("name" : Str) = some nm := lk_eq
theorem tf_by {nm : V} {d gl : Addr} : (tabFs nm d gl).lookup ("by_name" : Str) = some (.ref d) := by unfold tabFs; rw [lk_ne (by decide +kernel), lk_eq]
theorem tf_gr {nm : V} {d gl : Addr} : (tabFs nm d gl).lookup ("own_groups" : Str) = some (.ref gl) := by unfold tabFs; rw [lk_ne (by decide +kernel), lk_ne (by decide +kernel), lk_eq]
theorem tf_col {nm : V} {d gl : Addr} : (tabFs nm d gl).lookup ("columns" : Str) = none := by unfold tabFs; rw [lk_ne (by decide +kernel), lk_ne (by decide +kernel), lk_ne (by decide +kernel)]; rfl
theorem tf_lines {nm : V} {d gl : Addr} : (tabFs nm d gl).lookup ("lines" : Str) = none := by unfold tabFs; rw [lk_ne (by decide +kernel), lk_ne (by decide +kernel), lk_ne (by decide +kernel)]; rfl
theorem tf_find {nm : V} {d gl : Addr} : (tabFs nm d gl).lookup ("find_column" : Str) = none := by unfold tabFs; rw [lk_ne (by decide +kernel), lk_ne (by decide +kernel), lk_ne (by decide +kernel)]; rfl
def GrpsAt (K : PySem.W.Frag) (G : Hp) (gs : List (List Str)) (us : List V) : Prop := Paired (fun g u => ∃ p, u = V.ref p ∧ SqT K G p (g.map V.str)) gs us
theorem GrpsAt.same {K : PySem.W.Frag} {G G' : Hp} {gs : List (List Str)} {us : List V} (h : GrpsAt K G gs us) (e : Same G G') : GrpsAt K G' gs us := Sw.Paired.imp (fun _ _ ⟨p, h1, h2⟩ => ⟨p, h1, Evl.ex_t e h2⟩) h
/-- a table: its name, columns, groups -/
def TabU (A : Ad) (G : Hp) (a : Addr) (nm : V) (cs : List Col) (us : List V) : Prop := ∃ dx d gl as, G a = some (.ins A.Table dx (tabFs nm d gl)) ∧ G d = some (.dK (colKvs cs as)) ∧ ColsAt A G cs as ∧ G gl = some (.lst us)
theorem TabU.same {A : Ad} {G G' : Hp} {a : Addr} {nm : V} {cs : List Col} {us : List V} (h : TabU A G a nm cs us) (e : Same G G') : TabU A G' a nm cs us := by
  obtain ⟨dx, d, gl, as, h1, h2, h3, h4⟩ := h
  exact ⟨dx, d, gl, as, e _ _ h1, e _ _ h2, h3.same e, e _ _ h4⟩
theorem mem_colOf {cs : List Col} {n : Str} (h : (colOf cs n).isSome = true) : ∃ c ∈ cs, c.name = n := by
  obtain ⟨c, hc⟩ := Option.isSome_iff_exists.mp h
  refine ⟨c, List.mem_of_find?_eq_some hc, ?_⟩
  have := List.find?_some hc
  simpa using this
theorem isGrp_names {cs : List Col} {g : List Str} (ok : ∀ c ∈ cs, c.ok) (h : isGrp cs g = true) : g.length ≤ 3 ∧ ∀ n ∈ g, isNm n = true := by
  unfold isGrp at h
  simp only [Bool.and_eq_true, decide_eq_true_eq] at h
  refine ⟨h.1.1.1.2, fun n hn => ?_⟩
  obtain ⟨c, hc, e⟩ := mem_colOf (List.all_eq_true.mp h.1.1.2 n hn)
  rw [← e]
  exact (ok c hc).1
theorem Col.l_none (c : Col) {f : Str} (h : f ∉ (["name", "optional", "target", "rule"] : List Str)) : c.fs.lookup f = none := by
  simp only [List.mem_cons, List.not_mem_nil, or_false, not_or] at h
  obtain ⟨h1, h2, h3, h4⟩ := h
  have e : ∀ g : Str, ¬ f = g → (f == g) = false := fun g h => by simpa using h
  unfold Col.fs Col.fs0
  split
  · rw [List.cons_append, List.cons_append, List.nil_append, lk_ne (e _ h1), lk_ne (e _ h2), lk_ne (e _ h3), lk_ne (e _ h4)]
    rfl
  · rw [lk_ne (e _ h1), lk_ne (e _ h2)]
    rfl
/-- what the text says of the three classes as classes -/
structure ColI (K : PySem.W.Frag) (A : Ad) : Prop where
  ha : ∀ k, PySem.W.findIn K (.ref (kcls A k)) "__class__" = some (some (.builtin "object.__class__"))
  hn : PySem.W.specialIn K (.builtin "object.__class__") "__get__" = some (some (.builtin "getset_descriptor.__get__"))
  ht : PySem.W.takesIn K (.builtin "object.__class__") = some true
  hm : ∀ k, PySem.W.mroIn K (kcls A k) (.type "object") = some true
  kc : ∀ k, PySem.W.kitOne K (.ref (kcls A k)) (.ref A.Column) = some true
  nf : ∀ k j, PySem.W.notFirst K (kcls A k) (.ref (kcls A j)) = true
theorem ColI.ty {K : PySem.W.Frag} {A : Ad} {k : Kd} {a dx : Addr} {fs : List (Str × V)} {H : Hp} (I : ColI K A) (CF : ColF K A) (h : H a = some (.ins (kcls A k) dx fs)) : TyX K H (.ref a) (.ref (kcls A k)) := .base (.ins h (CF.cls k) (I.ha k) I.hn I.ht (I.hm k))
section
variable {P : Program} {wo : World} {A : Ad} {K : PySem.W.Frag} {mg : Str → Option Value} {base : Heap}
theorem prop_text {G H : Hp} {R : Res} {a : Addr} {c : Col} {Q : VK} (GT : ∀ k, GPr P wo K mg base 3 (kcls A k) "text" (fun vs _ => spText A vs)) (w : Wd G R H) (h : ColAt A G a c) (ok : c.ok) (k : ∀ H', Wd G R H' → Q (.str c.text) H') :
    ∃ a' C dx fs sp, V.ref a = .ref a' ∧ H a' = some (.ins C dx fs) ∧ GPr P wo K mg base 3 C "text" sp ∧ sp [.ref a'] [] H Q E0 := by
  obtain ⟨dx, hx⟩ := h
  exact ⟨a, _, dx, _, _, rfl, w.get hx, GT c.k, G, R, a, c, rfl, w, ⟨dx, hx⟩, ok, k⟩
theorem colKvs_vals {A : Ad} {G : Hp} {cs : List Col} {as : List Addr} (h : ColsAt A G cs as) : (colKvs cs as).map (·.2) = as.map V.ref := by
  induction h with
  | nil => rfl
  | cons _ _ ih =>
    unfold colKvs at ih ⊢
    rw [List.zip_cons_cons, List.map_cons, List.map_cons, List.map_cons, ih]
/-! ### Table.columns, Table.groups -/
def spCols (A : Ad) : Sp := fun vs H Q _ => ∃ G R x nm cs us, vs = [.ref x] ∧ Wd G R H ∧ TabU A G x nm cs us ∧ ∀ p as G' H', Same G G' → G p = none → G' p = some (.lst (as.map V.ref)) → ColsAt A G cs as → Wd G' R H' → Q (.ref p) H'
theorem sc_Table_columns : FnScope (["self"] : List Str) (["self"] : List Str) (defScope s_Table_columns) := ⟨rfl, rfl, rfl, by decide +kernel, rfl, by decide +kernel, by decide +kernel⟩
theorem ok_cols {f : Addr} {fd : FuncData} (F : Fun K "columns" "Table.columns" s_Table_columns f fd) (T : Txt K mg A) (TF : TabF K A) : FnOk P wo K mg base (L2.CX P wo) 1 f fd (["self"] : List Str) (spCols A) := by
  refine okT F sc_Table_columns (fun vs H Q E h => ?_) (fun cdv Ar outer s H vs Q E hr tk po h => ?_)
  · obtain ⟨_, _, _, _, _, _, rfl, _⟩ := h
    rfl
  obtain ⟨G, R, x, nm, cs, us, rfl, w, ⟨dx, d, gl, as, h1, h2, h3, h4⟩, k⟩ := h
  refine ⟨_, (pss_one (ps_ret (pe_listVals rfl (by rfl) T.nb_list (by decide +kernel) (ke_fld K (pv 0) rfl)))), ?_⟩
  walk_at "go"
  refine g_gf w h1 TF.cT TF.nb tf_by ?_
  refine ⟨d, _, rfl, w.get h2, ?_⟩
  rw [colKvs_vals h3]
  refine g_newO w fun p G1 H1 n1 s1 q1 w1 => ?_
  exact k p as G1 H1 s1 n1 q1 h3 w1
def spGroups (A : Ad) : Sp := fun vs H Q _ => ∃ G R x nm cs us, vs = [.ref x] ∧ Wd G R H ∧ TabU A G x nm cs us ∧ ∀ p G' H', Same G G' → G p = none → G' p = some (.lst us) → Wd G' R H' → Q (.ref p) H'
theorem sc_Table_groups : FnScope (["self"] : List Str) (["self"] : List Str) (defScope s_Table_groups) := ⟨rfl, rfl, rfl, by decide +kernel, rfl, by decide +kernel, by decide +kernel⟩
theorem ok_groups {f : Addr} {fd : FuncData} (F : Fun K "groups" "Table.groups" s_Table_groups f fd) (T : Txt K mg A) (TF : TabF K A) : FnOk P wo K mg base (L2.CX P wo) 1 f fd (["self"] : List Str) (spGroups A) := by
  refine okT F sc_Table_groups (fun vs H Q E h => ?_) (fun cdv Ar outer s H vs Q E hr tk po h => ?_)
  · obtain ⟨_, _, _, _, _, _, rfl, _⟩ := h
    rfl
  obtain ⟨G, R, x, nm, cs, us, rfl, w, ⟨dx, d, gl, as, h1, h2, h3, h4⟩, k⟩ := h
  refine ⟨_, (pss_one (ps_ret (pe_callTy (ka_list K) (by rfl) T.nb_list (by decide +kernel) (pa_cons (ke_fld K (pv 0) rfl) pa_nil)))), ?_⟩
  walk_at "go"
  refine g_gf w h1 TF.cT TF.ng tf_gr ?_
  refine g_listL w (SqL.of h4) fun p H1 n1 w1 => ?_
  exact k p _ H1 (Same.newG n1) n1 upd_same w1
theorem prop_cols {G H : Hp} {R : Res} {a : Addr} {nm : V} {cs : List Col} {us : List V} {Q : VK} (GC : GPr P wo K mg base 1 A.Table "columns" (fun vs _ => spCols A vs)) (w : Wd G R H) (h : TabU A G a nm cs us) (k : ∀ p as G' H', Same G G' → G p = none → G' p = some (.lst (as.map V.ref)) → ColsAt A G cs as → Wd G' R H' → Q (.ref p) H') :
    ∃ a' C dx fs sp, V.ref a = .ref a' ∧ H a' = some (.ins C dx fs) ∧ GPr P wo K mg base 1 C "columns" sp ∧ sp [.ref a'] [] H Q E0 := by
  obtain ⟨dx, d, gl, as, h1, h2⟩ := id h
  exact ⟨a, _, dx, _, _, rfl, w.get h1, GC, G, R, a, nm, cs, us, rfl, w, h, k⟩
theorem prop_groups {G H : Hp} {R : Res} {a : Addr} {nm : V} {cs : List Col} {us : List V} {Q : VK} (GG : GPr P wo K mg base 1 A.Table "groups" (fun vs _ => spGroups A vs)) (w : Wd G R H) (h : TabU A G a nm cs us) (k : ∀ p G' H', Same G G' → G p = none → G' p = some (.lst us) → Wd G' R H' → Q (.ref p) H') :
    ∃ a' C dx fs sp, V.ref a = .ref a' ∧ H a' = some (.ins C dx fs) ∧ GPr P wo K mg base 1 C "groups" sp ∧ sp [.ref a'] [] H Q E0 := by
  obtain ⟨dx, d, gl, as, h1, h2⟩ := id h
  exact ⟨a, _, dx, _, _, rfl, w.get h1, GG, G, R, a, nm, cs, us, rfl, w, h, k⟩
/-! ### Table.find_column -/
def spFindC (K : PySem.W.Frag) (A : Ad) : Sp := fun vs H Q E => ∃ G R x dx d gl nm cs as v, vs = [.ref x, v] ∧ Wd G R H ∧ G x = some (.ins A.Table dx (tabFs nm d gl)) ∧ G d = some (.dK (colKvs cs as)) ∧ ColsAt A G cs as ∧
  ((∃ n a, v = .str n ∧ valV (colKvs cs as) (.inr n) = some (.ref a) ∧ ∀ H', Wd G R H' → Q (.ref a) H') ∨ ((NotStr K G v ∨ ∃ n, v = .str n ∧ n ∉ cs.map Col.name) ∧ XQ G R A.UnknownColumn "name" v E))
theorem sc_Table_find_column : FnScope (["self", "name"] : List Str) (["self", "name"] : List Str) (defScope s_Table_find_column) := ⟨rfl, rfl, rfl, by decide +kernel, rfl, by decide +kernel, by decide +kernel⟩
theorem ok_findc {f : Addr} {fd : FuncData} (F : Fun K "find_column" "Table.find_column" s_Table_find_column f fd) (T : Txt K mg A) (TF : TabF K A) (XU : Exc1 P wo K mg base "UnknownColumn" A.UnknownColumn "name") : FnOk P wo K mg base (L2.CX P wo) 3 f fd (["self", "name"] : List Str) (spFindC K A) := by
  refine okT F sc_Table_find_column (fun vs H Q E h => ?_) (fun cdv Ar outer s H vs Q E hr tk po h => ?_)
  · obtain ⟨_, _, _, _, _, _, _, _, _, _, rfl, _⟩ := h
    rfl
  obtain ⟨G, R, x, dx, d, gl, nm, cs, as, v, rfl, w, hx, hd, hl, h⟩ := h
  refine ⟨_, (pss_cons (ps_if (PW.pt (pw_or (pt_not (kt_truth K (pe_callB (ka_isi K) (by rfl) T.nb_isinstance (by decide +kernel) (pa_cons (pv 1) (pa_cons (pe_bltn (v := .ty "str") (u := .type "str") (by rfl) T.nb_str (by decide +kernel) rfl) pa_nil))) (by intro _; rfl))) (pw_or1 (pt_cmpR (op_niDk (L2.hu_of hr)) (pv 1) (ke_fld K (pv 0) rfl) (by first | exact nomark _ | rfl))))) (pss_one (ps_raise rfl tk (pmk_exc1 XU (hr.mono (by decide)) (pa_cons (pv 1) pa_nil)))) pss_nil)
      (pss_one (ps_ret (pe_dget (L2.hu_of hr) (ke_fld K (pv 0) rfl) (pv 1) (fun _ _ => rfl))))), ?_⟩
  walk_at "go"
  rcases h with ⟨n, a, rfl, hv, k⟩ | ⟨⟨t, ht, hk⟩ | ⟨n, rfl, hn⟩, k⟩
  · refine g_isi (.ty _) (.base (.str n)) kit_str ?_
    walk_at "go"
    refine g_gf w hx TF.cT TF.nb tf_by ?_
    refine g_niDk w hd ?_
    rw [hv, show (some (V.ref a)).isSome = true from rfl]
    walk_at "go"
    refine g_gf w hx TF.cT TF.nb tf_by ?_
    walk_at "go"
    exact g_dgetE w hd hv (k _ w)
  · refine g_isi (.ty _) (tyX_same w.sub ht) hk ?_
    walk_at "go"
    exact XQ.raise k w (Same.refl G)
  · have hin := valV_names hl n
    rw [decide_eq_false hn] at hin
    refine g_isi (.ty _) (.base (.str n)) kit_str ?_
    walk_at "go"
    refine g_gf w hx TF.cT TF.nb tf_by ?_
    refine g_niDk w hd ?_
    rw [hin]
    walk_at "go"
    exact XQ.raise k w (Same.refl G)
/-! ### Column.__eq__ -/
def spCEq (K : PySem.W.Frag) (A : Ad) : Sp := fun vs H Q _ => ∃ G R x y c, vs = [.ref x, y] ∧ Wd G R H ∧ ColAt A G x c ∧ c.ok ∧
  ((∃ y' d, y = .ref y' ∧ ColAt A G y' d ∧ d.ok ∧ ∀ H', Wd G R H' → Q (.bl (decide (c.text = d.text))) H') ∨ (∃ t, TyX K G y t ∧ PySem.W.kitOne K t (.ref A.Column) = some false ∧ ∀ H', Wd G R H' → Q (.bl false) H'))
theorem sc_Column___eq__ : FnScope (["self", "other"] : List Str) (["self", "other"] : List Str) (defScope s_Column___eq__) := ⟨rfl, rfl, rfl, by decide +kernel, rfl, by decide +kernel, by decide +kernel⟩
theorem ok_ceq {f : Addr} {fd : FuncData} (F : Fun K "__eq__" "Column.__eq__" s_Column___eq__ f fd) (T : Txt K mg A) (CF : ColF K A) (CG : ColI K A) (GT : ∀ k, GPr P wo K mg base 3 (kcls A k) "text" (fun vs _ => spText A vs)) : FnOk P wo K mg base (L2.CX P wo) 5 f fd (["self", "other"] : List Str) (spCEq K A) := by
  refine okT F sc_Column___eq__ (fun vs H Q E h => ?_) (fun cdv Ar outer s H vs Q E hr tk po h => ?_)
  · obtain ⟨_, _, _, _, _, rfl, _⟩ := h
    rfl
  obtain ⟨G, R, x, y, c, rfl, w, hx, ok, h⟩ := h
  refine ⟨_, (pss_one (ps_ret (ke_andT K (pe_callB (ka_isi K) (by rfl) T.nb_isinstance (by decide +kernel) (pa_cons (pv 1) (pa_cons (pe_globE (by rfl) T.g_Column) pa_nil))) (pe_one (pe_cmpR (ka_eq K hr.units) (kp_prop (k := 3) P wo K mg base (pv 0) (hr.mono (by decide))) (kp_prop (k := 3) P wo K mg base (pv 1) (hr.mono (by decide))) (nomark _)))))), ?_⟩
  have txt : ∀ {a : Addr} {c : Col} {Q : VK} {H : Hp}, Wd G R H → ColAt A G a c → c.ok → (∀ H', Wd G R H' → Q (.str c.text) H') → ∃ a' C dx fs sp, V.ref a = .ref a' ∧ H a' = some (.ins C dx fs) ∧ GPr P wo K mg base 3 C "text" sp ∧ sp [.ref a'] [] H Q E0 := fun {a c Q H} w h ok k => by
    obtain ⟨dx, hx⟩ := h
    exact ⟨a, _, dx, _, _, rfl, w.get hx, GT c.k, G, R, a, c, rfl, w, ⟨dx, hx⟩, ok, k⟩
  walk_at "go"
  rcases h with ⟨y', d, rfl, hy, ok2, k⟩ | ⟨t, ht, hk, k⟩
  · obtain ⟨dy, hy1⟩ := id hy
    refine g_isi (.own _) (tyX_same w.sub (CG.ty CF hy1)) (CG.kc _) ?_
    walk_at "go"
    refine txt w hx ok fun H1 w => ?_
    walk_at "go"
    refine txt w hy ok2 fun H2 w => ?_
    refine g_eqS rfl ?_
    have e : decide (V.str c.text = V.str d.text) = decide (c.text = d.text) := decide_eq_decide.mpr ⟨fun z => V.str.inj z, fun z => congrArg V.str z⟩
    rw [e]
    exact k _ w
  · refine g_isi (.own _) (tyX_same w.sub ht) hk ?_
    walk_at "go"
    exact k _ w
end
end Sv


set_option Elab.async false
set_option linter.all false
set_option maxRecDepth 100000
set_option maxHeartbeats 4000000
namespace Sv
open PySem PySem.Spec PyProof.Rows L2 Sw
local macro_rules | `(tactic| walk_at "go1") => `(tactic| first
  | ((with_reducible refine' g_var ?hv ?_); (case hv => rfl))
  | with_reducible refine g_c ?_
  | with_reducible refine g_op ?_
  | with_reducible refine g_un ?_
  | with_reducible refine g_seq ?_
  | with_reducible refine g_next ?_
  | with_reducible refine g_asg ?_
  | with_reducible refine g_name ?_
  | with_reducible refine g_drop ?_
  | with_reducible refine g_sub ?_
  | with_reducible refine g_ret ?_
  | with_reducible refine g_retN ?_
  | with_reducible refine g_ifS ?_
  | with_reducible refine g_if ?_
  | with_reducible refine g_test ?_
  | with_reducible refine g_bl ?_
  | with_reducible refine g_cons ?_
  | with_reducible refine g_nil ?_
  | with_reducible refine g_and ?_
  | with_reducible refine g_or ?_
  | with_reducible refine g_not ?_
  | with_reducible refine g_callB ?_
  | with_reducible refine g_addI ?_
  | with_reducible refine g_I0 ?_
  | with_reducible refine g_calG ?_
  | with_reducible refine g_mkG ?_
  | with_reducible refine g_tup ?_
  | with_reducible refine g_pairs1 ?_
  | with_reducible refine g_pairs0 ?_
  | with_reducible refine g_dget ?_
  | with_reducible refine g_lvals ?_
  | with_reducible refine g_forT ?_
  | with_reducible refine g_lcT ?_
  | with_reducible refine g_dput ?_
  | with_reducible refine g_lc2L ?_
  | with_reducible refine g_iList ?_
  | with_reducible refine g_lcX ?_
  | with_reducible refine g_js1 ?_
  | with_reducible refine g_js0 ?_
  | with_reducible refine g_fmt ?_
  | with_reducible refine g_tLenSet ?_
  | with_reducible refine g_mkV ?_
  | with_reducible refine g_mkV1 ?_
  | with_reducible refine g_lst ?_
  | with_reducible refine g_forL ?_
  | with_reducible refine g_forR ?_
  | with_reducible refine g_forR2 ?_
  | with_reducible refine g_forS ?_
  | with_reducible refine g_forE ?_
  | with_reducible refine g_forEB ?_
  | with_reducible refine g_lcL ?_
  | with_reducible refine g_lcR ?_
  | with_reducible refine g_lcS ?_
  | with_reducible refine g_lcE ?_
  | with_reducible refine g_lcEB ?_
  | with_reducible refine g_orT ?_
  | with_reducible refine g_slc ?_
  | with_reducible refine g_noPart ?_
  | with_reducible refine g_part ?_
  | with_reducible refine g_bm ?_
  | with_reducible refine g_par ?_
  | with_reducible refine g_yes ?_
  | with_reducible refine g_tupG ?_
  | with_reducible refine g_lstG ?_
  | with_reducible refine g_gcons ?_
  | with_reducible refine g_gnil ?_
  | with_reducible refine g_chain ?_
  | with_reducible refine g_truB ?_
  | with_reducible refine g_truN ?_
  | with_reducible refine g_truI ?_
  | with_reducible refine g_m1 ?_
  | with_reducible refine g_fld ?_
  | with_reducible refine g_con ?_
  | with_reducible refine g_tru ?_
  | with_reducible refine g_U ?_
  | with_reducible refine g_xg ?_
  | with_reducible refine g_andT ?_
  | with_reducible refine g_exI ?_
  | with_reducible refine g_dnew ?_
  | with_reducible refine g_intB ?_
  | with_reducible refine g_meth ?_
  | with_reducible refine g_prop ?_
  | with_reducible refine g_exc1 ?_
  | with_reducible refine g_setF ?_
  | with_reducible refine g_star ?_
  | with_reducible refine g_strM ?_
  | with_reducible refine iteT ?_
  | with_reducible refine iteF ?_
  | with_reducible refine iteNT ?_
  | with_reducible refine iteNF ?_)
local macro_rules | `(tactic| walk_at "go") => `(tactic| repeat (walk_at "go1"))
local macro_rules | `(tactic| walk_at "sz") => `(tactic| (first | (rw [sizeLine_eq]; simp only [List.length_cons, List.length_nil, List.length_map, List.length_append, List.length_take]; omega) | (rw [sizeLine_eq]; omega)))
section
variable {P : Program} {wo : World} {A : Ad} {K : PySem.W.Frag} {mg : Str → Option Value} {base : Heap}

/-! ### words -/
/-- a word of small letters, of one to eight signs -/
def wordB (s : Str) : Bool := decide (1 ≤ s.length) && decide (s.length ≤ 8) && lowS s
theorem isNm_of {s : Str} (h : wordB s = true) (hr : s ∉ resv) : isNm s = true := by
  unfold wordB at h
  simp only [Bool.and_eq_true] at h
  unfold isNm
  rw [h.1.1, h.1.2, h.2, inV_str, decide_eq_false hr]
  rfl
def chS (c : Nat) : Str := ⟨#[c]⟩
theorem lowS_app (a b : Str) : lowS (a ++ b) = (lowS a && lowS b) := by
  unfold lowS
  have : (a ++ b).cps.toList = a.cps.toList ++ b.cps.toList := by
    show (a.cps ++ b.cps).toList = _
    simp
  rw [this, List.all_append]
theorem cut7 (s : Str) : (cutS s none (some 7)).cps.toList = s.cps.toList.take 7 := by
  unfold cutS
  have h1 : HT.sIx s.length 0 none = 0 := rfl
  have h2 : HT.sIx s.length s.length (some 7) = min 7 s.length := HT.sIx_nat _ _ 7
  rw [h1, h2]
  simp only [List.drop_zero, Nat.sub_zero]
  have hl : s.length = s.cps.toList.length := by simp [Str.length]
  rw [hl]
  by_cases h : 7 ≤ s.cps.toList.length
  · rw [Nat.min_eq_left h]
  · rw [Nat.min_eq_right (by omega), List.take_length, List.take_of_length_le (by omega)]
theorem str_len (s : Str) : s.length = s.cps.toList.length := by simp [Str.length]
/-- the words tried for a name -/
def cands (w : Str) : List Str := w :: letters.cps.toList.map fun c => cutS w none (some 7) ++ chS c
theorem cands_word {w s : Str} (hw : wordB w = true) (h : s ∈ cands w) : wordB s = true := by
  rcases List.mem_cons.mp h with rfl | h
  · exact hw
  · obtain ⟨c, hc, rfl⟩ := List.mem_map.mp h
    unfold wordB at hw ⊢
    simp only [Bool.and_eq_true, decide_eq_true_eq] at hw
    obtain ⟨⟨h1, h2⟩, h3⟩ := hw
    have hl : (cutS w none (some 7) ++ chS c).length = (cutS w none (some 7)).length + 1 := Str.length_append _ _
    have hl2 : (cutS w none (some 7)).length ≤ 7 := by
      rw [str_len, cut7, List.length_take]
      omega
    rw [lowS_app, hl, decide_eq_true (by omega), decide_eq_true (by omega)]
    have e1 : lowS (cutS w none (some 7)) = true := by
      unfold lowS at h3 ⊢
      rw [cut7]
      rw [List.all_eq_true] at h3 ⊢
      exact fun x hx => h3 x (List.mem_of_mem_take hx)
    have e2 : lowS (chS c) = true := by
      show (decide (c ∈ letters.cps.toList) && true) = true
      rw [decide_eq_true hc]
      rfl
    rw [e1, e2]
    rfl
theorem nodup_map_inj {α β : Type} {f : α → β} {l : List α} (hf : ∀ a b, f a = f b → a = b) (h : l.Nodup) : (l.map f).Nodup := by
  induction l with
  | nil => simp
  | cons a r ih =>
    rw [List.map_cons, List.nodup_cons]
    rw [List.nodup_cons] at h
    refine ⟨fun z => ?_, ih h.2⟩
    obtain ⟨b, hb, e⟩ := List.mem_map.mp z
    rw [← hf _ _ e.symm] at hb
    exact h.1 hb
theorem nodup_sub_len {α : Type} [DecidableEq α] : ∀ {l m : List α}, l.Nodup → (∀ a ∈ l, a ∈ m) → l.length ≤ m.length
  | [], m, _, _ => Nat.zero_le _
  | a :: r, m, h, hs => by
    rw [List.nodup_cons] at h
    have hm : a ∈ m := hs a (List.mem_cons_self ..)
    have := nodup_sub_len (l := r) (m := m.erase a) h.2 fun b hb => (List.mem_erase_of_ne (fun e => h.1 (by rw [← e]; exact hb))).mpr (hs b (List.mem_cons_of_mem _ hb))
    rw [List.length_erase_of_mem hm] at this
    have hp : 0 < m.length := List.length_pos_of_mem hm
    rw [List.length_cons]
    omega
theorem app_chS {x : Str} {a b : Nat} (h : x ++ chS a = x ++ chS b) : a = b := by
  have : (x ++ chS a).cps.toList = (x ++ chS b).cps.toList := by rw [h]
  have e : ∀ c, (x ++ chS c).cps.toList = x.cps.toList ++ [c] := fun c => by
    show (x.cps ++ #[c]).toList = _
    simp
  rw [e, e] at this
  simpa using this
theorem cands_free (w : Str) {found : List Str} (h : found.length ≤ 25) : (cands w).filter (fun s => decide (s ∉ found)) ≠ [] := by
  intro z
  rw [List.filter_eq_nil_iff] at z
  have := nodup_sub_len (l := letters.cps.toList.map fun c => cutS w none (some 7) ++ chS c) (m := found) (nodup_map_inj (fun a b e => app_chS e) (by decide +kernel)) fun s hs => by
    have := z s (List.mem_cons_of_mem _ hs)
    simpa using this
  rw [List.length_map, show letters.cps.toList.length = 26 from by decide +kernel] at this
  omega
theorem join_chS (cs : List Nat) : Txt.join "" (cs.map chS) = ⟨cs.toArray⟩ := by
  rw [TL.join_eq]
  refine TL.ext_tl ?_
  rw [TL.tl_join]
  induction cs with
  | nil => rfl
  | cons a r ih =>
    cases r with
    | nil => rfl
    | cons b r =>
      show TL.tl (chS a) ++ (TL.tl "" ++ TL.joinL (TL.tl "") ((b :: r).map chS |>.map TL.tl)) = _
      rw [ih]
      rfl
theorem word_of {cs : List Nat} (h1 : 1 ≤ cs.length) (h2 : cs.length ≤ 8) (h : ∀ c ∈ cs, c ∈ letters.cps.toList) : wordB ⟨cs.toArray⟩ = true := by
  unfold wordB
  have : (⟨cs.toArray⟩ : Str).length = cs.length := by simp [Str.length]
  rw [this, decide_eq_true h1, decide_eq_true h2]
  show lowS _ = true
  unfold lowS
  rw [List.all_eq_true]
  exact fun c hc => decide_eq_true (h c (by simpa using hc))

theorem wipe_ok : True := trivial
def ownW : List Str := ["a", "bo", "text", "int", "ref", "unique", "optional", "restrict", "clear", "none", "tables", "name"]
theorem ownW_ok : ∀ s ∈ ownW, wordB s = true := by decide +kernel
theorem getStr {l : List Str} {i : Nat} {x : V} (h : (l.map V.str)[i]? = some x) : ∃ s, x = .str s ∧ l[i]? = some s := by
  rw [List.getElem?_map] at h
  cases e : l[i]? with
  | none => rw [e] at h; cases h
  | some u => rw [e] at h; exact ⟨u, (Option.some.inj h).symm, rfl⟩
/-! ### _law_names -/
def spNames : Sp := fun vs H Q _ => ∃ G a c n, vs = [.ref a, .int n] ∧ 0 ≤ n ∧ n ≤ 20 ∧ Wd G (RD a c) H ∧ ∀ p H' (ns : List Str), ns.length = n.toNat → (∀ s ∈ ns, isNm s = true) → ns.Nodup → G p = none → Wd (upd G p (.lst (ns.map V.str))) (RD a c) H' → Q (.ref p) H'
theorem sc__law_names : FnScope (["_law_state", "_law_count", "_law_own", "_law_letters", "_law_found", "_law_turn", "_law_word", "_law_some", "_law_letter", "_law_one", "_law_sign"] : List Str) (["_law_state", "_law_count"] : List Str) (defScope s__law_names) := ⟨rfl, rfl, rfl, by decide +kernel, rfl, by decide +kernel, by decide +kernel⟩
theorem ok_names {f : Addr} {fd : FuncData} (F : Fun K "_law_names" "_law_names" s__law_names f fd) (T : Txt K mg A) (Gd : GFn P wo K mg base 1 "_law_draw" 2 [] (fun vs _ => spDraw vs)) (Gp : GFn P wo K mg base 2 "_law_pick" 2 [] (fun vs _ => spPick K vs)) : FnOk P wo K mg base (L2.CX P wo) 3 f fd (["_law_state", "_law_count"] : List Str) spNames := by
  refine okT F sc__law_names (fun vs H Q E h => ?_) (fun cdv Ar outer s H vs Q E hr tk po h => ?_)
  · obtain ⟨_, _, _, _, rfl, _⟩ := h
    rfl
  obtain ⟨G, a, c, n, rfl, n0, n1, w, k⟩ := h
  refine ⟨_, (pss_cons (ps_set (i := 2) sc__law_names.nd rfl (by first | exact Or.inl rfl | exact Or.inr rfl) (pe_lst (pa_cons pe_str (pa_cons pe_str (pa_cons pe_str (pa_cons pe_str (pa_cons pe_str (pa_cons pe_str (pa_cons pe_str (pa_cons pe_str (pa_cons pe_str (pa_cons pe_str (pa_cons pe_str (pa_cons pe_str pa_nil))))))))))))))
      (pss_cons (ps_asg (pe_tup (pa_cons pe_str (pa_cons (pe_lst (pa_cons pe_str (pa_cons pe_str (pa_cons pe_str (pa_cons pe_str (pa_cons pe_str pa_nil)))))) pa_nil))) (kg_tup (n := 2) K rfl (pgs_cons (pg_name (i := 3) sc__law_names.nd rfl (by first | exact Or.inl rfl | exact Or.inr rfl)) (pgs_cons (pg_name (i := 4) sc__law_names.nd rfl (by first | exact Or.inl rfl | exact Or.inr rfl)) pgs_nil))))
      (pss_cons (ps_for po rfl (pi_range1 (by rfl) T.nb_range (pa_cons (pv 1) pa_nil)) (pg_name (i := 5) sc__law_names.nd rfl (by first | exact Or.inl rfl | exact Or.inr rfl)) (pss_cons (ps_set (i := 6) sc__law_names.nd rfl (by first | exact Or.inl rfl | exact Or.inr rfl) (pe_callG Gp (hr.mono (by decide)) tk (pa_cons (pv 0) (pa_cons (pv 2) pa_nil)) pk_nil))
      (pss_cons (ps_if (pt_cmpR (ka_eq K hr.units) (pe_callG Gd (hr.mono (by decide)) tk (pa_cons (pv 0) (pa_cons pe_int pa_nil)) pk_nil) pe_int (nomark _)) (pss_one (ps_set (i := 6) sc__law_names.nd rfl (by first | exact Or.inl rfl | exact Or.inr rfl) (ke_join K pe_str (pe_lc (own := [("_law_sign", 10)]) (g := (gName 10)) (tt := tYes) rfl sc__law_names.nd (pi_range1 (by rfl) T.nb_range (pa_cons (pe_op (ka_add K) pe_int (pe_callG Gd (hr.mono (by decide)) tk (pa_cons (pv 0) (pa_cons pe_int pa_nil)) pk_nil)) pa_nil)) (blkOk_by (N := (["_law_state", "_law_count", "_law_own", "_law_letters", "_law_found", "_law_turn", "_law_word", "_law_some", "_law_letter", "_law_one", "_law_sign"] : List Str)) (sc := defScope s__law_names) (by decide +kernel)) (fun _ _ _ _ _ => (pg_name (i := 10) sc__law_names.nd rfl (by first | exact Or.inl rfl | exact Or.inr rfl))) (fun _ _ _ _ _ => pts_nil) (fun _ _ _ _ _ => (pe_callG Gp (hr.mono (by decide)) takes0 (pa_cons (pv 0) (pa_cons (pv 3) pa_nil)) pk_nil)))))) pss_nil)
      (pss_cons (ps_set (i := 7) sc__law_names.nd rfl (by first | exact Or.inl rfl | exact Or.inr rfl) (pe_op (ka_add K) (pe_lst (pa_cons (pv 6) pa_nil)) (pe_lc (own := [("_law_letter", 8)]) (g := (gName 8)) (tt := tYes) rfl sc__law_names.nd (pi_str (pv 3)) (blkOk_by (N := (["_law_state", "_law_count", "_law_own", "_law_letters", "_law_found", "_law_turn", "_law_word", "_law_some", "_law_letter", "_law_one", "_law_sign"] : List Str)) (sc := defScope s__law_names) (by decide +kernel)) (fun _ _ _ _ _ => (pg_name (i := 8) sc__law_names.nd rfl (by first | exact Or.inl rfl | exact Or.inr rfl))) (fun _ _ _ _ _ => pts_nil) (fun _ _ _ _ _ => (pe_op (ka_add K) (pe_slice (ka_sl K) (pv 6) po_none (po_some pe_int)) (pv 8))))))
      (pss_one (ps_expr (pe_bm PySem.F.plainAttrs_list PySem.F.slot_list_append PySem.F.type_list_append mt_append (pv 4) (pa_cons (pe_ix (ka_ix K) (pe_lc (own := [("_law_one", 9)]) (g := (gName 9)) (tt := _) rfl sc__law_names.nd (ki_list K (pv 7)) (blkOk_by (N := (["_law_state", "_law_count", "_law_own", "_law_letters", "_law_found", "_law_turn", "_law_word", "_law_some", "_law_letter", "_law_one", "_law_sign"] : List Str)) (sc := defScope s__law_names) (by decide +kernel)) (fun _ _ _ _ _ => (pg_name (i := 9) sc__law_names.nd rfl (by first | exact Or.inl rfl | exact Or.inr rfl))) (fun _ _ _ _ _ => (pts_one (pt_cmpR (ka_ni K) (pv 9) (pv 4) (by first | exact nomark _ | rfl)))) (fun _ _ _ _ _ => (pv 9))) pe_int (fun _ _ => rfl)) pa_nil))))))))
      (pss_one (ps_ret (pe_slice (ka_sl K) (pv 4) (po_some pe_int) po_none)))))), ?_⟩
  walk_at "go"
  refine g_newL w (by walk_at "sz") fun o H1 no w1 => ?_
  walk_at "go"
  refine g_newL w1 (by walk_at "sz") fun fo H2 nf w2 => ?_
  walk_at "go"
  refine g_newL w2 (by walk_at "sz") fun tp H3 nt w3 => ?_
  refine ⟨tp, _, rfl, SqT.of (w3.get upd_same), rfl, ?_⟩
  replace w2 := w3.drop (Same.newG nt)
  walk_at "go"
  refine ⟨n, rfl, by omega, by omega, ?_⟩
  have hfo : fo ≠ o := fun z => by
    subst z
    rw [upd_same] at nf
    cases nf
  have nfG : G fo = none := (upd_nonne nf).1
  refine for_it itf_range (fun i σ' H' => ∃ t5 t6 t7, ∃ ns : List Str, σ' = [some (.ref a), some (.int n), some (.ref o), some (.str letters), some (.ref fo), t5, t6, t7, none, none, none] ∧ Wd (upd (upd G o (.lst (ownW.map V.str))) fo (.lst ((resv ++ ns).map V.str))) (RD a c) H' ∧ ns.length = i ∧ (∀ s ∈ ns, isNm s = true) ∧ (resv ++ ns).Nodup)
    ⟨none, none, none, [], rfl, w2, rfl, by simp, by decide +kernel⟩ (fun _ _ _ _ _ => True.intro) ?_ ?_
  · rintro i x σ' H' H'' hi ⟨t5, t6, t7, ns, rfl, w, hl, hn, hd⟩ ⟨rfl, rfl⟩
    have nfo : upd G o (.lst (ownW.map V.str)) fo = none := by
      rw [upd_ne hfo]
      exact nfG
    have ho : upd (upd G o (.lst (ownW.map V.str))) fo (.lst ((resv ++ ns).map V.str)) o = some (.lst (ownW.map V.str)) := upd_old upd_same nfo
    have hf : upd (upd G o (.lst (ownW.map V.str))) fo (.lst ((resv ++ ns).map V.str)) fo = some (.lst ((resv ++ ns).map V.str)) := upd_same
    have fin : ∀ s, s ∉ resv ++ ns → wordB s = true → ∀ Gx H3, Same (upd (upd G o (.lst (ownW.map V.str))) fo (.lst ((resv ++ ns).map V.str))) Gx → Wd (upd Gx fo (.lst ((resv ++ ns).map V.str ++ [.str s]))) (RD a c) H3 →
        ∃ ns' : List Str, Wd (upd (upd G o (.lst (ownW.map V.str))) fo (.lst ((resv ++ ns').map V.str))) (RD a c) H3 ∧ ns'.length = i + 1 ∧ (∀ s ∈ ns', isNm s = true) ∧ (resv ++ ns').Nodup := fun s hs hw Gx H3 e w3 => by
      refine ⟨ns ++ [s], ?_, by rw [List.length_append, hl]; rfl, fun z hz => ?_, ?_⟩
      · have : (resv ++ (ns ++ [s])).map V.str = (resv ++ ns).map V.str ++ [.str s] := by simp
        rw [this]
        have e2 := Same.upd2 (p := fo) (o := .lst ((resv ++ ns).map V.str ++ [.str s])) e
        rw [upd_upd] at e2
        exact w3.drop e2
      · rcases List.mem_append.mp hz with h | h
        · exact hn z h
        · rw [List.mem_singleton] at h
          subst h
          exact isNm_of hw fun q => hs (List.mem_append_left _ q)
      · rw [← List.append_assoc, List.nodup_append]
        refine ⟨hd, by simp, fun x hx y hy => ?_⟩
        rw [List.mem_singleton] at hy
        subst hy
        rintro rfl
        exact hs hx
    have hlen : (resv ++ ns).length ≤ 25 := by
      rw [List.length_append]
      show 5 + ns.length ≤ 25
      omega
    generalize resv ++ ns = found at *
    generalize upd (upd G o (.lst (ownW.map V.str))) fo (.lst (found.map V.str)) = G' at *
    walk_at "go"
    refine ⟨rfl, rfl, _, a, c, w, .inl ⟨o, ownW.map V.str, rfl, .inl (SqL.of ho), by decide, by decide, fun x H1 hx w1 => ?_⟩⟩
    obtain ⟨w0, hw0, rfl⟩ := List.mem_map.mp hx
    have hwd := ownW_ok w0 hw0
    walk_at "go"
    refine ⟨rfl, rfl, _, a, c, 3, rfl, w1, by decide, by decide, fun r H2 r0 r1 w2 => ?_⟩
    walk_at "go"
    refine g_eqS rfl ?_
    walk_at "go"
    refine iteD (fun h1 => ?_) (fun h1 => ?_)
    · walk_at "go"
      refine ⟨rfl, rfl, _, a, c, 8, rfl, w2, by decide, by decide, fun q H4 q0 q1 w4 => ?_⟩
      walk_at "go"
      refine ⟨1 + q, rfl, by omega, by omega, ?_⟩
      refine lc_it itf_range w4 (fun _ _ => True.intro) (by rw [sizeLine_eq]; omega) (fun i _ acc => ∃ cs : List Nat, acc = (cs.map chS).map V.str ∧ cs.length = i ∧ ∀ c ∈ cs, c ∈ letters.cps.toList) ⟨[], rfl, rfl, by simp⟩ ?_ ?_
      · rintro j x Gi acc D H5 H5' hj e nD ⟨cs, rfl, hcl, hcs⟩ hl2 w5 ⟨rfl, rfl⟩
        walk_at "go"
        refine ⟨rfl, ?_⟩
        walk_at "go"
        refine ⟨rfl, rfl, _, a, c, w5, .inr ⟨letters, rfl, by decide, by decide, fun ch H6 hch w6 => ?_⟩⟩
        exact lc_keep (Pv := fun i _ acc => ∃ cs : List Nat, acc = (cs.map chS).map V.str ∧ cs.length = i ∧ ∀ c ∈ cs, c ∈ letters.cps.toList) w6 e nD hl2 hj (by rw [sizeLine_eq]; omega) ⟨cs ++ [ch], by simp [chS], by simp [hcl], fun z hz => by
          rcases List.mem_append.mp hz with h | h
          · exact hcs z h
          · rw [List.mem_singleton] at h
            rw [h]
            exact hch⟩
      rintro D Gn acc H5 e nD ⟨cs, rfl, hcl, hcs⟩ hl2 w5
      have hb : (((cs.map chS).map (·.length)).sum + (cs.map chS).length * (Str.length "")) ≤ 16777216 := by
        have : (cs.map chS).map (·.length) = cs.map fun _ => 1 := by
          rw [List.map_map]
          rfl
        rw [this, List.length_map]
        have e0 : Str.length "" = 0 := rfl
        rw [e0, Nat.mul_zero, Nat.add_zero]
        have : ∀ l : List Nat, (l.map fun _ => 1).sum = l.length := fun l => by
          induction l with
          | nil => rfl
          | cons a r ih => rw [List.map_cons, List.sum_cons, ih, List.length_cons]; omega
        rw [this]
        omega
      refine g_join w5 (SqL.of upd_same) hb ?_
      rw [join_chS]
      have hwd := word_of (cs := cs) (by omega) (by omega) hcs
      generalize (⟨cs.toArray⟩ : Str) = w0 at *
      have w2 := w5.drop (Same.trans e (Same.newG nD))
      walk_at "go"
      refine g_newL w2 (by walk_at "sz") fun p1 H6 n1 w6 => ?_
      walk_at "go"
      refine ⟨letters, rfl, ?_⟩
      refine lc_it itf_str w6 (fun _ _ => True.intro) (by rw [sizeLine_eq]; decide) (fun i _ acc => acc = ((letters.cps.toList.take i).map fun c => cutS w0 none (some 7) ++ chS c).map V.str) rfl ?_ ?_
      · rintro j x Gi acc D H7 H7' hj e nD ha hl2 w7 ⟨rfl, ch, hc, rfl⟩
        have hlw : w0.length ≤ 8 := by
          unfold wordB at hwd
          simp only [Bool.and_eq_true, decide_eq_true_eq] at hwd
          exact hwd.1.2
        walk_at "go"
        refine ⟨rfl, ?_⟩
        walk_at "go"
        refine g_slS (by rw [sizeLine_eq]; exact Nat.le_trans hlw (by decide)) ?_
        walk_at "go"
        refine g_addS (by have := cutS_length w0 none (some 7); have h1 : (⟨#[ch]⟩ : Str).length = 1 := rfl; rw [sizeLine_eq, h1]; omega) ?_
        refine lc_keep (Pv := fun i _ acc => acc = ((letters.cps.toList.take i).map fun c => cutS w0 none (some 7) ++ chS c).map V.str) w7 e nD hl2 hj (by rw [sizeLine_eq]; decide) ?_
        have hc' : letters.cps.toList[j]? = some ch := by simpa using hc
        rw [ha, List.take_add_one, hc']
        simp [chS]
      rintro D7 G7 acc7 H7 e7 nD7 rfl hl7 w7
      rw [show letters.cps.size = letters.cps.toList.length by simp, List.take_length] at w7
      refine g_addL w7 (upd_old (e7 _ _ upd_same) nD7) upd_same (by rw [sizeLine_eq, List.length_map, List.length_map]; show 1 + letters.cps.toList.length ≤ _; rw [show letters.cps.toList.length = 26 from by decide +kernel]; decide) fun p2 H8 n8 w8 => ?_
      have ecd : [V.str w0] ++ ((letters.cps.toList.map fun c => cutS w0 none (some 7) ++ chS c).map V.str) = (cands w0).map V.str := rfl
      rw [ecd] at w8
      have hlc : (cands w0).length = 27 := by
        unfold cands
        rw [List.length_cons, List.length_map]
        rfl
      have s8 : Same G' (upd (upd G7 D7 (.lst ((letters.cps.toList.map fun c => cutS w0 none (some 7) ++ chS c).map V.str))) p2 (.lst ((cands w0).map V.str))) := Same.trans (Same.trans (Same.trans (Same.newG n1) e7) (Same.newG nD7)) (Same.newG n8)
      have hp2 : (upd (upd G7 D7 (.lst ((letters.cps.toList.map fun c => cutS w0 none (some 7) ++ chS c).map V.str))) p2 (.lst ((cands w0).map V.str))) p2 = some (.lst ((cands w0).map V.str)) := upd_same
      generalize (upd (upd G7 D7 (.lst ((letters.cps.toList.map fun c => cutS w0 none (some 7) ++ chS c).map V.str))) p2 (.lst ((cands w0).map V.str))) = G8 at *
      walk_at "go"
      refine ⟨.inl ⟨rfl, _, SqL.of (w8.get (s8 _ _ hf))⟩, ?_⟩
      walk_at "go"
      refine ⟨p2, rfl, ⟨_, SqL.of (w8.get hp2)⟩, ?_⟩
      refine lc_it (itf_list (xs := (cands w0).map V.str)) w8 (fun H' e => SqL.of (e _ _ hp2)) (by rw [sizeLine_eq, List.length_map, hlc]; decide) (fun i _ acc => acc = (((cands w0).take i).filter fun s => decide (s ∉ found)).map V.str) rfl ?_ ?_
      · rintro j x Gi acc D H9 H9' hj e nD ha hl2 w9 ⟨rfl, hx⟩
        obtain ⟨s, rfl, hs⟩ := getStr hx
        walk_at "go"
        refine ⟨rfl, ?_⟩
        walk_at "go"
        refine g_niL w9 (SqL.of (upd_old (e _ _ (s8 _ _ hf)) nD)) rfl (by rw [List.all_map]; exact List.all_eq_true.mpr fun _ _ => rfl) ?_
        rw [inV_str]
        have ht : ((cands w0).take (j + 1)).filter (fun s => decide (s ∉ found)) = ((cands w0).take j).filter (fun s => decide (s ∉ found)) ++ (if s ∉ found then [s] else []) := by
          rw [List.take_add_one, hs, List.filter_append]
          congr 1
          by_cases q : s ∈ found <;> simp [q]
        walk_at "go"
        refine iteN (fun h3 => ?_) (fun h3 => ?_)
        · walk_at "go"
          refine lc_keep (Pv := fun i _ acc => acc = (((cands w0).take i).filter fun s => decide (s ∉ found)).map V.str) w9 e nD hl2 hj (by rw [sizeLine_eq, List.length_map, hlc]; decide) ?_
          rw [ht, if_pos h3, ha, List.map_append]
          rfl
        · refine lc_drop (Pv := fun i _ acc => acc = (((cands w0).take i).filter fun s => decide (s ∉ found)).map V.str) w9 e nD hl2 ?_
          rw [ht, if_neg (fun q => q h3), ha, List.append_nil]
      rintro D9 G9 acc9 H9 e9 nD9 rfl hl9 w9
      rw [List.length_map, List.take_length] at w9
      cases hfil : (cands w0).filter (fun s => decide (s ∉ found)) with
      | nil => exact absurd hfil (cands_free w0 hlen)
      | cons s r =>
        have hsm : s ∈ (cands w0).filter (fun s => decide (s ∉ found)) := by rw [hfil]; exact List.mem_cons_self
        rw [List.mem_filter, decide_eq_true_eq] at hsm
        rw [hfil] at w9
        walk_at "go"
        refine g_ixL w9 (SqL.of upd_same) (v := .str s) (L2.atI_nat (j := 0) rfl) ?_
        walk_at "go"
        refine g_app w9 (upd_old (e9 _ _ (s8 _ _ hf)) nD9) (by rw [sizeLine_eq, List.length_map]; omega) fun H10 w10 => ?_
        obtain ⟨ns', q1, q2, q3, q4⟩ := fin s hsm.2 (cands_word hwd hsm.1) _ H10 (Same.trans (Same.trans s8 e9) (Same.newG nD9)) w10
        walk_at "go"
        exact ⟨_, _, _, ns', rfl, q1, q2, q3, q4⟩
    · walk_at "go"
      refine g_newL w2 (by walk_at "sz") fun p1 H6 n1 w6 => ?_
      walk_at "go"
      refine ⟨letters, rfl, ?_⟩
      refine lc_it itf_str w6 (fun _ _ => True.intro) (by rw [sizeLine_eq]; decide) (fun i _ acc => acc = ((letters.cps.toList.take i).map fun c => cutS w0 none (some 7) ++ chS c).map V.str) rfl ?_ ?_
      · rintro j x Gi acc D H7 H7' hj e nD ha hl2 w7 ⟨rfl, ch, hc, rfl⟩
        have hlw : w0.length ≤ 8 := by
          unfold wordB at hwd
          simp only [Bool.and_eq_true, decide_eq_true_eq] at hwd
          exact hwd.1.2
        walk_at "go"
        refine ⟨rfl, ?_⟩
        walk_at "go"
        refine g_slS (by rw [sizeLine_eq]; exact Nat.le_trans hlw (by decide)) ?_
        walk_at "go"
        refine g_addS (by have := cutS_length w0 none (some 7); have h1 : (⟨#[ch]⟩ : Str).length = 1 := rfl; rw [sizeLine_eq, h1]; omega) ?_
        refine lc_keep (Pv := fun i _ acc => acc = ((letters.cps.toList.take i).map fun c => cutS w0 none (some 7) ++ chS c).map V.str) w7 e nD hl2 hj (by rw [sizeLine_eq]; decide) ?_
        have hc' : letters.cps.toList[j]? = some ch := by simpa using hc
        rw [ha, List.take_add_one, hc']
        simp [chS]
      rintro D7 G7 acc7 H7 e7 nD7 rfl hl7 w7
      rw [show letters.cps.size = letters.cps.toList.length by simp, List.take_length] at w7
      refine g_addL w7 (upd_old (e7 _ _ upd_same) nD7) upd_same (by rw [sizeLine_eq, List.length_map, List.length_map]; show 1 + letters.cps.toList.length ≤ _; rw [show letters.cps.toList.length = 26 from by decide +kernel]; decide) fun p2 H8 n8 w8 => ?_
      have ecd : [V.str w0] ++ ((letters.cps.toList.map fun c => cutS w0 none (some 7) ++ chS c).map V.str) = (cands w0).map V.str := rfl
      rw [ecd] at w8
      have hlc : (cands w0).length = 27 := by
        unfold cands
        rw [List.length_cons, List.length_map]
        rfl
      have s8 : Same G' (upd (upd G7 D7 (.lst ((letters.cps.toList.map fun c => cutS w0 none (some 7) ++ chS c).map V.str))) p2 (.lst ((cands w0).map V.str))) := Same.trans (Same.trans (Same.trans (Same.newG n1) e7) (Same.newG nD7)) (Same.newG n8)
      have hp2 : (upd (upd G7 D7 (.lst ((letters.cps.toList.map fun c => cutS w0 none (some 7) ++ chS c).map V.str))) p2 (.lst ((cands w0).map V.str))) p2 = some (.lst ((cands w0).map V.str)) := upd_same
      generalize (upd (upd G7 D7 (.lst ((letters.cps.toList.map fun c => cutS w0 none (some 7) ++ chS c).map V.str))) p2 (.lst ((cands w0).map V.str))) = G8 at *
      walk_at "go"
      refine ⟨.inl ⟨rfl, _, SqL.of (w8.get (s8 _ _ hf))⟩, ?_⟩
      walk_at "go"
      refine ⟨p2, rfl, ⟨_, SqL.of (w8.get hp2)⟩, ?_⟩
      refine lc_it (itf_list (xs := (cands w0).map V.str)) w8 (fun H' e => SqL.of (e _ _ hp2)) (by rw [sizeLine_eq, List.length_map, hlc]; decide) (fun i _ acc => acc = (((cands w0).take i).filter fun s => decide (s ∉ found)).map V.str) rfl ?_ ?_
      · rintro j x Gi acc D H9 H9' hj e nD ha hl2 w9 ⟨rfl, hx⟩
        obtain ⟨s, rfl, hs⟩ := getStr hx
        walk_at "go"
        refine ⟨rfl, ?_⟩
        walk_at "go"
        refine g_niL w9 (SqL.of (upd_old (e _ _ (s8 _ _ hf)) nD)) rfl (by rw [List.all_map]; exact List.all_eq_true.mpr fun _ _ => rfl) ?_
        rw [inV_str]
        have ht : ((cands w0).take (j + 1)).filter (fun s => decide (s ∉ found)) = ((cands w0).take j).filter (fun s => decide (s ∉ found)) ++ (if s ∉ found then [s] else []) := by
          rw [List.take_add_one, hs, List.filter_append]
          congr 1
          by_cases q : s ∈ found <;> simp [q]
        walk_at "go"
        refine iteN (fun h3 => ?_) (fun h3 => ?_)
        · walk_at "go"
          refine lc_keep (Pv := fun i _ acc => acc = (((cands w0).take i).filter fun s => decide (s ∉ found)).map V.str) w9 e nD hl2 hj (by rw [sizeLine_eq, List.length_map, hlc]; decide) ?_
          rw [ht, if_pos h3, ha, List.map_append]
          rfl
        · refine lc_drop (Pv := fun i _ acc => acc = (((cands w0).take i).filter fun s => decide (s ∉ found)).map V.str) w9 e nD hl2 ?_
          rw [ht, if_neg (fun q => q h3), ha, List.append_nil]
      rintro D9 G9 acc9 H9 e9 nD9 rfl hl9 w9
      rw [List.length_map, List.take_length] at w9
      cases hfil : (cands w0).filter (fun s => decide (s ∉ found)) with
      | nil => exact absurd hfil (cands_free w0 hlen)
      | cons s r =>
        have hsm : s ∈ (cands w0).filter (fun s => decide (s ∉ found)) := by rw [hfil]; exact List.mem_cons_self
        rw [List.mem_filter, decide_eq_true_eq] at hsm
        rw [hfil] at w9
        walk_at "go"
        refine g_ixL w9 (SqL.of upd_same) (v := .str s) (L2.atI_nat (j := 0) rfl) ?_
        walk_at "go"
        refine g_app w9 (upd_old (e9 _ _ (s8 _ _ hf)) nD9) (by rw [sizeLine_eq, List.length_map]; omega) fun H10 w10 => ?_
        obtain ⟨ns', q1, q2, q3, q4⟩ := fin s hsm.2 (cands_word hwd hsm.1) _ H10 (Same.trans (Same.trans s8 e9) (Same.newG nD9)) w10
        walk_at "go"
        exact ⟨_, _, _, ns', rfl, q1, q2, q3, q4⟩
  · rintro σ' H' ⟨t5, t6, t7, ns, rfl, w, hl, hn, hd⟩
    walk_at "go"
    have hf : upd (upd G o (.lst (ownW.map V.str))) fo (.lst ((resv ++ ns).map V.str)) fo = some (.lst ((resv ++ ns).map V.str)) := upd_same
    refine g_slL w (SqL.of hf) fun p H1 np w1 => ?_
    have ec : cutV ((resv ++ ns).map V.str) (some 5) none = ns.map V.str := by
      unfold cutV
      have h1 : HT.sIx ((resv ++ ns).map V.str).length 0 (some 5) = min 5 ((resv ++ ns).map V.str).length := HT.sIx_nat _ _ 5
      have h2 : HT.sIx ((resv ++ ns).map V.str).length ((resv ++ ns).map V.str).length none = ((resv ++ ns).map V.str).length := rfl
      have hl5 : ((resv ++ ns).map V.str).length = 5 + ns.length := by
        rw [List.length_map, List.length_append]
        rfl
      rw [h1, h2, hl5, Nat.min_eq_left (by omega), List.map_append]
      show (ns.map V.str).take _ = _
      rw [List.take_of_length_le (by rw [List.length_map]; omega)]
    rw [ec] at w1
    have np1 := upd_nonne np
    refine k p H1 ns hl hn (List.nodup_append.mp hd).2.1 (upd_nonne np1.1).1 (w1.drop (Same.upd2 (Same.trans (Same.newG no) (Same.newG nf))))
end
end Sv


set_option Elab.async false
set_option linter.all false
set_option maxRecDepth 100000
set_option maxHeartbeats 4000000
namespace Sv
open PySem PySem.Spec PyProof.Rows L2 Sw
local macro_rules | `(tactic| walk_at "go1") => `(tactic| first
  | ((with_reducible refine' g_var ?hv ?_); (case hv => rfl))
  | with_reducible refine g_c ?_
  | with_reducible refine g_op ?_
  | with_reducible refine g_un ?_
  | with_reducible refine g_seq ?_
  | with_reducible refine g_next ?_
  | with_reducible refine g_asg ?_
  | with_reducible refine g_name ?_
  | with_reducible refine g_drop ?_
  | with_reducible refine g_sub ?_
  | with_reducible refine g_ret ?_
  | with_reducible refine g_retN ?_
  | with_reducible refine g_ifS ?_
  | with_reducible refine g_if ?_
  | with_reducible refine g_test ?_
  | with_reducible refine g_bl ?_
  | with_reducible refine g_cons ?_
  | with_reducible refine g_nil ?_
  | with_reducible refine g_and ?_
  | with_reducible refine g_or ?_
  | with_reducible refine g_not ?_
  | with_reducible refine g_callB ?_
  | with_reducible refine g_addI ?_
  | with_reducible refine g_I0 ?_
  | with_reducible refine g_calG ?_
  | with_reducible refine g_mkG ?_
  | with_reducible refine g_tup ?_
  | with_reducible refine g_pairs1 ?_
  | with_reducible refine g_pairs0 ?_
  | with_reducible refine g_dget ?_
  | with_reducible refine g_lvals ?_
  | with_reducible refine g_forT ?_
  | with_reducible refine g_lcT ?_
  | with_reducible refine g_dput ?_
  | with_reducible refine g_lc2L ?_
  | with_reducible refine g_iList ?_
  | with_reducible refine g_lcX ?_
  | with_reducible refine g_js1 ?_
  | with_reducible refine g_js0 ?_
  | with_reducible refine g_fmt ?_
  | with_reducible refine g_tLenSet ?_
  | with_reducible refine g_mkV ?_
  | with_reducible refine g_mkV1 ?_
  | with_reducible refine g_lst ?_
  | with_reducible refine g_forL ?_
  | with_reducible refine g_forR ?_
  | with_reducible refine g_forR2 ?_
  | with_reducible refine g_forS ?_
  | with_reducible refine g_forE ?_
  | with_reducible refine g_forEB ?_
  | with_reducible refine g_lcL ?_
  | with_reducible refine g_lcR ?_
  | with_reducible refine g_lcS ?_
  | with_reducible refine g_lcE ?_
  | with_reducible refine g_lcEB ?_
  | with_reducible refine g_orT ?_
  | with_reducible refine g_slc ?_
  | with_reducible refine g_noPart ?_
  | with_reducible refine g_part ?_
  | with_reducible refine g_bm ?_
  | with_reducible refine g_par ?_
  | with_reducible refine g_yes ?_
  | with_reducible refine g_tupG ?_
  | with_reducible refine g_lstG ?_
  | with_reducible refine g_gcons ?_
  | with_reducible refine g_gnil ?_
  | with_reducible refine g_chain ?_
  | with_reducible refine g_truB ?_
  | with_reducible refine g_truN ?_
  | with_reducible refine g_truI ?_
  | with_reducible refine g_m1 ?_
  | with_reducible refine g_fld ?_
  | with_reducible refine g_con ?_
  | with_reducible refine g_tru ?_
  | with_reducible refine g_U ?_
  | with_reducible refine g_xg ?_
  | with_reducible refine g_andT ?_
  | with_reducible refine g_exI ?_
  | with_reducible refine g_dnew ?_
  | with_reducible refine g_intB ?_
  | with_reducible refine g_meth ?_
  | with_reducible refine g_prop ?_
  | with_reducible refine g_exc1 ?_
  | with_reducible refine g_setF ?_
  | with_reducible refine g_star ?_
  | with_reducible refine g_strM ?_
  | with_reducible refine iteT ?_
  | with_reducible refine iteF ?_
  | with_reducible refine iteNT ?_
  | with_reducible refine iteNF ?_)
local macro_rules | `(tactic| walk_at "go") => `(tactic| repeat (walk_at "go1"))
local macro_rules | `(tactic| walk_at "sz") => `(tactic| (first | (rw [sizeLine_eq]; simp only [List.length_cons, List.length_nil, List.length_map, List.length_append, List.length_take]; omega) | (rw [sizeLine_eq]; omega)))
section
variable {P : Program} {wo : World} {A : Ad} {K : PySem.W.Frag} {mg : Str → Option Value} {base : Heap}

theorem eqVs_nil (l : List Str) : eqVs (l.map V.str) [] = decide (l = []) := by
  cases l <;> rfl
theorem iteAnd {b1 b2 : Bool} {A B : Prop} (h1 : b1 = true → b2 = true → A) (h2 : ¬ (b1 = true ∧ b2 = true) → B) : if (b1 && b2) = true then A else B := by
  cases b1 <;> cases b2
  · exact iteF (h2 (fun z => by cases z.1))
  · exact iteF (h2 (fun z => by cases z.1))
  · exact iteF (h2 (fun z => by cases z.2))
  · exact iteT (h1 rfl rfl)
theorem filter_one {α : Type} {p : α → Prop} [DecidablePred p] (c : α) : [c].filter (fun c => decide (p c)) = if p c then [c] else [] := by
  by_cases h : p c
  · rw [if_pos h, List.filter_cons_of_pos (by exact decide_eq_true h)]
    rfl
  · rw [if_neg h, List.filter_cons_of_neg (by rw [decide_eq_false h]; exact Bool.false_ne_true)]
    rfl
theorem bad_nil (l L : List Nat) : decide (((l.filter fun c => decide (c ∉ L)).map chS) = []) = l.all fun c => decide (c ∈ L) := by
  apply Bool.eq_iff_iff.mpr
  rw [decide_eq_true_eq, List.map_eq_nil_iff, List.filter_eq_nil_iff, List.all_eq_true]
  constructor
  · intro h x hx
    have := h x hx
    rw [decide_eq_true_eq] at this
    exact decide_eq_true (Classical.not_not.mp this)
  · intro h x hx
    rw [decide_eq_true_eq]
    exact Classical.not_not.mpr (of_decide_eq_true (h x hx))
end
end Sv


set_option Elab.async false
set_option linter.all false
set_option maxRecDepth 100000
set_option maxHeartbeats 4000000
namespace Sv
open PySem PySem.Spec PyProof.Rows L2 Sw
local macro_rules | `(tactic| walk_at "go1") => `(tactic| first
  | ((with_reducible refine' g_var ?hv ?_); (case hv => rfl))
  | with_reducible refine g_c ?_
  | with_reducible refine g_op ?_
  | with_reducible refine g_un ?_
  | with_reducible refine g_seq ?_
  | with_reducible refine g_next ?_
  | with_reducible refine g_asg ?_
  | with_reducible refine g_name ?_
  | with_reducible refine g_drop ?_
  | with_reducible refine g_sub ?_
  | with_reducible refine g_ret ?_
  | with_reducible refine g_retN ?_
  | with_reducible refine g_ifS ?_
  | with_reducible refine g_if ?_
  | with_reducible refine g_test ?_
  | with_reducible refine g_bl ?_
  | with_reducible refine g_cons ?_
  | with_reducible refine g_nil ?_
  | with_reducible refine g_and ?_
  | with_reducible refine g_or ?_
  | with_reducible refine g_not ?_
  | with_reducible refine g_callB ?_
  | with_reducible refine g_addI ?_
  | with_reducible refine g_I0 ?_
  | with_reducible refine g_calG ?_
  | with_reducible refine g_mkG ?_
  | with_reducible refine g_tup ?_
  | with_reducible refine g_pairs1 ?_
  | with_reducible refine g_pairs0 ?_
  | with_reducible refine g_dget ?_
  | with_reducible refine g_lvals ?_
  | with_reducible refine g_forT ?_
  | with_reducible refine g_lcT ?_
  | with_reducible refine g_dput ?_
  | with_reducible refine g_lc2L ?_
  | with_reducible refine g_iList ?_
  | with_reducible refine g_lcX ?_
  | with_reducible refine g_js1 ?_
  | with_reducible refine g_js0 ?_
  | with_reducible refine g_fmt ?_
  | with_reducible refine g_tLenSet ?_
  | with_reducible refine g_mkV ?_
  | with_reducible refine g_mkV1 ?_
  | with_reducible refine g_lst ?_
  | with_reducible refine g_forL ?_
  | with_reducible refine g_forR ?_
  | with_reducible refine g_forR2 ?_
  | with_reducible refine g_forS ?_
  | with_reducible refine g_forE ?_
  | with_reducible refine g_forEB ?_
  | with_reducible refine g_lcL ?_
  | with_reducible refine g_lcR ?_
  | with_reducible refine g_lcS ?_
  | with_reducible refine g_lcE ?_
  | with_reducible refine g_lcEB ?_
  | with_reducible refine g_orT ?_
  | with_reducible refine g_slc ?_
  | with_reducible refine g_noPart ?_
  | with_reducible refine g_part ?_
  | with_reducible refine g_bm ?_
  | with_reducible refine g_par ?_
  | with_reducible refine g_yes ?_
  | with_reducible refine g_tupG ?_
  | with_reducible refine g_lstG ?_
  | with_reducible refine g_gcons ?_
  | with_reducible refine g_gnil ?_
  | with_reducible refine g_chain ?_
  | with_reducible refine g_truB ?_
  | with_reducible refine g_truN ?_
  | with_reducible refine g_truI ?_
  | with_reducible refine g_m1 ?_
  | with_reducible refine g_fld ?_
  | with_reducible refine g_con ?_
  | with_reducible refine g_tru ?_
  | with_reducible refine g_U ?_
  | with_reducible refine g_xg ?_
  | with_reducible refine g_andT ?_
  | with_reducible refine g_exI ?_
  | with_reducible refine g_dnew ?_
  | with_reducible refine g_intB ?_
  | with_reducible refine g_meth ?_
  | with_reducible refine g_prop ?_
  | with_reducible refine g_exc1 ?_
  | with_reducible refine g_setF ?_
  | with_reducible refine g_star ?_
  | with_reducible refine g_strM ?_
  | with_reducible refine iteT ?_
  | with_reducible refine iteF ?_
  | with_reducible refine iteNT ?_
  | with_reducible refine iteNF ?_)
local macro_rules | `(tactic| walk_at "go") => `(tactic| repeat (walk_at "go1"))
local macro_rules | `(tactic| walk_at "sz") => `(tactic| (first | (rw [sizeLine_eq]; simp only [List.length_cons, List.length_nil, List.length_map, List.length_append, List.length_take]; omega) | (rw [sizeLine_eq]; omega)))
section
variable {P : Program} {wo : World} {A : Ad} {K : PySem.W.Frag} {mg : Str → Option Value} {base : Heap}

/-! ### _law_column -/
def colTup (c : Col) : List V := [.str (kstr c.k), .str c.name, if c.k = .ref then .str c.target else .non, .bl c.opt, if c.k = .ref then .str c.rule else .non]
/-- no target, no rule but of a reference -/
def Col.nrm (c : Col) : Prop := c.k ≠ .ref → c.target = "" ∧ c.rule = ""
def spColumn (K : PySem.W.Frag) : Sp := fun vs H Q _ => ∃ G a c t nm, ∃ ts : List Str, vs = [.ref a, .ref t, .str nm] ∧ Wd G (RD a c) H ∧ G t = some (.lst (ts.map V.str)) ∧ 0 < ts.length ∧ ts.length ≤ 1000 ∧
  ∀ co p H', co.name = nm → co.nrm → (co.k = .ref → co.target ∈ ts ∧ ruleOk co.rule co.opt = true) → G p = none → Wd (upd G p (.tup (colTup co))) (RD a c) H' → Q (.ref p) H'
theorem sc__law_column : FnScope (["_law_state", "_law_tables", "_law_name", "_law_kind", "_law_empty", "_law_rules"] : List Str) (["_law_state", "_law_tables", "_law_name"] : List Str) (defScope s__law_column) := ⟨rfl, rfl, rfl, by decide +kernel, rfl, by decide +kernel, by decide +kernel⟩
theorem ok_column {f : Addr} {fd : FuncData} (F : Fun K "_law_column" "_law_column" s__law_column f fd) (T : Txt K mg A) (Gd : GFn P wo K mg base 1 "_law_draw" 2 [] (fun vs _ => spDraw vs)) (Gp : GFn P wo K mg base 2 "_law_pick" 2 [] (fun vs _ => spPick K vs)) : FnOk P wo K mg base (L2.CX P wo) 3 f fd (["_law_state", "_law_tables", "_law_name"] : List Str) (spColumn K) := by
  refine okT F sc__law_column (fun vs H Q E h => ?_) (fun cdv Ar outer s H vs Q E hr tk po h => ?_)
  · obtain ⟨_, _, _, _, _, _, rfl, _⟩ := h
    rfl
  obtain ⟨G, a, c, t, nm, ts, rfl, w, ht, t0, t1, k⟩ := h
  refine ⟨_, (pss_cons (ps_par (i := 3) (j := 4) rfl sc__law_column.nd rfl rfl (by decide) rfl rfl (pa_cons (pe_callG Gp (hr.mono (by decide)) tk (pa_cons (pv 0) (pa_cons (pe_lst (pa_cons pe_str (pa_cons pe_str (pa_cons pe_str (pa_cons pe_str pa_nil))))) pa_nil)) pk_nil) (pa_cons (pe_cmpR (ka_eq K hr.units) (pe_callG Gd (hr.mono (by decide)) tk (pa_cons (pv 0) (pa_cons pe_int pa_nil)) pk_nil) pe_int (nomark _)) pa_nil)) (by rfl))
      (pss_cons (ps_if (pt_cmpR (ka_ne K hr.units) (pv 3) pe_str (nomark _)) (pss_one (ps_ret (pe_tup (pa_cons (pv 3) (pa_cons (pv 2) (pa_cons pe_non (pa_cons (pv 4) (pa_cons pe_non pa_nil)))))))) pss_nil)
      (pss_cons (ps_set (i := 5) sc__law_column.nd rfl (by first | exact Or.inl rfl | exact Or.inr rfl) (pe_op (ka_add K) (pe_lst (pa_cons pe_str (pa_cons pe_str pa_nil))) (pe_op (ka_mul K) (pe_lst (pa_cons pe_str pa_nil)) (pe_callTy ka_int (by rfl) T.nb_int (by decide +kernel) (pa_cons (pv 4) pa_nil)))))
      (pss_one (ps_ret (pe_tup (pa_cons (pv 3) (pa_cons (pv 2) (pa_cons (pe_callG Gp (hr.mono (by decide)) tk (pa_cons (pv 0) (pa_cons (pv 1) pa_nil)) pk_nil) (pa_cons (pv 4) (pa_cons (pe_callG Gp (hr.mono (by decide)) tk (pa_cons (pv 0) (pa_cons (pv 5) pa_nil)) pk_nil) pa_nil))))))))))), ?_⟩
  walk_at "go"
  refine g_newL w (by walk_at "sz") fun p1 H1 n1 w1 => ?_
  walk_at "go"
  refine ⟨rfl, rfl, _, a, c, w1, .inl ⟨p1, _, rfl, .inl (SqL.of upd_same), by decide, by decide, fun x H2 hx w2 => ?_⟩⟩
  replace w2 := w2.drop (Same.newG n1)
  walk_at "go"
  refine ⟨rfl, rfl, G, a, c, 2, rfl, w2, by decide, by decide, fun r H3 r0 r1 w3 => ?_⟩
  walk_at "go"
  refine g_eqS rfl ?_
  walk_at "go"
  refine ⟨_, _, rfl, ?_⟩
  have hk : ∃ kd : Kd, x = .str (kstr kd) := by
    simp only [List.mem_cons, List.not_mem_nil, or_false] at hx
    rcases hx with rfl | rfl | rfl | rfl
    · exact ⟨.int, rfl⟩
    · exact ⟨.text, rfl⟩
    · exact ⟨.ref, rfl⟩
    · exact ⟨.ref, rfl⟩
  obtain ⟨kd, rfl⟩ := hk
  generalize decide (V.int r = V.int 0) = e
  walk_at "go"
  refine g_neS rfl ?_
  walk_at "go"
  refine iteN (fun h1 => ?_) (fun h1 => ?_)
  · walk_at "go"
    have hkr : kd ≠ .ref := fun z => h1 (by rw [z]; rfl)
    refine g_newL w3 (by walk_at "sz") fun p H4 n4 w4 => ?_
    refine k ⟨kd, nm, e, "", ""⟩ p H4 rfl (fun _ => ⟨rfl, rfl⟩) (fun z => absurd z hkr) n4 ?_
    have : colTup ⟨kd, nm, e, "", ""⟩ = [.str (kstr kd), .str nm, .non, .bl e, .non] := by
      unfold colTup
      simp only [if_neg hkr]
    rw [this]
    exact w4
  · have hkr : kd = .ref := by
      cases kd with
      | ref => rfl
      | int => exact absurd (V.str.inj h1) (by decide)
      | text => exact absurd (V.str.inj h1) (by decide)
    subst hkr
    walk_at "go"
    refine g_newL w3 (by walk_at "sz") fun p4 H4 n4 w4 => ?_
    walk_at "go"
    refine g_newL w4 (by walk_at "sz") fun p5 H5 n5 w5 => ?_
    walk_at "go"
    refine g_mulL w5 upd_same (by cases e <;> decide) (by cases e <;> decide) (by rw [sizeLine_eq]; cases e <;> decide) fun p6 H6 n6 w6 => ?_
    have er : (List.replicate ((if e = true then (1 : Int) else 0)).toNat [V.str "clear"]).flatten = (if e = true then [V.str "clear"] else []) := by
      cases e <;> rfl
    rw [er] at w6
    refine g_addL w6 (upd_old (upd_old upd_same n5) n6) upd_same (by rw [sizeLine_eq]; cases e <;> decide) fun p7 H7 n7 w7 => ?_
    have s7 := fun o => Same.trans (Same.trans (Same.trans (Same.newG n4) (Same.newG n5)) (Same.newG n6)) (Same.newG (o := o) n7)
    walk_at "go"
    refine ⟨rfl, rfl, _, a, c, w7, .inl ⟨t, _, rfl, .inl (SqL.of (s7 _ _ _ ht)), by rw [List.length_map]; exact t0, by rw [List.length_map]; omega, fun x H8 hx8 w8 => ?_⟩⟩
    obtain ⟨tg, htg, rfl⟩ := List.mem_map.mp hx8
    walk_at "go"
    refine ⟨rfl, rfl, _, a, c, w8, .inl ⟨p7, _, rfl, .inl (SqL.of upd_same), by cases e <;> decide, by cases e <;> decide, fun x H9 hx9 w9 => ?_⟩⟩
    obtain ⟨ru, rfl, hru⟩ : ∃ ru : Str, x = .str ru ∧ ruleOk ru e = true := by
      cases e with
      | true =>
        simp only [if_true, List.mem_append, List.mem_cons, List.not_mem_nil, or_false] at hx9
        rcases hx9 with (rfl | rfl) | rfl
        · exact ⟨_, rfl, by decide +kernel⟩
        · exact ⟨_, rfl, by decide +kernel⟩
        · exact ⟨_, rfl, by decide +kernel⟩
      | false =>
        simp only [Bool.false_eq_true, if_false, List.append_nil, List.mem_cons, List.not_mem_nil, or_false] at hx9
        rcases hx9 with rfl | rfl
        · exact ⟨_, rfl, by decide +kernel⟩
        · exact ⟨_, rfl, by decide +kernel⟩
    walk_at "go"
    replace w9 := w9.drop (s7 _)
    refine g_newL w9 (by walk_at "sz") fun p H10 n10 w10 => ?_
    exact k ⟨.ref, nm, e, tg, ru⟩ p H10 rfl (fun z => absurd rfl z) (fun _ => ⟨htg, hru⟩) n10 w10

end
end Sv


set_option Elab.async false
set_option linter.all false
set_option maxRecDepth 100000
set_option maxHeartbeats 4000000
namespace Sv
open PySem PySem.Spec PyProof.Rows L2 Sw
local macro_rules | `(tactic| walk_at "go1") => `(tactic| first
  | ((with_reducible refine' g_var ?hv ?_); (case hv => rfl))
  | with_reducible refine g_c ?_
  | with_reducible refine g_op ?_
  | with_reducible refine g_un ?_
  | with_reducible refine g_seq ?_
  | with_reducible refine g_next ?_
  | with_reducible refine g_asg ?_
  | with_reducible refine g_name ?_
  | with_reducible refine g_drop ?_
  | with_reducible refine g_sub ?_
  | with_reducible refine g_ret ?_
  | with_reducible refine g_retN ?_
  | with_reducible refine g_ifS ?_
  | with_reducible refine g_if ?_
  | with_reducible refine g_test ?_
  | with_reducible refine g_bl ?_
  | with_reducible refine g_cons ?_
  | with_reducible refine g_nil ?_
  | with_reducible refine g_and ?_
  | with_reducible refine g_or ?_
  | with_reducible refine g_not ?_
  | with_reducible refine g_callB ?_
  | with_reducible refine g_addI ?_
  | with_reducible refine g_I0 ?_
  | with_reducible refine g_calG ?_
  | with_reducible refine g_mkG ?_
  | with_reducible refine g_tup ?_
  | with_reducible refine g_pairs1 ?_
  | with_reducible refine g_pairs0 ?_
  | with_reducible refine g_dget ?_
  | with_reducible refine g_lvals ?_
  | with_reducible refine g_forT ?_
  | with_reducible refine g_lcT ?_
  | with_reducible refine g_dput ?_
  | with_reducible refine g_lc2L ?_
  | with_reducible refine g_iList ?_
  | with_reducible refine g_lcX ?_
  | with_reducible refine g_js1 ?_
  | with_reducible refine g_js0 ?_
  | with_reducible refine g_fmt ?_
  | with_reducible refine g_tLenSet ?_
  | with_reducible refine g_mkV ?_
  | with_reducible refine g_mkV1 ?_
  | with_reducible refine g_lst ?_
  | with_reducible refine g_forL ?_
  | with_reducible refine g_forR ?_
  | with_reducible refine g_forR2 ?_
  | with_reducible refine g_forS ?_
  | with_reducible refine g_forE ?_
  | with_reducible refine g_forEB ?_
  | with_reducible refine g_lcL ?_
  | with_reducible refine g_lcR ?_
  | with_reducible refine g_lcS ?_
  | with_reducible refine g_lcE ?_
  | with_reducible refine g_lcEB ?_
  | with_reducible refine g_orT ?_
  | with_reducible refine g_slc ?_
  | with_reducible refine g_noPart ?_
  | with_reducible refine g_part ?_
  | with_reducible refine g_bm ?_
  | with_reducible refine g_par ?_
  | with_reducible refine g_yes ?_
  | with_reducible refine g_tupG ?_
  | with_reducible refine g_lstG ?_
  | with_reducible refine g_gcons ?_
  | with_reducible refine g_gnil ?_
  | with_reducible refine g_chain ?_
  | with_reducible refine g_truB ?_
  | with_reducible refine g_truN ?_
  | with_reducible refine g_truI ?_
  | with_reducible refine g_m1 ?_
  | with_reducible refine g_fld ?_
  | with_reducible refine g_con ?_
  | with_reducible refine g_tru ?_
  | with_reducible refine g_U ?_
  | with_reducible refine g_xg ?_
  | with_reducible refine g_andT ?_
  | with_reducible refine g_exI ?_
  | with_reducible refine g_dnew ?_
  | with_reducible refine g_intB ?_
  | with_reducible refine g_meth ?_
  | with_reducible refine g_prop ?_
  | with_reducible refine g_exc1 ?_
  | with_reducible refine g_setF ?_
  | with_reducible refine g_star ?_
  | with_reducible refine g_strM ?_
  | with_reducible refine iteT ?_
  | with_reducible refine iteF ?_
  | with_reducible refine iteNT ?_
  | with_reducible refine iteNF ?_)
local macro_rules | `(tactic| walk_at "go") => `(tactic| repeat (walk_at "go1"))
local macro_rules | `(tactic| walk_at "sz") => `(tactic| (first | (rw [sizeLine_eq]; simp only [List.length_cons, List.length_nil, List.length_map, List.length_append, List.length_take]; omega) | (rw [sizeLine_eq]; omega)))
theorem seqIx_of {r : Int} {n : Nat} (h0 : 0 ≤ r) (h1 : r < n) : seqIndex? r n = some r.toNat := by
  have e : seqIndex? r n = if (decide (0 ≤ (if r < 0 then r + (n : Int) else r)) && decide ((if r < 0 then r + (n : Int) else r) < (n : Int))) = true then some (if r < 0 then r + (n : Int) else r).toNat else none := rfl
  rw [e, if_neg (show ¬ r < 0 by omega), decide_eq_true h0, decide_eq_true h1]
  rfl
section
variable {P : Program} {wo : World} {A : Ad} {K : PySem.W.Frag} {mg : Str → Option Value} {base : Heap}
/-! ### _law_mixed -/
def spMixed (K : PySem.W.Frag) : Sp := fun vs H Q _ => ∃ G a c l xs, vs = [.ref a, .ref l] ∧ Wd G (RD a c) H ∧ SqL K G l xs ∧ xs.length ≤ 1000 ∧ ∀ p H' ys, (∀ y ∈ ys, y ∈ xs) → ys.length = xs.length → G p = none → Wd (upd G p (.lst ys)) (RD a c) H' → Q (.ref p) H'
theorem sc__law_mixed : FnScope (["_law_state", "_law_some", "_law_left", "_law_found"] : List Str) (["_law_state", "_law_some"] : List Str) (defScope s__law_mixed) := ⟨rfl, rfl, rfl, by decide +kernel, rfl, by decide +kernel, by decide +kernel⟩
theorem ok_mixed {f : Addr} {fd : FuncData} (F : Fun K "_law_mixed" "_law_mixed" s__law_mixed f fd) (T : Txt K mg A) (Gd : GFn P wo K mg base 1 "_law_draw" 2 [] (fun vs _ => spDraw vs)) : FnOk P wo K mg base (L2.CX P wo) 2 f fd (["_law_state", "_law_some"] : List Str) (spMixed K) := by
  refine okT F sc__law_mixed (fun vs H Q E h => ?_) (fun cdv Ar outer s H vs Q E hr tk po h => ?_)
  · obtain ⟨_, _, _, _, _, rfl, _⟩ := h
    rfl
  obtain ⟨G, a, c, l, xs, rfl, w, hl, hx, k⟩ := h
  refine ⟨_, (pss_cons (ps_par (i := 2) (j := 3) rfl sc__law_mixed.nd rfl rfl (by decide) rfl rfl (pa_cons (pe_callTy (ka_list K) (by rfl) T.nb_list (by decide +kernel) (pa_cons (pv 1) pa_nil)) (pa_cons (pe_lst pa_nil) pa_nil)) (by rfl))
      (pss_cons (ps_while po (pt_cmpR (op_neL0 K hr.units) (pv 2) (pe_lst pa_nil) (nomark _)) (pss_one (ps_expr (pe_bm PySem.F.plainAttrs_list PySem.F.slot_list_append PySem.F.type_list_append mt_append (pv 3) (pa_cons (pe_bm PySem.F.plainAttrs_list PySem.F.slot_list_pop PySem.F.type_list_pop mt_popAt (pv 2) (pa_cons (pe_callG Gd (hr.mono (by decide)) tk (pa_cons (pv 0) (pa_cons (pe_callB (ka_len K) (by rfl) T.nb_len (by decide +kernel) (pa_cons (pv 2) pa_nil)) pa_nil)) pk_nil) pa_nil)) pa_nil)))))
      (pss_one (ps_ret (pv 3))))), ?_⟩
  walk_at "go"
  refine g_listL w hl fun p1 H1 n1 w => ?_
  walk_at "go"
  refine g_newL w (by walk_at "sz") fun p2 H2 n2 w => ?_
  walk_at "go"
  refine ⟨_, _, rfl, ?_⟩
  walk_at "go"
  obtain ⟨m2, d21⟩ := upd_nonne n2
  refine ⟨fun m σ' H' => ∃ lf fd, σ' = [some (.ref a), some (.ref l), some (.ref p1), some (.ref p2)] ∧ lf.length = m ∧ Wd (upd (upd G p1 (.lst lf)) p2 (.lst fd)) (RD a c) H' ∧ (∀ y ∈ lf, y ∈ xs) ∧ (∀ y ∈ fd, y ∈ xs) ∧ lf.length + fd.length = xs.length,
    ⟨xs.length, xs, [], rfl, rfl, w, fun _ h => h, fun _ h => absurd h List.not_mem_nil, rfl⟩, ?_⟩
  rintro m σ' H' ⟨lf, fd, rfl, rfl, w, h1, h2, h3⟩
  have hp2 : upd (upd G p1 (.lst lf)) p2 (.lst fd) p2 = some (.lst fd) := upd_same
  have hp1 : upd (upd G p1 (.lst lf)) p2 (.lst fd) p1 = some (.lst lf) := by rw [upd_ne d21.symm]; exact upd_same
  have s1 : Same G (upd (upd G p1 (.lst lf)) p2 (.lst fd)) := Same.setL (Same.newG n1) m2
  walk_at "go"
  refine g_newL w (by walk_at "sz") fun q H3 nq w3 => ?_
  refine g_neL0 w3 (SqL.of (upd_old hp1 nq)) (SqL.of upd_same) ?_
  replace w := w3.drop (Same.newG nq)
  walk_at "go"
  cases lf with
  | nil =>
    refine iteNT ?_
    walk_at "go"
    rw [upd_comm d21] at w
    refine k p2 _ fd h2 (by simpa using h3) m2 (w.drop (Same.newG ?_))
    rw [upd_ne d21.symm]
    exact n1
  | cons y lf =>
    refine iteNF ?_
    have lx : (y :: lf).length ≤ 1000 := by omega
    refine ⟨_, fun _ _ h => h, ?_⟩
    walk_at "go"
    refine g_tyL w hp2 ?_
    walk_at "go"
    refine g_tyL w hp1 ?_
    walk_at "go"
    refine g_lenL w (SqL.of hp1) ?_
    walk_at "go"
    refine ⟨rfl, rfl, _, a, c, _, rfl, w, by rw [List.length_cons]; omega, by omega, fun r H4 r0 r1 w4 => ?_⟩
    walk_at "go"
    have hlt : r.toNat < (y :: lf).length := by omega
    refine g_popAt w4 hp1 (by omega) (by omega) (seqIx_of r0 r1) (List.getElem?_eq_getElem hlt) fun H5 w5 => ?_
    have e5 : upd (upd (upd G p1 (.lst (y :: lf))) p2 (.lst fd)) p1 (.lst ((y :: lf).eraseIdx r.toNat)) = upd (upd G p1 (.lst ((y :: lf).eraseIdx r.toNat))) p2 (.lst fd) := by rw [upd_comm d21.symm, upd_upd]
    rw [e5] at w5
    walk_at "go"
    refine g_app w5 upd_same (by rw [sizeLine_eq]; omega) fun H6 w6 => ?_
    rw [upd_upd] at w6
    walk_at "go"
    have le : ((y :: lf).eraseIdx r.toNat).length = lf.length := by rw [List.length_eraseIdx, if_pos hlt]; rfl
    refine ⟨_, ?_, _, _, rfl, rfl, w6, fun z hz => h1 z (List.mem_of_mem_eraseIdx hz), fun z hz => ?_, ?_⟩
    · rw [le, List.length_cons]; omega
    · rcases List.mem_append.mp hz with hz | hz
      · exact h2 z hz
      · rw [List.mem_singleton.mp hz]
        exact h1 _ (List.getElem_mem hlt)
    · rw [le, List.length_append]
      simp only [List.length_cons, List.length_nil] at h3 ⊢
      omega
end
end Sv


set_option Elab.async false
set_option linter.all false
set_option maxRecDepth 100000
set_option maxHeartbeats 4000000
namespace Sv
open PySem PySem.Spec PyProof.Rows L2 Sw
local macro_rules | `(tactic| walk_at "go1") => `(tactic| first
  | ((with_reducible refine' g_var ?hv ?_); (case hv => rfl))
  | with_reducible refine g_c ?_
  | with_reducible refine g_op ?_
  | with_reducible refine g_un ?_
  | with_reducible refine g_seq ?_
  | with_reducible refine g_next ?_
  | with_reducible refine g_asg ?_
  | with_reducible refine g_name ?_
  | with_reducible refine g_drop ?_
  | with_reducible refine g_sub ?_
  | with_reducible refine g_ret ?_
  | with_reducible refine g_retN ?_
  | with_reducible refine g_ifS ?_
  | with_reducible refine g_if ?_
  | with_reducible refine g_test ?_
  | with_reducible refine g_bl ?_
  | with_reducible refine g_cons ?_
  | with_reducible refine g_nil ?_
  | with_reducible refine g_and ?_
  | with_reducible refine g_or ?_
  | with_reducible refine g_not ?_
  | with_reducible refine g_callB ?_
  | with_reducible refine g_addI ?_
  | with_reducible refine g_I0 ?_
  | with_reducible refine g_calG ?_
  | with_reducible refine g_mkG ?_
  | with_reducible refine g_tup ?_
  | with_reducible refine g_pairs1 ?_
  | with_reducible refine g_pairs0 ?_
  | with_reducible refine g_dget ?_
  | with_reducible refine g_lvals ?_
  | with_reducible refine g_forT ?_
  | with_reducible refine g_lcT ?_
  | with_reducible refine g_dput ?_
  | with_reducible refine g_lc2L ?_
  | with_reducible refine g_iList ?_
  | with_reducible refine g_lcX ?_
  | with_reducible refine g_js1 ?_
  | with_reducible refine g_js0 ?_
  | with_reducible refine g_fmt ?_
  | with_reducible refine g_tLenSet ?_
  | with_reducible refine g_mkV ?_
  | with_reducible refine g_mkV1 ?_
  | with_reducible refine g_lst ?_
  | with_reducible refine g_forL ?_
  | with_reducible refine g_forR ?_
  | with_reducible refine g_forR2 ?_
  | with_reducible refine g_forS ?_
  | with_reducible refine g_forE ?_
  | with_reducible refine g_forEB ?_
  | with_reducible refine g_lcL ?_
  | with_reducible refine g_lcR ?_
  | with_reducible refine g_lcS ?_
  | with_reducible refine g_lcE ?_
  | with_reducible refine g_lcEB ?_
  | with_reducible refine g_orT ?_
  | with_reducible refine g_slc ?_
  | with_reducible refine g_noPart ?_
  | with_reducible refine g_part ?_
  | with_reducible refine g_bm ?_
  | with_reducible refine g_par ?_
  | with_reducible refine g_yes ?_
  | with_reducible refine g_tupG ?_
  | with_reducible refine g_lstG ?_
  | with_reducible refine g_gcons ?_
  | with_reducible refine g_gnil ?_
  | with_reducible refine g_chain ?_
  | with_reducible refine g_truB ?_
  | with_reducible refine g_truN ?_
  | with_reducible refine g_truI ?_
  | with_reducible refine g_m1 ?_
  | with_reducible refine g_fld ?_
  | with_reducible refine g_con ?_
  | with_reducible refine g_tru ?_
  | with_reducible refine g_U ?_
  | with_reducible refine g_xg ?_
  | with_reducible refine g_andT ?_
  | with_reducible refine g_exI ?_
  | with_reducible refine g_dnew ?_
  | with_reducible refine g_intB ?_
  | with_reducible refine g_meth ?_
  | with_reducible refine g_prop ?_
  | with_reducible refine g_exc1 ?_
  | with_reducible refine g_setF ?_
  | with_reducible refine g_star ?_
  | with_reducible refine g_strM ?_
  | with_reducible refine iteT ?_
  | with_reducible refine iteF ?_
  | with_reducible refine iteNT ?_
  | with_reducible refine iteNF ?_)
local macro_rules | `(tactic| walk_at "go") => `(tactic| repeat (walk_at "go1"))
local macro_rules | `(tactic| walk_at "sz") => `(tactic| (first | (rw [sizeLine_eq]; simp only [List.length_cons, List.length_nil, List.length_map, List.length_append, List.length_take]; omega) | (rw [sizeLine_eq]; omega)))
def CTs (K : PySem.W.Frag) (G : Hp) (cs : List Col) (as : List Addr) : Prop := Paired (fun c a => SqT K G a (colTup c)) cs as
theorem CTs.same {K : PySem.W.Frag} {G G' : Hp} {cs : List Col} {as : List Addr} (h : CTs K G cs as) (e : Same G G') : CTs K G' cs as := Sw.Paired.imp (fun _ _ x => Evl.ex_t e x) h
theorem CTs.sub {K : PySem.W.Frag} {G : Hp} {cs : List Col} {as : List Addr} (h : CTs K G cs as) : ∀ ys : List V, (∀ y ∈ ys, y ∈ as.map V.ref) → ∃ cs' as', ys = as'.map V.ref ∧ CTs K G cs' as' ∧ ∀ c ∈ cs', c ∈ cs
  | [], _ => ⟨[], [], rfl, .nil, fun _ z => absurd z List.not_mem_nil⟩
  | y :: ys, hy => by
    obtain ⟨cs', as', e1, e2, e3⟩ := CTs.sub h ys fun z hz => hy z (List.mem_cons_of_mem _ hz)
    obtain ⟨a, ha, rfl⟩ := List.mem_map.mp (hy y List.mem_cons_self)
    obtain ⟨i, hi⟩ := List.getElem?_of_mem ha
    obtain ⟨c, hc, hca⟩ := Sw.Paired.atR h hi
    refine ⟨c :: cs', a :: as', by rw [e1]; rfl, .cons hca e2, fun z hz => ?_⟩
    rcases List.mem_cons.mp hz with rfl | hz
    · exact List.mem_of_getElem? hc
    · exact e3 z hz
theorem colTup0 (c : Col) : atI (colTup c) 0 = some (.str (kstr c.k)) := rfl
theorem colTup1 (c : Col) : atI (colTup c) 1 = some (.str c.name) := rfl
theorem colTup2 (c : Col) : atI (colTup c) 2 = some (if c.k = .ref then .str c.target else .non) := rfl
theorem colTup3 (c : Col) : atI (colTup c) 3 = some (.bl c.opt) := rfl
theorem cut_hi (xs : List V) (k : Nat) : (cutV xs none (some (k : Int))) = xs.take k := by
  have h1 : HT.sIx xs.length 0 none = 0 := rfl
  have h2 : HT.sIx xs.length xs.length (some (k : Int)) = min k xs.length := HT.sIx_nat _ _ k
  unfold cutV
  rw [h1, h2, List.drop_zero, Nat.sub_zero]
  rcases Nat.le_total k xs.length with h | h
  · rw [Nat.min_eq_left h]
  · rw [Nat.min_eq_right h, List.take_of_length_le (Nat.le_refl _), List.take_of_length_le h]
theorem kstr_ref (c : Col) : decide (V.str (kstr c.k) = V.str "ref") = decide (c.k = .ref) := by
  cases c.k <;> decide
def Gok (gs : List (List Str)) : Prop := ∀ g ∈ gs, g.length ≤ 3 ∧ ∀ n ∈ g, isNm n = true
theorem Same.updR {G G' : Hp} {p : Addr} {o : HO} (e : Same G G') (h : G' p = some o) : Same (upd G p o) G' := fun b u z => by
  by_cases hb : b = p
  · subst hb
    rw [upd_same] at z
    cases z
    exact h
  · rw [upd_ne hb] at z
    exact e _ _ z
section
variable {P : Program} {wo : World} {A : Ad} {K : PySem.W.Frag} {mg : Str → Option Value} {base : Heap}
/-! ### _law_groups -/
def spLGroups (K : PySem.W.Frag) : Sp := fun vs H Q _ => ∃ G a c l cs as, vs = [.ref a, .ref l] ∧ Wd G (RD a c) H ∧ G l = some (.lst (as.map V.ref)) ∧ CTs K G cs as ∧ as.length ≤ 20 ∧ (∀ c ∈ cs, isNm c.name = true) ∧
  ∀ p us gs G' H', G p = none → Same G G' → G' p = some (.lst us) → GrpsAt K G' gs us → gs.length ≤ 3 → Gok gs → Wd G' (RD a c) H' → Q (.ref p) H'
theorem sc__law_groups : FnScope (["_law_state", "_law_columns", "_law_found", "_law_turn", "_law_some", "_law_column_here"] : List Str) (["_law_state", "_law_columns"] : List Str) (defScope s__law_groups) := ⟨rfl, rfl, rfl, by decide +kernel, rfl, by decide +kernel, by decide +kernel⟩
theorem ok_lgroups {f : Addr} {fd : FuncData} (F : Fun K "_law_groups" "_law_groups" s__law_groups f fd) (T : Txt K mg A) (Gd : GFn P wo K mg base 1 "_law_draw" 2 [] (fun vs _ => spDraw vs)) (Gm : GFn P wo K mg base 2 "_law_mixed" 2 [] (fun vs _ => spMixed K vs)) : FnOk P wo K mg base (L2.CX P wo) 3 f fd (["_law_state", "_law_columns"] : List Str) (spLGroups K) := by
  refine okT F sc__law_groups (fun vs H Q E h => ?_) (fun cdv Ar outer s H vs Q E hr tk po h => ?_)
  · obtain ⟨_, _, _, _, _, _, rfl, _⟩ := h
    rfl
  obtain ⟨G, a, c, l, cs, as, rfl, w, hl, hc, la, hn, k⟩ := h
  refine ⟨_, (pss_cons (ps_set (i := 2) sc__law_groups.nd rfl (by first | exact Or.inl rfl | exact Or.inr rfl) (pe_lst pa_nil))
      (pss_cons (ps_for po rfl (pi_range1 (by rfl) T.nb_range (pa_cons (pe_callG Gd (hr.mono (by decide)) tk (pa_cons (pv 0) (pa_cons pe_int pa_nil)) pk_nil) pa_nil)) (pg_name (i := 3) sc__law_groups.nd rfl (by first | exact Or.inl rfl | exact Or.inr rfl)) (pss_cons (ps_set (i := 4) sc__law_groups.nd rfl (by first | exact Or.inl rfl | exact Or.inr rfl) (pe_slice (ka_sl K) (pe_callG Gm (hr.mono (by decide)) tk (pa_cons (pv 0) (pa_cons (pv 1) pa_nil)) pk_nil) po_none (po_some (pe_op (ka_add K) pe_int (pe_callG Gd (hr.mono (by decide)) tk (pa_cons (pv 0) (pa_cons pe_int pa_nil)) pk_nil)))))
      (pss_one (ps_if (pt_cmpR (op_neL0 K hr.units) (pe_lc (own := [("_law_column_here", 5)]) (g := (gName 5)) (tt := _) rfl sc__law_groups.nd (ki_list K (pv 4)) (blkOk_by (N := (["_law_state", "_law_columns", "_law_found", "_law_turn", "_law_some", "_law_column_here"] : List Str)) (sc := defScope s__law_groups) (by decide +kernel)) (fun _ _ _ _ _ => (pg_name (i := 5) sc__law_groups.nd rfl (by first | exact Or.inl rfl | exact Or.inr rfl))) (fun _ _ _ _ _ => (pts_one (PW.pt (pw_or (pt_cmpR (ka_ne K hr.units) (pe_ix (ka_ix K) (pv 5) pe_int (fun _ _ => rfl)) pe_str (nomark _)) (pw_or1 (kt_truth K (pe_ix (ka_ix K) (pv 5) pe_int (fun _ _ => rfl)) (by intro _; rfl))))))) (fun _ _ _ _ _ => (pv 5))) (pe_lst pa_nil) (nomark _)) (pss_one (ps_expr (pe_bm PySem.F.plainAttrs_list PySem.F.slot_list_append PySem.F.type_list_append mt_append (pv 2) (pa_cons (pe_callTy call_tuple_of (by rfl) T.nb_tuple (by decide +kernel) (pa_cons (pe_lc (own := [("_law_column_here", 5)]) (g := (gName 5)) (tt := tYes) rfl sc__law_groups.nd (ki_list K (pv 4)) (blkOk_by (N := (["_law_state", "_law_columns", "_law_found", "_law_turn", "_law_some", "_law_column_here"] : List Str)) (sc := defScope s__law_groups) (by decide +kernel)) (fun _ _ _ _ _ => (pg_name (i := 5) sc__law_groups.nd rfl (by first | exact Or.inl rfl | exact Or.inr rfl))) (fun _ _ _ _ _ => pts_nil) (fun _ _ _ _ _ => (pe_ix (ka_ix K) (pv 5) pe_int (fun _ _ => rfl)))) pa_nil)) pa_nil)))) pss_nil))))
      (pss_one (ps_ret (pv 2))))), ?_⟩
  walk_at "go"
  refine g_newL w (by walk_at "sz") fun p H1 np w => ?_
  walk_at "go"
  refine ⟨rfl, rfl, _, a, c, _, rfl, w, by decide, by decide, fun r H2 r0 r1 w => ?_⟩
  walk_at "go"
  refine ⟨_, rfl, by omega, by omega, ?_⟩
  refine for_it itf_range (fun i σ' H' => ∃ y3 y4 GI us gs, σ' = [some (.ref a), some (.ref l), some (.ref p), y3, y4, none] ∧ Same G GI ∧ GI p = none ∧ Wd (upd GI p (.lst us)) (RD a c) H' ∧ GrpsAt K GI gs us ∧ gs.length ≤ i ∧ Gok gs)
    ⟨_, _, G, [], [], rfl, Same.refl _, np, w, .nil, Nat.le_refl _, fun _ z => absurd z List.not_mem_nil⟩ (fun i σ' H' _ h => True.intro) ?_ ?_
  · rintro i x σ' H3 H4 hi ⟨y3, y4, GI, us, gs, rfl, e1, npI, w, hg, lg, gok⟩ ⟨rfl, rfl⟩
    have hpW : upd GI p (.lst us) p = some (.lst us) := upd_same
    have sW : Same GI (upd GI p (.lst us)) := Same.newG npI
    generalize upd GI p (.lst us) = GW at w hpW sW
    have lus : us.length = gs.length := (Sw.Paired.len hg).symm
    walk_at "go"
    refine ⟨rfl, rfl, GW, a, c, l, _, rfl, w, SqL.of (sW _ _ (e1 _ _ hl)), by rw [List.length_map]; omega, fun p3 H5 ys h1 h2 n3 w => ?_⟩
    walk_at "go"
    refine ⟨rfl, rfl, _, a, c, _, rfl, w, by decide, by decide, fun r2 H6 r20 r21 w => ?_⟩
    obtain ⟨kr, rfl⟩ : ∃ j : Nat, r2 = j := ⟨r2.toNat, by omega⟩
    walk_at "go"
    refine g_slLA w (SqL.of upd_same) fun p5 G5 H5 n5 s5 q5 w => ?_
    rw [show (1 : Int) + (kr : Int) = ((kr + 1 : Nat) : Int) by omega, cut_hi] at q5
    obtain ⟨cs', as', ey, hct, hcm⟩ := CTs.sub hc (ys.take (kr + 1)) (fun y hy => h1 y (List.mem_of_mem_take hy))
    have l3 : as'.length ≤ 3 := by
      have := congrArg List.length ey
      rw [List.length_map, List.length_take] at this
      omega
    rw [ey] at q5
    have S5 : Same GW G5 := Same.trans (Same.newG n3) s5
    have SG : Same G GW := Same.trans e1 sW
    walk_at "go"
    refine ⟨p5, rfl, ⟨_, SqL.of (w.get q5)⟩, ?_⟩
    refine lc_it (itf_list (xs := as'.map V.ref)) w (fun H e => SqL.of (e _ _ q5)) (by rw [sizeLine_eq, List.length_map]; omega) (fun _ _ _ => True) True.intro ?_ ?_
    · rintro j y Gi acc D Ha Hb hj ej nD _ ha wj ⟨rfl, hy⟩
      rw [List.getElem?_map] at hy
      obtain ⟨ca, hca, rfl⟩ := Option.map_eq_some_iff.mp hy
      obtain ⟨cc, hcc, hct2⟩ := Sw.Paired.atR hct hca
      have ht : SqT K (upd Gi D (.lst acc)) ca (colTup cc) := Evl.ex_t (Same.trans (Same.trans SG S5) (Same.trans ej (Same.newG nD))) hct2
      have keep : Wd (upd Gi D (.lst acc)) (RD a c) Hb → _ := fun w' => lc_keep (Pv := fun _ _ _ => True) (y := .ref ca) w' ej nD ha hj (by rw [sizeLine_eq, List.length_map]; omega) True.intro
      walk_at "go"
      refine ⟨rfl, ?_⟩
      walk_at "go"
      refine g_ixT wj ht (colTup0 cc) ?_
      walk_at "go"
      refine g_neS rfl ?_
      walk_at "go"
      refine iteN (fun z1 => ?_) (fun z1 => ?_)
      · walk_at "go"
        exact keep wj
      · walk_at "go"
        refine g_ixT wj ht (colTup3 cc) ?_
        walk_at "go"
        cases cc.opt with
        | true =>
          walk_at "go"
          exact keep wj
        | false =>
          walk_at "go"
          exact lc_drop (Pv := fun _ _ _ => True) wj ej nD ha True.intro
    · rintro D Gn acc Ha ej nD _ ha w
      have hpn : upd Gn D (.lst acc) p = some (.lst us) := upd_old (ej _ _ (S5 _ _ hpW)) nD
      have S6 : Same GW (upd Gn D (.lst acc)) := Same.trans S5 (Same.trans ej (Same.newG nD))
      have hD : upd Gn D (.lst acc) D = some (.lst acc) := upd_same
      have q6 : upd Gn D (.lst acc) p5 = some (.lst (as'.map V.ref)) := upd_old (ej _ _ q5) nD
      generalize upd Gn D (.lst acc) = G6 at *
      walk_at "go"
      refine g_newA w (by walk_at "sz") fun p7 G7 H7 n7 s7 q7 w => ?_
      refine g_neL0 w (SqL.of (s7 _ _ hD)) (SqL.of q7) ?_
      walk_at "go"
      have S7 : Same GW G7 := Same.trans S6 s7
      cases acc with
      | nil =>
        refine iteNT ?_
        walk_at "go"
        refine ⟨_, _, GI, us, gs, rfl, e1, npI, w.drop (Same.updR (Same.trans sW S7) (S7 _ _ hpW)), hg, Nat.le_succ_of_le lg, gok⟩
      | cons ac acc =>
        refine iteNF ?_
        walk_at "go"
        refine g_tyL w (S7 _ _ hpW) ?_
        walk_at "go"
        refine ⟨p5, rfl, ⟨_, SqL.of (w.get (s7 _ _ q6))⟩, ?_⟩
        refine lc_it (itf_list (xs := as'.map V.ref)) w (fun H e => SqL.of (e _ _ (s7 _ _ q6))) (by rw [sizeLine_eq, List.length_map]; omega) (fun i _ acc => acc = ((cs'.take i).map Col.name).map V.str) rfl ?_ ?_
        · rintro j y Gi acc2 D2 Hc Hd hj ej2 nD2 rfl ha2 wj ⟨rfl, hy⟩
          rw [List.getElem?_map] at hy
          obtain ⟨ca, hca, rfl⟩ := Option.map_eq_some_iff.mp hy
          obtain ⟨cc, hcc, hct2⟩ := Sw.Paired.atR hct hca
          have ht : SqT K (upd Gi D2 (.lst (((cs'.take j).map Col.name).map V.str))) ca (colTup cc) := Evl.ex_t (Same.trans (Same.trans SG S7) (Same.trans ej2 (Same.newG nD2))) hct2
          walk_at "go"
          refine ⟨rfl, ?_⟩
          walk_at "go"
          refine g_ixT wj ht (colTup1 cc) ?_
          refine lc_keep (Pv := fun i _ acc => acc = ((cs'.take i).map Col.name).map V.str) wj ej2 nD2 ha2 hj (by rw [sizeLine_eq, List.length_map]; omega) ?_
          rw [List.take_add_one, hcc]
          simp
        · rintro D2 Gn2 acc2 Hc ej2 nD2 rfl ha2 w
          rw [List.length_map, ← Sw.Paired.len hct, List.take_length] at w
          walk_at "go"
          refine ⟨D2, _, rfl, .inl ⟨SqL.of (w.get upd_same), fun tp htp => ?_⟩⟩
          have S8 : Same GW (upd Gn2 D2 (.lst ((cs'.map Col.name).map V.str))) := Same.trans S7 (Same.trans ej2 (Same.newG nD2))
          have n8 := w.free htp
          replace w := w.new (o := .tup ((cs'.map Col.name).map V.str)) htp
          have s8 : Same (upd Gn2 D2 (.lst ((cs'.map Col.name).map V.str))) (upd (upd Gn2 D2 (.lst ((cs'.map Col.name).map V.str))) tp (.tup ((cs'.map Col.name).map V.str))) := Same.newG n8
          have q8 : upd (upd Gn2 D2 (.lst ((cs'.map Col.name).map V.str))) tp (.tup ((cs'.map Col.name).map V.str)) tp = some (.tup ((cs'.map Col.name).map V.str)) := upd_same
          have S9 := Same.trans S8 s8
          have ntI : GI tp = none := Same.free (Same.trans sW S8) n8
          have dtp : tp ≠ p := (ne_of_none (S8 _ _ hpW) n8).symm
          generalize upd (upd Gn2 D2 (.lst ((cs'.map Col.name).map V.str))) tp (.tup ((cs'.map Col.name).map V.str)) = G9 at *
          walk_at "go"
          refine g_app w (S9 _ _ hpW) (by rw [sizeLine_eq]; omega) fun H9 w => ?_
          walk_at "go"
          refine ⟨_, _, upd GI tp (.tup ((cs'.map Col.name).map V.str)), us ++ [.ref tp], gs ++ [cs'.map Col.name], rfl, Same.trans e1 (Same.newG ntI), by rw [upd_ne dtp.symm]; exact npI, w.drop (Same.updR (Same.updR (Same.setL (Same.trans sW S9) npI) ?_) upd_same), Sw.Paired.app (hg.same (Same.newG ntI)) (.cons ⟨tp, rfl, SqT.of upd_same⟩ .nil), ?_, fun g hgm => ?_⟩
          · rw [upd_ne dtp]; exact q8
          · rw [List.length_append]; simp; omega
          · rcases List.mem_append.mp hgm with hgm | hgm
            · exact gok g hgm
            · rw [List.mem_singleton.mp hgm]
              refine ⟨by rw [List.length_map, Sw.Paired.len hct]; exact l3, fun n hnm => ?_⟩
              obtain ⟨cc, hcc, rfl⟩ := List.mem_map.mp hnm
              exact hn cc (hcm cc hcc)
  · rintro σ' H3 ⟨y3, y4, GI, us, gs, rfl, e1, npI, w, hg, lg, gok⟩
    walk_at "go"
    exact k p us gs _ H3 np (Same.trans e1 (Same.newG npI)) upd_same (hg.same (Same.newG npI)) (by omega) gok w
end
end Sv


set_option Elab.async false
set_option linter.all false
set_option maxRecDepth 100000
set_option maxHeartbeats 4000000
namespace Sw
open PySem PySem.Spec PyProof.Rows L2
/-! ### a class whose __init__ has a star parameter, made with plain arguments -/
theorem CalV.cal {P : Program} {w : World} {K : PySem.W.Frag} {mg : Str → Option Value} {base : Heap} {k n m : Nat} {f : Addr} {ks : List Str} {sp : SpC} (F : CalV P w K mg base k f n ks sp) (h : n ≤ m) : Cal P w K mg base k f m ks sp :=
  fun A outer s H us ws vs zs Q E hr e0 r rz l1 l2 hs => F A outer s H us ws vs zs Q E hr e0 r rz (by omega) l2 hs
theorem GMkV.mk' {P : Program} {w : World} {K : PySem.W.Frag} {mg : Str → Option Value} {base : Heap} {k n : Nat} {x : Str} {C : Addr} {ks : List Str} {sp : SpC} (G : GMkV P w K mg base k x C n ks sp) (m : Nat) (h : n ≤ m) : GMk P w K mg base k x C m ks sp := by
  obtain ⟨a, f, M, F⟩ := G
  exact ⟨a, f, M, F.cal (by omega)⟩
end Sw

set_option Elab.async false
set_option linter.all false
set_option maxRecDepth 100000
set_option maxHeartbeats 4000000
namespace Sw
open PySem PySem.Spec PyProof.Rows L2
/-! ### def f(a, .., *rest, k = default): called without its keyword-only ones -/
/-- t looks the names up in the dict at D, one behind another, and goes on as T -/
def KwTo {α : Type} (D : Addr) : List (Str × Value) → Sem α → Sem α → Prop
  | [], t, T => t = T
  | q :: l, t, T => ∃ (β γ : Type) (k1 : Option Value → Sem β) (k2 : β → Sem γ) (k3 : γ → Sem α) (a : β), t = ((nsGet D q.1 >>= k1) >>= k2) >>= k3 ∧ k1 (some q.2) = pure a ∧ KwTo D l (k2 a >>= k3) T
theorem KwTo.run {α : Type} {K : PySem.W.Frag} {M : Model} {D : Addr} {A : Around} {Q : α → Shared → Prop} {E : Value → Shared → Prop} {s : Shared} (X : K.In s.heap) {T : Sem α} (h : wpAny M A T Q E s) : ∀ {l : List (Str × Value)} {t : Sem α}, (∀ q ∈ l, PySem.W.nsIn K D q.1 = some (some q.2)) → KwTo D l t T → wpAny M A t Q E s
  | [], t, _, e => by
    have e' : t = T := e
    rw [e']
    exact h
  | q :: l, t, hl, e => by
    obtain ⟨β, γ, k1, k2, k3, a, e1, e2, e3⟩ := e
    have l1 : PySem.W.Looks M s.heap (nsGet D q.1 >>= k1) a := (PySem.W.looks_nsIn X (hl q (List.mem_cons_self ..))).andThen (PySem.W.Looks.of_pure e2)
    rw [e1, bind_assoc]
    exact wpAny_bind (l1 _ _ _ _ (fun _ _ e => e) (KwTo.run X h (fun p hp => hl p (List.mem_cons_of_mem _ hp)) e3))
section
variable {P : Program} {w : World} {K : PySem.W.Frag} {mg : Str → Option Value} {base : Heap} {k n : Nat} {f D : Addr} {name qual : Str} {params : Arguments} {body : List Stmt} {scope : Scope} {dV kV doc pm cdv ct oc : Value} {an od : Option Addr} {osl : Array (Option Value)} {N ps : List Str} {sp : Sp} {mz : List V} {mv : List Value} {l : List (Str × Value)}
theorem fn_starD (g : {α : Type} → List α → α → List α → List α) (grel : ∀ {ws : List V} {us : List Value} {t : V} {u : Value} {zs : List V} {vs : List Value}, Vals ws us → RelV t u → Vals zs vs → Vals (g ws t zs) (g us u vs)) (glen : ∀ {ws : List V} {t : V}, ws.length = n → (g ws t mz).length = ps.length)
    (lk : K.lookup f = some ⟨oc, od, .func (PySem.W.fnOf name qual params body scope dV kV doc pm an cdv ct), osl⟩) (hcd : PySem.W.codeIn K cdv qual = true) (S : FnScope N ps scope)
    (rm : Vals mz mv) (hl : ∀ q ∈ l, PySem.W.nsIn K D q.1 = some (some q.2))
    (hb : ∀ us rest : List Value, us.length = n → KwTo D l (bindArgs (PySem.W.fnOf name qual params body scope dV kV doc pm an cdv ct) ⟨us ++ rest, []⟩) (newTuple rest >>= fun t => pure (ps.zip (g us t mv))))
    (hbody : ∀ (A : Around) (outer : List Env) (s : Shared) (H : Hp) (vs : List V) (Q : VK) (E : XK), Room k (A.deeper (envOfC qual scope s.heap.objs.size f cdv)) →
      Takes (cxOf (L2.CX P w) P w K mg base N qual scope f cdv A outer s H E) (fun cls d _ H => E cls d H) →
      PassesOwn (model P w) (A.deeper (envOfC qual scope s.heap.objs.size f cdv)) (envOfC qual scope s.heap.objs.size f cdv) (cxOf (L2.CX P w) P w K mg base N qual scope f cdv A outer s H E).xe → sp vs H Q E →
      ∃ t, PSs (cxOf (L2.CX P w) P w K mg base N qual scope f cdv A outer s H E) body t ∧ t { nx := fun _ H' => Q .non H', rt := Q } (L2.start N vs) H) :
    CalV P w K mg base (k + 1) f n [] (fun vs _ H Q E => ∃ ws rest, vs = ws ++ rest ∧ ws.length = n ∧ rest.length ≤ sizeLine ∧ ∀ p, H p = none → sp (g ws (V.ref p) mz) (upd H p (.tup rest)) Q E) := by
  intro A outer s H us ws0 vs zs Q E hr e0 r rz _ l2 hsp
  obtain ⟨ws, rest, ev, hl0, hz, hq⟩ := hsp
  subst ev
  obtain ⟨u1, u2, eu, r1, r2⟩ := StX.vals_split r
  subst eu
  have hn : H s.heap.objs.size = Option.none := e0.hok.fresh (Nat.le_refl _)
  have hl1 : u1.length = n := by rw [← r1.length]; exact hl0
  have hl2 : u2.length ≤ sizeLine := by rw [← r2.length]; exact hz
  have KX : K.In s.heap := e0.mod.kin.keeps fun b o e => (e0.bs b o e).1
  have ez : ([] : List Str).zip ws0 = [] := List.zip_nil_left
  refine StX.run_bnd lk hcd S hr e0 (G := fun xs H2 => ∃ p, H p = Option.none ∧ xs = g ws (V.ref p) mz ∧ H2 = upd H p (.tup rest)) (fun A' Ex Q' h => ?_) fun s2 H2 xs ⟨p, hp, ex, eH⟩ hr' => ?_
  · rw [ez]
    refine KwTo.run KX ?_ hl (hb u1 u2 hl1)
    refine wpAny_bind (wpAny_newTuple (wpAny_pure ?_) hl2)
    have new : ObjOk P w (upd H s.heap.objs.size (.tup rest)) (s.heap.push ({ cls := .type "tuple", data := .seq u2.toArray } : Obj)) s.heap.objs.size (.tup rest) := ⟨hz, u2, r2, ⟨_, Heap.get?_push_size _ rfl, rfl, _, rfl⟩⟩
    have un := StX.un_laid (fs := frs outer) (s := s) (o := ({ cls := .type "tuple", data := .seq u2.toArray } : Obj)) (u := .tup rest) hn
    exact h _ _ (g ws (V.ref s.heap.objs.size) mz) (g u1 (Value.ref s.heap.objs.size) mv) (StX.env0_laid e0 new) un rfl (fun e s' => StX.cxUp outer s H _ _ E e s' un (fun b o q => Heap.get?_push_of_some _ q) rfl) (grel r1 rfl rm) (glen hl0) ⟨_, hn, rfl, rfl⟩
  · subst ex eH
    exact hbody A outer s2 _ _ Q E hr' (takes_of rfl rfl rfl rfl) (passes_of (X := cxOf (L2.CX P w) P w K mg base N qual scope f cdv A outer s2 (upd H p (.tup rest)) E) rfl) (hq p hp)
end
end Sw

set_option Elab.async false
set_option linter.all false
set_option maxRecDepth 100000
set_option maxHeartbeats 4000000
namespace Sv
open PySem PySem.Spec PyProof.Rows L2 Sw
local macro_rules | `(tactic| walk_at "go1") => `(tactic| first
  | ((with_reducible refine' g_var ?hv ?_); (case hv => rfl))
  | with_reducible refine g_c ?_
  | with_reducible refine g_op ?_
  | with_reducible refine g_un ?_
  | with_reducible refine g_seq ?_
  | with_reducible refine g_next ?_
  | with_reducible refine g_asg ?_
  | with_reducible refine g_name ?_
  | with_reducible refine g_drop ?_
  | with_reducible refine g_sub ?_
  | with_reducible refine g_ret ?_
  | with_reducible refine g_retN ?_
  | with_reducible refine g_ifS ?_
  | with_reducible refine g_if ?_
  | with_reducible refine g_test ?_
  | with_reducible refine g_bl ?_
  | with_reducible refine g_cons ?_
  | with_reducible refine g_nil ?_
  | with_reducible refine g_and ?_
  | with_reducible refine g_or ?_
  | with_reducible refine g_not ?_
  | with_reducible refine g_callB ?_
  | with_reducible refine g_addI ?_
  | with_reducible refine g_I0 ?_
  | with_reducible refine g_calG ?_
  | with_reducible refine g_mkG ?_
  | with_reducible refine g_tup ?_
  | with_reducible refine g_pairs1 ?_
  | with_reducible refine g_pairs0 ?_
  | with_reducible refine g_dget ?_
  | with_reducible refine g_lvals ?_
  | with_reducible refine g_forT ?_
  | with_reducible refine g_lcT ?_
  | with_reducible refine g_dput ?_
  | with_reducible refine g_lc2L ?_
  | with_reducible refine g_iList ?_
  | with_reducible refine g_lcX ?_
  | with_reducible refine g_js1 ?_
  | with_reducible refine g_js0 ?_
  | with_reducible refine g_fmt ?_
  | with_reducible refine g_tLenSet ?_
  | with_reducible refine g_mkV ?_
  | with_reducible refine g_mkV1 ?_
  | with_reducible refine g_lst ?_
  | with_reducible refine g_forL ?_
  | with_reducible refine g_forR ?_
  | with_reducible refine g_forR2 ?_
  | with_reducible refine g_forS ?_
  | with_reducible refine g_forE ?_
  | with_reducible refine g_forEB ?_
  | with_reducible refine g_lcL ?_
  | with_reducible refine g_lcR ?_
  | with_reducible refine g_lcS ?_
  | with_reducible refine g_lcE ?_
  | with_reducible refine g_lcEB ?_
  | with_reducible refine g_orT ?_
  | with_reducible refine g_slc ?_
  | with_reducible refine g_noPart ?_
  | with_reducible refine g_part ?_
  | with_reducible refine g_bm ?_
  | with_reducible refine g_par ?_
  | with_reducible refine g_yes ?_
  | with_reducible refine g_tupG ?_
  | with_reducible refine g_lstG ?_
  | with_reducible refine g_gcons ?_
  | with_reducible refine g_gnil ?_
  | with_reducible refine g_chain ?_
  | with_reducible refine g_truB ?_
  | with_reducible refine g_truN ?_
  | with_reducible refine g_truI ?_
  | with_reducible refine g_m1 ?_
  | with_reducible refine g_fld ?_
  | with_reducible refine g_con ?_
  | with_reducible refine g_tru ?_
  | with_reducible refine g_U ?_
  | with_reducible refine g_xg ?_
  | with_reducible refine g_andT ?_
  | with_reducible refine g_exI ?_
  | with_reducible refine g_dnew ?_
  | with_reducible refine g_intB ?_
  | with_reducible refine g_meth ?_
  | with_reducible refine g_prop ?_
  | with_reducible refine g_exc1 ?_
  | with_reducible refine g_setF ?_
  | with_reducible refine g_star ?_
  | with_reducible refine g_strM ?_
  | with_reducible refine iteT ?_
  | with_reducible refine iteF ?_
  | with_reducible refine iteNT ?_
  | with_reducible refine iteNF ?_)
local macro_rules | `(tactic| walk_at "go") => `(tactic| repeat (walk_at "go1"))
local macro_rules | `(tactic| walk_at "sz") => `(tactic| (first | (rw [sizeLine_eq]; simp only [List.length_cons, List.length_nil, List.length_map, List.length_append, List.length_take]; omega) | (rw [sizeLine_eq]; omega)))
/-! ### making tables -/
def spTabV (K : PySem.W.Frag) (A : Ad) : SpC := fun vs zs H Q E => ∃ ws rest, vs = ws ++ rest ∧ ws.length = 2 ∧ rest.length ≤ sizeLine ∧ ∀ p, H p = none → spTabInit K A (ws ++ zs ++ [V.ref p]) (upd H p (.tup rest)) Q E
theorem XQ.up {G G1 : Hp} {R : Res} {C : Addr} {fld : Str} {v : V} {E : XK} (k : XQ G R C fld v E) (e : Same G G1) : XQ G1 R C fld v E :=
  fun G' d H' s n h w => k G' d H' (Same.trans e s) (Same.free e n) h w
/-- a table just made: its list of groups is new -/
def TabW (A : Ad) (G G' : Hp) (a : Addr) (nm : V) (cs : List Col) (us : List V) : Prop := ∃ dx d gl as, G' a = some (.ins A.Table dx (tabFs nm d gl)) ∧ G' d = some (.dK (colKvs cs as)) ∧ ColsAt A G' cs as ∧ G' gl = some (.lst us) ∧ G gl = none
theorem TabW.up {A : Ad} {G0 G G' : Hp} {a : Addr} {nm : V} {cs : List Col} {us : List V} (h : TabW A G G' a nm cs us) (e : Same G0 G) : TabW A G0 G' a nm cs us := by
  obtain ⟨dx, d, gl, as, h1, h2, h3, h4, h5⟩ := h
  exact ⟨dx, d, gl, as, h1, h2, h3, h4, Same.free e h5⟩
def TbR (A : Ad) (G : Hp) (R : Res) (Q : VK) (E : XK) (v : V) (b : Bool) (cs : List Col) (os : List (Option (List Str))) (us : List V) : Prop := match tabRes b cs os with
  | .name => XQ G R A.InvalidName "name" v E
  | .col o => XQ G R A.InvalidColumn "name" (optV o) E
  | .grp i => XQ G R A.InvalidGroup "index" (.int (i : Nat)) E
  | .ok => ∀ x G' H', Same G G' → G x = none → TabW A G G' x v cs us → Wd G' R H' → Q (.ref x) H'
theorem TbR.up {A : Ad} {G G1 : Hp} {R : Res} {Q : VK} {E : XK} {v : V} {b : Bool} {cs : List Col} {os : List (Option (List Str))} {us : List V} (k : TbR A G R Q E v b cs os us) (e : Same G G1) : TbR A G1 R Q E v b cs os us := by
  unfold TbR at k ⊢
  cases h : tabRes b cs os with
  | name => rw [h] at k; exact XQ.up k e
  | col o => rw [h] at k; exact XQ.up k e
  | grp i => rw [h] at k; exact XQ.up k e
  | ok => rw [h] at k; exact fun x G' H' s n h w => k x G' H' (Same.trans e s) (Same.free e n) (h.up e) w
theorem pair_same {K : PySem.W.Frag} {G G' : Hp} {us : List V} {os : List (Option (List Str))} (h : Paired (fun u o => GrpV K G u o) us os) (e : Same G G') : Paired (fun u o => GrpV K G' u o) us os := Sw.Paired.imp (fun _ _ x => x.same e) h
theorem mk_tab {K : PySem.W.Frag} {A : Ad} {G H : Hp} {R : Res} {v : V} {b t : Bool} {cs : List Col} {os : List (Option (List Str))} {as : List Addr} {us : List V} {q : Addr} {Q : VK} {E : XK} (w : Wd G R H) (hn : Nmb K G v b) (hc : ColsAt A G cs as) (hq : SqB t K G q us) (hu : Paired (fun u o => GrpV K G u o) us os)
    (la : as.length ≤ 1000) (lu : us.length ≤ 1000) (k : TbR A G R Q E v b cs os us) : MkI (spTabV K A) A.Table (v :: as.map V.ref) [.ref q] H Q E := fun x dx hx hdx hne => by
  refine ⟨[.ref x, v], as.map V.ref, rfl, rfl, by rw [List.length_map, sizeLine_eq]; omega, fun p hp => ?_⟩
  have w1 := w.new (o := .own x) hdx
  have hx1 : upd H dx (.own x) x = none := by rw [upd_ne hne.symm]; exact hx
  have w2 := w1.new (o := .ins A.Table dx []) hx1
  have w3 := w2.new (o := .tup (as.map V.ref)) hp
  obtain ⟨p1, p2⟩ := upd_nonne (w2.free hp)
  rw [upd_comm p2] at w3
  have S1 : Same G (upd G dx (.own x)) := Same.newG (w.free hdx)
  have S2 : Same G (upd (upd G dx (.own x)) p (.tup (as.map V.ref))) := Same.trans S1 (Same.newG p1)
  have nx2 : upd (upd G dx (.own x)) p (.tup (as.map V.ref)) x = none := by rw [upd_ne p2.symm]; exact w1.free hx1
  refine ⟨_, R, x, dx, v, b, p, q, cs, as, us, os, t, rfl, nx2, w3, SqT.of upd_same, hc.same S2, hn.same S2, hq.ex S2, pair_same hu S2, la, lu, ?_⟩
  unfold TbR at k
  cases e : tabRes b cs os with
  | name => rw [e] at k; exact XQ.up k S2
  | col o => rw [e] at k; exact XQ.up k S2
  | grp i => rw [e] at k; exact XQ.up k S2
  | ok =>
    rw [e] at k
    exact fun d gl' G' H' f1 f2 s h1 h2 h3 w' => ⟨rfl, k x G' H' (Same.trans S2 s) (w.free hx) ⟨dx, d, gl', as, h1, h2, (hc.same S2).same s, h3, Same.free S2 f2⟩ w'⟩
/-- Table(name): its groups are the default -/
def spTabV0 (K : PySem.W.Frag) (A : Ad) (q : Addr) : SpC := fun vs zs H Q E => ∃ ws rest, vs = ws ++ rest ∧ ws.length = 2 ∧ rest.length ≤ sizeLine ∧ ∀ p, H p = none → spTabInit K A (ws ++ [V.ref q] ++ [V.ref p]) (upd H p (.tup rest)) Q E
theorem mk_tab0 {K : PySem.W.Frag} {A : Ad} {G H : Hp} {R : Res} {v : V} {b : Bool} {q : Addr} {Q : VK} {E : XK} (w : Wd G R H) (hn : Nmb K G v b) (hq : ∀ G, SqT K G q []) (k : TbR A G R Q E v b [] [] []) : MkI (spTabV0 K A q) A.Table [v] [] H Q E := fun x dx hx hdx hne => by
  refine ⟨[.ref x, v], [], rfl, rfl, Nat.zero_le _, fun p hp => ?_⟩
  have w1 := w.new (o := .own x) hdx
  have hx1 : upd H dx (.own x) x = none := by rw [upd_ne hne.symm]; exact hx
  have w2 := w1.new (o := .ins A.Table dx []) hx1
  have w3 := w2.new (o := .tup []) hp
  obtain ⟨p1, p2⟩ := upd_nonne (w2.free hp)
  rw [upd_comm p2] at w3
  have S1 : Same G (upd G dx (.own x)) := Same.newG (w.free hdx)
  have S2 : Same G (upd (upd G dx (.own x)) p (.tup [])) := Same.trans S1 (Same.newG p1)
  have nx2 : upd (upd G dx (.own x)) p (.tup []) x = none := by rw [upd_ne p2.symm]; exact w1.free hx1
  refine ⟨_, R, x, dx, v, b, p, q, [], [], [], [], true, rfl, nx2, w3, SqT.of upd_same, .nil, hn.same S2, hq _, .nil, Nat.zero_le _, Nat.zero_le _, ?_⟩
  unfold TbR at k
  cases e : tabRes b ([] : List Col) [] with
  | name => rw [e] at k; exact XQ.up k S2
  | col o => rw [e] at k; exact XQ.up k S2
  | grp i => rw [e] at k; exact XQ.up k S2
  | ok =>
    rw [e] at k
    exact fun d gl' G' H' f1 f2 s h1 h2 h3 w' => ⟨rfl, k x G' H' (Same.trans S2 s) (w.free hx) ⟨dx, d, gl', [], h1, h2, .nil, h3, Same.free S2 f2⟩ w'⟩
theorem ruleOk_of {c : Col} (h : c.ok) (r : c.k = .ref) : ruleOk c.rule c.opt = true := (h.2 r).2
theorem ints_ne {n m : Nat} (h : n ≠ m) : decide (V.int (n : Int) = V.int (m : Int)) = false := decide_eq_false fun z => h (by have := V.int.inj z; omega)
section
variable {P : Program} {wo : World} {A : Ad} {K : PySem.W.Frag} {mg : Str → Option Value} {base : Heap}
/-! ### _law_made -/
def spMade (K : PySem.W.Frag) (A : Ad) : Sp := fun vs H Q _ => ∃ G R p c, vs = [.ref p] ∧ Wd G R H ∧ SqT K G p (colTup c) ∧ c.ok ∧ ∀ x G' H', Same G G' → G x = none → ColAt A G' x c → Wd G' R H' → Q (.ref x) H'
theorem sc__law_made : FnScope (["_law_column_here", "_law_kind", "_law_name", "_law_target", "_law_empty", "_law_law_rule"] : List Str) (["_law_column_here"] : List Str) (defScope s__law_made) := ⟨rfl, rfl, rfl, by decide +kernel, rfl, by decide +kernel, by decide +kernel⟩
theorem ok_made {f : Addr} {fd : FuncData} (F : Fun K "_law_made" "_law_made" s__law_made f fd) (T : Txt K mg A) (CF : ColF K A)
    (MR : GMk P wo K mg base 4 "RefColumn" A.RefColumn 2 ["optional", "rule"] (fun vs zs => spRefInit K A (vs ++ zs)))
    (MI : GMk P wo K mg base 4 "IntColumn" A.IntColumn 1 ["optional"] (fun vs zs => spColInit K A (vs ++ zs)))
    (MT : GMk P wo K mg base 4 "TextColumn" A.TextColumn 1 ["optional"] (fun vs zs => spColInit K A (vs ++ zs))) : FnOk P wo K mg base (L2.CX P wo) 6 f fd (["_law_column_here"] : List Str) (spMade K A) := by
  refine okT F sc__law_made (fun vs H Q E h => ?_) (fun cdv Ar outer s H vs Q E hr tk po h => ?_)
  · obtain ⟨_, _, _, _, rfl, _⟩ := h
    rfl
  obtain ⟨G, R, p, c, rfl, w, hp, ok, k⟩ := h
  refine ⟨_, (pss_cons (ps_asg (pv 0) (kg_tup (n := 5) K rfl (pgs_cons (pg_name (i := 1) sc__law_made.nd rfl (by first | exact Or.inl rfl | exact Or.inr rfl)) (pgs_cons (pg_name (i := 2) sc__law_made.nd rfl (by first | exact Or.inl rfl | exact Or.inr rfl)) (pgs_cons (pg_name (i := 3) sc__law_made.nd rfl (by first | exact Or.inl rfl | exact Or.inr rfl)) (pgs_cons (pg_name (i := 4) sc__law_made.nd rfl (by first | exact Or.inl rfl | exact Or.inr rfl)) (pgs_cons (pg_name (i := 5) sc__law_made.nd rfl (by first | exact Or.inl rfl | exact Or.inr rfl)) pgs_nil)))))))
      (pss_cons (ps_if (pt_cmpR (ka_eq K hr.units) (pv 1) pe_str (nomark _)) (pss_one (ps_ret (pe_makeG MI (hr.mono (by decide)) tk (pa_cons (pv 2) pa_nil) (pk_cons (pv 4) pk_nil)))) pss_nil)
      (pss_cons (ps_if (pt_cmpR (ka_eq K hr.units) (pv 1) pe_str (nomark _)) (pss_one (ps_ret (pe_makeG MT (hr.mono (by decide)) tk (pa_cons (pv 2) pa_nil) (pk_cons (pv 4) pk_nil)))) pss_nil)
      (pss_one (ps_ret (pe_makeG MR (hr.mono (by decide)) tk (pa_cons (pv 2) (pa_cons (pv 3) pa_nil)) (pk_cons (pv 4) (pk_cons (pv 5) pk_nil)))))))), ?_⟩
  have l1 : c.name.length ≤ 1000000 := Nat.le_trans (isNm_len ok.1) (by decide)
  walk_at "go"
  refine ⟨p, _, rfl, Evl.ex_t w.sub hp, rfl, ?_⟩
  unfold colTup
  walk_at "go"
  refine g_eqS rfl ?_
  walk_at "go"
  have new : ∀ (C x dx : Addr), H x = none → H dx = none → dx ≠ x → G x = none ∧ Wd (upd (upd G dx (.own x)) x (.ins C dx [])) R (upd (upd H dx (.own x)) x (.ins C dx [])) ∧ ∀ fs, Same G (upd (upd G dx (.own x)) x (.ins C dx fs)) := fun C x dx hx hdx hne => by
    have nx := w.free hx
    have ndx := w.free hdx
    have nx2 : upd G dx (.own x) x = none := by rw [upd_ne (Ne.symm hne)]; exact nx
    exact ⟨nx, (w.new (o := .own x) hdx).new (o := .ins C dx []) (show upd _ dx _ x = none by rw [upd_ne (Ne.symm hne)]; exact hx), fun fs => Same.trans (Same.newG ndx) (Same.newG nx2)⟩
  have isn : ∀ {G' : Hp}, Nmb K G' (.str c.name) true := fun {G'} => .inl ⟨c.name, rfl, l1, ok.1.symm⟩
  obtain ⟨kd, nm, o, tg, ru⟩ := c
  cases kd with
  | int =>
    rw [decide_eq_true (show V.str (kstr Kd.int) = V.str "int" from rfl)]
    walk_at "go"
    refine ⟨rfl, rfl, fun x dx hx hdx hne => ?_⟩
    obtain ⟨nx, w3, sm⟩ := new A.IntColumn x dx hx hdx hne
    refine ⟨_, R, x, _, dx, .str nm, o, true, rfl, w3, upd_same, CF.cls .int, CF.na .int, CF.no .int, isn, fun e1 H3 w4 => ?_, fun e1 => nomatch e1⟩
    rw [upd_upd] at w4
    exact ⟨rfl, k x _ _ (sm _) nx ⟨dx, upd_same⟩ w4⟩
  | text =>
    rw [decide_eq_false (show ¬ (V.str (kstr Kd.text) = V.str "int") from fun z => absurd (V.str.inj z) (by decide +kernel))]
    walk_at "go"
    refine g_eqS rfl ?_
    rw [decide_eq_true (show V.str (kstr Kd.text) = V.str "text" from rfl)]
    walk_at "go"
    refine ⟨rfl, rfl, fun x dx hx hdx hne => ?_⟩
    obtain ⟨nx, w3, sm⟩ := new A.TextColumn x dx hx hdx hne
    refine ⟨_, R, x, _, dx, .str nm, o, true, rfl, w3, upd_same, CF.cls .text, CF.na .text, CF.no .text, isn, fun e1 H3 w4 => ?_, fun e1 => nomatch e1⟩
    rw [upd_upd] at w4
    exact ⟨rfl, k x _ _ (sm _) nx ⟨dx, upd_same⟩ w4⟩
  | ref =>
    rw [decide_eq_false (show ¬ (V.str (kstr Kd.ref) = V.str "int") from fun z => absurd (V.str.inj z) (by decide +kernel))]
    walk_at "go"
    refine g_eqS rfl ?_
    rw [decide_eq_false (show ¬ (V.str (kstr Kd.ref) = V.str "text") from fun z => absurd (V.str.inj z) (by decide +kernel))]
    walk_at "go"
    obtain ⟨t1, t2⟩ := ok.2 rfl
    refine ⟨rfl, rfl, fun x dx hx hdx hne => ?_⟩
    obtain ⟨nx, w3, sm⟩ := new A.RefColumn x dx hx hdx hne
    refine ⟨_, R, x, dx, .str nm, .str tg, o, .str ru, true, true, true, rfl, w3, upd_same, isn, .inl ⟨tg, rfl, Nat.le_trans (isNm_len t1) (by decide), t1.symm⟩, .inl ⟨ru, rfl, t2.symm⟩, fun e1 e2 e3 H3 w4 => ?_, fun e1 => (nomatch e1), fun _ e2 => (nomatch e2), fun _ _ e3 => (nomatch e3)⟩
    rw [upd_upd] at w4
    exact ⟨rfl, k x _ _ (sm _) nx ⟨dx, upd_same⟩ w4⟩
/-! ### _law_table -/
def spLTab (K : PySem.W.Frag) (A : Ad) : Sp := fun vs H Q E => ∃ G R v b cl q t cs as us os, vs = [v, .ref cl, .ref q] ∧ Wd G R H ∧ G cl = some (.lst (as.map V.ref)) ∧ CTs K G cs as ∧ SqB t K G q us ∧ Paired (fun u o => GrpV K G u o) us os ∧ Nmb K G v b ∧ (∀ c ∈ cs, c.ok) ∧ 1 ≤ as.length ∧ as.length ≤ 6 ∧ us.length ≤ 3 ∧ TbR A G R Q E v b cs os us
theorem sc__law_table : FnScope (["_law_name", "_law_columns", "_law_groups_here", "_law_made_here", "_law_column_here"] : List Str) (["_law_name", "_law_columns", "_law_groups_here"] : List Str) (defScope s__law_table) := ⟨rfl, rfl, rfl, by decide +kernel, rfl, by decide +kernel, by decide +kernel⟩
theorem ok_ltab {f : Addr} {fd : FuncData} (F : Fun K "_law_table" "_law_table" s__law_table f fd) (T : Txt K mg A) (Glm : GFn P wo K mg base 6 "_law_made" 1 [] (fun vs _ => spMade K A vs)) (MTb : GMkV P wo K mg base 4 "Table" A.Table 1 ["unique"] (spTabV K A)) : FnOk P wo K mg base (L2.CX P wo) 7 f fd (["_law_name", "_law_columns", "_law_groups_here"] : List Str) (spLTab K A) := by
  refine okT F sc__law_table (fun vs H Q E h => ?_) (fun cdv Ar outer s H vs Q E hr tk po h => ?_)
  · obtain ⟨_, _, _, _, _, _, _, _, _, _, _, rfl, _⟩ := h
    rfl
  obtain ⟨G, R, v, b, cl, q, tb, cs, as, us, os, rfl, w, hcl, hct, hq, hgr, hn, hco, las1, las, lus, k⟩ := h
  refine ⟨_, (pss_cons (ps_setLc (i := 3) (own := [("_law_column_here", 4)]) (g := (gName 4)) (tt := tYes) rfl sc__law_table.nd rfl rfl (sw_true rfl rfl rfl (by decide +kernel)) (ki_list K (pv 1)) (blkOk_by (N := (["_law_name", "_law_columns", "_law_groups_here", "_law_made_here", "_law_column_here"] : List Str)) (sc := defScope s__law_table) (by decide +kernel)) (fun _ _ _ _ _ => (pg_name (i := 4) sc__law_table.nd rfl (by first | exact Or.inl rfl | exact Or.inr rfl))) (fun _ _ _ _ _ => pts_nil) (fun _ _ _ _ _ => (pe_callG Glm (hr.mono (by decide)) takes0 (pa_cons (pv 4) pa_nil) pk_nil)))
      (pss_cons (ps_if (pt_cmpR (ka_eq K hr.units) (pe_callB (ka_len K) (by rfl) T.nb_len (by decide +kernel) (pa_cons (pv 3) pa_nil)) pe_int (nomark _)) (pss_one (ps_ret (pe_makeG (GMkV.mk' MTb 2 (by decide)) (hr.mono (by decide)) tk (pa_cons (pv 0) (pa_cons (pe_ix (ka_ix K) (pv 3) pe_int (fun _ _ => rfl)) pa_nil)) (pk_cons (pv 2) pk_nil)))) pss_nil)
      (pss_cons (ps_if (pt_cmpR (ka_eq K hr.units) (pe_callB (ka_len K) (by rfl) T.nb_len (by decide +kernel) (pa_cons (pv 3) pa_nil)) pe_int (nomark _)) (pss_one (ps_ret (pe_makeG (GMkV.mk' MTb 3 (by decide)) (hr.mono (by decide)) tk (pa_cons (pv 0) (pa_cons (pe_ix (ka_ix K) (pv 3) pe_int (fun _ _ => rfl)) (pa_cons (pe_ix (ka_ix K) (pv 3) pe_int (fun _ _ => rfl)) pa_nil))) (pk_cons (pv 2) pk_nil)))) pss_nil)
      (pss_cons (ps_if (pt_cmpR (ka_eq K hr.units) (pe_callB (ka_len K) (by rfl) T.nb_len (by decide +kernel) (pa_cons (pv 3) pa_nil)) pe_int (nomark _)) (pss_one (ps_ret (pe_makeG (GMkV.mk' MTb 4 (by decide)) (hr.mono (by decide)) tk (pa_cons (pv 0) (pa_cons (pe_ix (ka_ix K) (pv 3) pe_int (fun _ _ => rfl)) (pa_cons (pe_ix (ka_ix K) (pv 3) pe_int (fun _ _ => rfl)) (pa_cons (pe_ix (ka_ix K) (pv 3) pe_int (fun _ _ => rfl)) pa_nil)))) (pk_cons (pv 2) pk_nil)))) pss_nil)
      (pss_cons (ps_if (pt_cmpR (ka_eq K hr.units) (pe_callB (ka_len K) (by rfl) T.nb_len (by decide +kernel) (pa_cons (pv 3) pa_nil)) pe_int (nomark _)) (pss_one (ps_ret (pe_makeG (GMkV.mk' MTb 5 (by decide)) (hr.mono (by decide)) tk (pa_cons (pv 0) (pa_cons (pe_ix (ka_ix K) (pv 3) pe_int (fun _ _ => rfl)) (pa_cons (pe_ix (ka_ix K) (pv 3) pe_int (fun _ _ => rfl)) (pa_cons (pe_ix (ka_ix K) (pv 3) pe_int (fun _ _ => rfl)) (pa_cons (pe_ix (ka_ix K) (pv 3) pe_int (fun _ _ => rfl)) pa_nil))))) (pk_cons (pv 2) pk_nil)))) pss_nil)
      (pss_cons (ps_if (pt_cmpR (ka_eq K hr.units) (pe_callB (ka_len K) (by rfl) T.nb_len (by decide +kernel) (pa_cons (pv 3) pa_nil)) pe_int (nomark _)) (pss_one (ps_ret (pe_makeG (GMkV.mk' MTb 6 (by decide)) (hr.mono (by decide)) tk (pa_cons (pv 0) (pa_cons (pe_ix (ka_ix K) (pv 3) pe_int (fun _ _ => rfl)) (pa_cons (pe_ix (ka_ix K) (pv 3) pe_int (fun _ _ => rfl)) (pa_cons (pe_ix (ka_ix K) (pv 3) pe_int (fun _ _ => rfl)) (pa_cons (pe_ix (ka_ix K) (pv 3) pe_int (fun _ _ => rfl)) (pa_cons (pe_ix (ka_ix K) (pv 3) pe_int (fun _ _ => rfl)) pa_nil)))))) (pk_cons (pv 2) pk_nil)))) pss_nil)
      (pss_one (ps_ret (pe_makeG (GMkV.mk' MTb 7 (by decide)) (hr.mono (by decide)) tk (pa_cons (pv 0) (pa_cons (pe_ix (ka_ix K) (pv 3) pe_int (fun _ _ => rfl)) (pa_cons (pe_ix (ka_ix K) (pv 3) pe_int (fun _ _ => rfl)) (pa_cons (pe_ix (ka_ix K) (pv 3) pe_int (fun _ _ => rfl)) (pa_cons (pe_ix (ka_ix K) (pv 3) pe_int (fun _ _ => rfl)) (pa_cons (pe_ix (ka_ix K) (pv 3) pe_int (fun _ _ => rfl)) (pa_cons (pe_ix (ka_ix K) (pv 3) pe_int (fun _ _ => rfl)) pa_nil))))))) (pk_cons (pv 2) pk_nil)))))))))), ?_⟩
  walk_at "go"
  refine ⟨cl, rfl, ⟨_, SqL.of (w.get hcl)⟩, ?_⟩
  refine lc_it (itf_list (xs := as.map V.ref)) w (fun H e => SqL.of (e _ _ hcl)) (by rw [sizeLine_eq, List.length_map]; omega) (fun i Gi acc => ∃ ms, acc = ms.map V.ref ∧ ColsAt A Gi (cs.take i) ms) ⟨[], rfl, .nil⟩ ?_ ?_
  · rintro j y Gi acc D Ha Hb hj ej nD ⟨ms, rfl, hms⟩ ha wj ⟨rfl, hy⟩
    rw [List.getElem?_map] at hy
    obtain ⟨ca, hca, rfl⟩ := Option.map_eq_some_iff.mp hy
    obtain ⟨cc, hcc, hct2⟩ := Sw.Paired.atR hct hca
    walk_at "go"
    refine ⟨rfl, ?_⟩
    walk_at "go"
    refine ⟨rfl, rfl, _, R, ca, cc, rfl, wj, Evl.ex_t (Same.trans ej (Same.newG nD)) hct2, hco cc (List.mem_of_getElem? hcc), fun x G' Hc s8 nx hx w8 => ?_⟩
    obtain ⟨Gm, em, nm, am, wm⟩ := Wd.apart s8 nD w8
    have hxD : x ≠ D := (ne_of_none upd_same nx).symm
    refine lc_keep (Pv := fun i Gi acc => ∃ ms, acc = ms.map V.ref ∧ ColsAt A Gi (cs.take i) ms) wm (Same.trans ej em) nm ha hj (by rw [sizeLine_eq, List.length_map]; omega) ⟨ms ++ [x], by rw [List.map_append]; rfl, ?_⟩
    rw [List.take_add_one, hcc]
    obtain ⟨dx, hx⟩ := hx
    exact Sw.Paired.app (hms.same em) (.cons ⟨dx, by rw [am x hxD]; exact hx⟩ .nil)
  rintro D Gn acc Ha ej nD ⟨ms, rfl, hms⟩ ha w
  rw [List.length_map, ← Sw.Paired.len hct, List.take_length] at hms
  have sD : Same G (upd Gn D (.lst (ms.map V.ref))) := Same.trans ej (Same.newG nD)
  have hD : upd Gn D (.lst (ms.map V.ref)) D = some (.lst (ms.map V.ref)) := upd_same
  replace hms := hms.same (Same.newG nD (o := .lst (ms.map V.ref)))
  have lms : ms.length = as.length := by rw [← Sw.Paired.len hms, Sw.Paired.len hct]
  generalize upd Gn D (.lst (ms.map V.ref)) = G1 at *
  have fin : ∀ {Q' : VK} {E' : XK}, Q' = Q → E' = E → MkI (spTabV K A) A.Table (v :: ms.map V.ref) [.ref q] Ha Q' E' := fun {Q' E'} e1 e2 => by
    subst e1 e2
    exact mk_tab w (hn.same sD) hms (hq.ex sD) (pair_same hgr sD) (by omega) (by omega) (TbR.up k sD)
  walk_at "go"
  rw [← lms] at las las1
  match ms, las1, las with
  | [x0], _, _ =>
    refine g_lenL w (SqL.of hD) ?_
    rw [show (List.map V.ref [x0]).length = 1 from rfl]
    walk_at "go"
    refine g_eqS rfl ?_
    rw [decide_eq_true (show V.int ((1 : Nat) : Int) = V.int 1 from rfl)]
    walk_at "go"
    refine g_ixL w (SqL.of hD) (v := .ref x0) rfl ?_
    walk_at "go"
    exact ⟨rfl, rfl, fin rfl rfl⟩
  | [x0, x1], _, _ =>
    refine g_lenL w (SqL.of hD) ?_
    rw [show (List.map V.ref [x0, x1]).length = 2 from rfl]
    walk_at "go"
    refine g_eqS rfl ?_
    rw [show decide (V.int ((2 : Nat) : Int) = V.int 1) = false from ints_ne (by decide)]
    walk_at "go"
    refine g_lenL w (SqL.of hD) ?_
    rw [show (List.map V.ref [x0, x1]).length = 2 from rfl]
    walk_at "go"
    refine g_eqS rfl ?_
    rw [decide_eq_true (show V.int ((2 : Nat) : Int) = V.int 2 from rfl)]
    walk_at "go"
    refine g_ixL w (SqL.of hD) (v := .ref x0) rfl ?_
    walk_at "go"
    refine g_ixL w (SqL.of hD) (v := .ref x1) rfl ?_
    walk_at "go"
    exact ⟨rfl, rfl, fin rfl rfl⟩
  | [x0, x1, x2], _, _ =>
    refine g_lenL w (SqL.of hD) ?_
    rw [show (List.map V.ref [x0, x1, x2]).length = 3 from rfl]
    walk_at "go"
    refine g_eqS rfl ?_
    rw [show decide (V.int ((3 : Nat) : Int) = V.int 1) = false from ints_ne (by decide)]
    walk_at "go"
    refine g_lenL w (SqL.of hD) ?_
    rw [show (List.map V.ref [x0, x1, x2]).length = 3 from rfl]
    walk_at "go"
    refine g_eqS rfl ?_
    rw [show decide (V.int ((3 : Nat) : Int) = V.int 2) = false from ints_ne (by decide)]
    walk_at "go"
    refine g_lenL w (SqL.of hD) ?_
    rw [show (List.map V.ref [x0, x1, x2]).length = 3 from rfl]
    walk_at "go"
    refine g_eqS rfl ?_
    rw [decide_eq_true (show V.int ((3 : Nat) : Int) = V.int 3 from rfl)]
    walk_at "go"
    refine g_ixL w (SqL.of hD) (v := .ref x0) rfl ?_
    walk_at "go"
    refine g_ixL w (SqL.of hD) (v := .ref x1) rfl ?_
    walk_at "go"
    refine g_ixL w (SqL.of hD) (v := .ref x2) rfl ?_
    walk_at "go"
    exact ⟨rfl, rfl, fin rfl rfl⟩
  | [x0, x1, x2, x3], _, _ =>
    refine g_lenL w (SqL.of hD) ?_
    rw [show (List.map V.ref [x0, x1, x2, x3]).length = 4 from rfl]
    walk_at "go"
    refine g_eqS rfl ?_
    rw [show decide (V.int ((4 : Nat) : Int) = V.int 1) = false from ints_ne (by decide)]
    walk_at "go"
    refine g_lenL w (SqL.of hD) ?_
    rw [show (List.map V.ref [x0, x1, x2, x3]).length = 4 from rfl]
    walk_at "go"
    refine g_eqS rfl ?_
    rw [show decide (V.int ((4 : Nat) : Int) = V.int 2) = false from ints_ne (by decide)]
    walk_at "go"
    refine g_lenL w (SqL.of hD) ?_
    rw [show (List.map V.ref [x0, x1, x2, x3]).length = 4 from rfl]
    walk_at "go"
    refine g_eqS rfl ?_
    rw [show decide (V.int ((4 : Nat) : Int) = V.int 3) = false from ints_ne (by decide)]
    walk_at "go"
    refine g_lenL w (SqL.of hD) ?_
    rw [show (List.map V.ref [x0, x1, x2, x3]).length = 4 from rfl]
    walk_at "go"
    refine g_eqS rfl ?_
    rw [decide_eq_true (show V.int ((4 : Nat) : Int) = V.int 4 from rfl)]
    walk_at "go"
    refine g_ixL w (SqL.of hD) (v := .ref x0) rfl ?_
    walk_at "go"
    refine g_ixL w (SqL.of hD) (v := .ref x1) rfl ?_
    walk_at "go"
    refine g_ixL w (SqL.of hD) (v := .ref x2) rfl ?_
    walk_at "go"
    refine g_ixL w (SqL.of hD) (v := .ref x3) rfl ?_
    walk_at "go"
    exact ⟨rfl, rfl, fin rfl rfl⟩
  | [x0, x1, x2, x3, x4], _, _ =>
    refine g_lenL w (SqL.of hD) ?_
    rw [show (List.map V.ref [x0, x1, x2, x3, x4]).length = 5 from rfl]
    walk_at "go"
    refine g_eqS rfl ?_
    rw [show decide (V.int ((5 : Nat) : Int) = V.int 1) = false from ints_ne (by decide)]
    walk_at "go"
    refine g_lenL w (SqL.of hD) ?_
    rw [show (List.map V.ref [x0, x1, x2, x3, x4]).length = 5 from rfl]
    walk_at "go"
    refine g_eqS rfl ?_
    rw [show decide (V.int ((5 : Nat) : Int) = V.int 2) = false from ints_ne (by decide)]
    walk_at "go"
    refine g_lenL w (SqL.of hD) ?_
    rw [show (List.map V.ref [x0, x1, x2, x3, x4]).length = 5 from rfl]
    walk_at "go"
    refine g_eqS rfl ?_
    rw [show decide (V.int ((5 : Nat) : Int) = V.int 3) = false from ints_ne (by decide)]
    walk_at "go"
    refine g_lenL w (SqL.of hD) ?_
    rw [show (List.map V.ref [x0, x1, x2, x3, x4]).length = 5 from rfl]
    walk_at "go"
    refine g_eqS rfl ?_
    rw [show decide (V.int ((5 : Nat) : Int) = V.int 4) = false from ints_ne (by decide)]
    walk_at "go"
    refine g_lenL w (SqL.of hD) ?_
    rw [show (List.map V.ref [x0, x1, x2, x3, x4]).length = 5 from rfl]
    walk_at "go"
    refine g_eqS rfl ?_
    rw [decide_eq_true (show V.int ((5 : Nat) : Int) = V.int 5 from rfl)]
    walk_at "go"
    refine g_ixL w (SqL.of hD) (v := .ref x0) rfl ?_
    walk_at "go"
    refine g_ixL w (SqL.of hD) (v := .ref x1) rfl ?_
    walk_at "go"
    refine g_ixL w (SqL.of hD) (v := .ref x2) rfl ?_
    walk_at "go"
    refine g_ixL w (SqL.of hD) (v := .ref x3) rfl ?_
    walk_at "go"
    refine g_ixL w (SqL.of hD) (v := .ref x4) rfl ?_
    walk_at "go"
    exact ⟨rfl, rfl, fin rfl rfl⟩
  | [x0, x1, x2, x3, x4, x5], _, _ =>
    refine g_lenL w (SqL.of hD) ?_
    rw [show (List.map V.ref [x0, x1, x2, x3, x4, x5]).length = 6 from rfl]
    walk_at "go"
    refine g_eqS rfl ?_
    rw [show decide (V.int ((6 : Nat) : Int) = V.int 1) = false from ints_ne (by decide)]
    walk_at "go"
    refine g_lenL w (SqL.of hD) ?_
    rw [show (List.map V.ref [x0, x1, x2, x3, x4, x5]).length = 6 from rfl]
    walk_at "go"
    refine g_eqS rfl ?_
    rw [show decide (V.int ((6 : Nat) : Int) = V.int 2) = false from ints_ne (by decide)]
    walk_at "go"
    refine g_lenL w (SqL.of hD) ?_
    rw [show (List.map V.ref [x0, x1, x2, x3, x4, x5]).length = 6 from rfl]
    walk_at "go"
    refine g_eqS rfl ?_
    rw [show decide (V.int ((6 : Nat) : Int) = V.int 3) = false from ints_ne (by decide)]
    walk_at "go"
    refine g_lenL w (SqL.of hD) ?_
    rw [show (List.map V.ref [x0, x1, x2, x3, x4, x5]).length = 6 from rfl]
    walk_at "go"
    refine g_eqS rfl ?_
    rw [show decide (V.int ((6 : Nat) : Int) = V.int 4) = false from ints_ne (by decide)]
    walk_at "go"
    refine g_lenL w (SqL.of hD) ?_
    rw [show (List.map V.ref [x0, x1, x2, x3, x4, x5]).length = 6 from rfl]
    walk_at "go"
    refine g_eqS rfl ?_
    rw [show decide (V.int ((6 : Nat) : Int) = V.int 5) = false from ints_ne (by decide)]
    walk_at "go"
    refine g_ixL w (SqL.of hD) (v := .ref x0) rfl ?_
    walk_at "go"
    refine g_ixL w (SqL.of hD) (v := .ref x1) rfl ?_
    walk_at "go"
    refine g_ixL w (SqL.of hD) (v := .ref x2) rfl ?_
    walk_at "go"
    refine g_ixL w (SqL.of hD) (v := .ref x3) rfl ?_
    walk_at "go"
    refine g_ixL w (SqL.of hD) (v := .ref x4) rfl ?_
    walk_at "go"
    refine g_ixL w (SqL.of hD) (v := .ref x5) rfl ?_
    walk_at "go"
    exact ⟨rfl, rfl, fin rfl rfl⟩
  | _ :: _ :: _ :: _ :: _ :: _ :: _ :: _, _, h =>
    simp only [List.length_cons] at h
    omega
end
end Sv


set_option Elab.async false
set_option linter.all false
set_option maxRecDepth 100000
set_option maxHeartbeats 4000000
namespace Sv
open PySem PySem.Spec PyProof.Rows L2 Sw
def dups : List Str → List Str → List Str
  | _, [] => []
  | seen, n :: r => (if n ∈ seen then [n] else []) ++ dups (seen ++ [n]) r
theorem dups_app : ∀ (l seen : List Str) (n : Str), dups seen (l ++ [n]) = dups seen l ++ (if n ∈ seen ++ l then [n] else [])
  | [], seen, n => by
    show (if n ∈ seen then [n] else []) ++ [] = [] ++ (if n ∈ seen ++ [] then [n] else [])
    rw [List.append_nil, List.append_nil, List.nil_append]
  | m :: l, seen, n => by
    show (if m ∈ seen then [m] else []) ++ dups (seen ++ [m]) (l ++ [n]) = ((if m ∈ seen then [m] else []) ++ dups (seen ++ [m]) l) ++ _
    rw [dups_app l (seen ++ [m]) n, List.append_assoc, List.append_assoc]
    rfl
theorem dups_take {l : List Str} {i : Nat} {n : Str} (h : l[i]? = some n) : dups [] (l.take (i + 1)) = dups [] (l.take i) ++ (if n ∈ l.take i then [n] else []) := by
  rw [List.take_add_one, h]
  show dups [] (l.take i ++ [n]) = _
  rw [dups_app, List.nil_append]
theorem dups_len : ∀ (l seen : List Str), (dups seen l).length ≤ l.length
  | [], _ => Nat.le_refl _
  | m :: l, seen => by
    show ((if m ∈ seen then [m] else []) ++ dups (seen ++ [m]) l).length ≤ _
    have := dups_len l (seen ++ [m])
    rw [List.length_append, List.length_cons]
    split <;> simp <;> omega
theorem firstDup_head : ∀ (l seen : List Str), firstDup seen l = (dups seen l).head?
  | [], _ => rfl
  | n :: r, seen => by
    show (if n ∈ seen then some n else firstDup (seen ++ [n]) r) = ((if n ∈ seen then [n] else []) ++ dups (seen ++ [n]) r).head?
    by_cases h : n ∈ seen
    · rw [if_pos h, if_pos h]
      rfl
    · rw [if_neg h, if_neg h, List.nil_append]
      exact firstDup_head r (seen ++ [n])
theorem merge_new : ∀ (cs : List Col) (as : List Addr) (acc : List (Key × V)) (seen : List Str), (∀ n, (valV acc (.inr n)).isSome = decide (n ∈ seen)) → firstDup seen (cs.map Col.name) = none → cs.length = as.length → mergeK acc (colKvs cs as) = acc ++ colKvs cs as
  | [], [], acc, _, _, _, _ => by
    show acc = acc ++ []
    rw [List.append_nil]
  | c :: cs, a :: as, acc, seen, h, hd, hl => by
    have hn : c.name ∉ seen := fun z => by
      rw [List.map_cons, firstDup, if_pos z] at hd
      cases hd
    rw [List.map_cons, firstDup, if_neg hn] at hd
    have nv : valV acc (.inr c.name) = none := by
      have := h c.name
      rw [decide_eq_false hn] at this
      cases e : valV acc (.inr c.name) with
      | none => rfl
      | some z => rw [e] at this; cases this
    show mergeK (putK acc (.inr c.name) (.ref a)) (colKvs cs as) = acc ++ ((Sum.inr c.name, V.ref a) :: colKvs cs as)
    rw [putK_new nv, merge_new cs as _ (seen ++ [c.name]) (fun n => ?_) hd (by simpa using hl), List.append_assoc]
    · rfl
    · rw [← valV_any, List.any_append, valV_any, h n]
      have e : decide ((Sum.inr c.name : Key) = Sum.inr n) = decide (n = c.name) := decide_eq_decide.mpr ⟨fun z => (Sum.inr.inj z).symm, fun z => by rw [z]⟩
      show (decide (n ∈ seen) || (decide ((Sum.inr c.name : Key) = Sum.inr n) || false)) = decide (n ∈ seen ++ [c.name])
      rw [e, Bool.or_false]
      apply Bool.eq_iff_iff.mpr
      rw [Bool.or_eq_true, decide_eq_true_eq, decide_eq_true_eq, decide_eq_true_eq, List.mem_append, List.mem_singleton]
theorem nodup_count : ∀ {g : List Str}, g.Nodup ↔ ∀ n ∈ g, ¬ 1 < g.count n
  | [] => ⟨fun _ _ z => absurd z List.not_mem_nil, fun _ => List.nodup_nil⟩
  | m :: l => by
    rw [List.nodup_cons, nodup_count (g := l)]
    constructor
    · rintro ⟨h1, h2⟩ n hn
      rw [List.count_cons]
      by_cases e : m = n
      · subst e
        have : l.count m = 0 := List.count_eq_zero.mpr h1
        rw [this]
        simp
      · have e2 : (m == n) = false := beq_eq_false_iff_ne.mpr e
        rw [e2]
        rcases List.mem_cons.mp hn with z | z
        · exact absurd z.symm e
        · exact h2 n z
    · intro h
      refine ⟨fun z => ?_, fun n hn z => ?_⟩
      · have := h m List.mem_cons_self
        rw [List.count_cons] at this
        have p : 0 < l.count m := List.count_pos_iff.mpr z
        rw [if_pos (beq_self_eq_true m)] at this
        omega
      · have := h n (List.mem_cons_of_mem _ hn)
        rw [List.count_cons] at this
        exact this (by omega)
theorem filter_snoc {p : Str → Bool} {l : List Str} {i : Nat} {n : Str} (h : l[i]? = some n) : (l.take (i + 1)).filter p = (l.take i).filter p ++ (if p n = true then [n] else []) := by
  rw [List.take_add_one, h, List.filter_append]
  congr 1
  show [n].filter p = _
  cases e : p n with
  | true =>
    rw [List.filter_cons_of_pos e]
    rfl
  | false =>
    rw [List.filter_cons_of_neg (by rw [e]; exact Bool.false_ne_true)]
    rfl
def oddL (cs : List Col) (g : List Str) : List Str := g.filter fun n => !(colOf cs n).isSome || decide (1 < g.count n)
def usefulN (cs : List Col) (n : Str) : Bool := match colOf cs n with | some c => useful c | none => false
def goodL (cs : List Col) (g : List Str) : List Str := g.filter (usefulN cs)
theorem isGrp_iff {cs : List Col} {g : List Str} (h3 : g.length ≤ 3) : isGrp cs g = (decide (oddL cs g = []) && !decide (goodL cs g = [])) := by
  have e : isGrp cs g = ((decide (1 ≤ g.length) && decide (g.length ≤ 3)) && (g.all fun n => (colOf cs n).isSome) && decide g.Nodup && (g.any (usefulN cs))) := rfl
  rw [e, decide_eq_true h3, Bool.and_true]
  apply Bool.eq_iff_iff.mpr
  simp only [Bool.and_eq_true, decide_eq_true_eq, List.all_eq_true, List.any_eq_true, Bool.not_eq_true', decide_eq_false_iff_not]
  unfold oddL goodL
  rw [List.filter_eq_nil_iff, List.filter_eq_nil_iff, nodup_count]
  constructor
  · rintro ⟨⟨⟨h1, h2⟩, h4⟩, n, hn, hu⟩
    refine ⟨fun m hm => ?_, fun z => z n hn hu⟩
    rw [h2 m hm, decide_eq_false (h4 m hm)]
    decide
  · rintro ⟨h1, h2⟩
    have h2' : ∃ n ∈ g, usefulN cs n = true := Classical.byContradiction fun z => h2 fun n hn q => z ⟨n, hn, q⟩
    refine ⟨⟨⟨?_, fun m hm => ?_⟩, fun m hm z => ?_⟩, h2'⟩
    · obtain ⟨n, hn, _⟩ := h2'
      exact List.length_pos_of_mem hn
    · have := h1 m hm
      cases q : (colOf cs m).isSome with
      | true => rfl
      | false => rw [q] at this; exact absurd rfl this
    · exact h1 m hm (by rw [decide_eq_true z, Bool.or_true])
end Sv

set_option Elab.async false
set_option linter.all false
set_option maxRecDepth 100000
set_option maxHeartbeats 4000000
namespace Sw
open PySem PySem.Spec PyProof.Rows L2
/-! ### ss.count(s) for texts -/
def rCntS (K : PySem.W.Frag) : V → List V → Hp → VK → Prop := fun x xs H Q => ∃ (p : Addr) (ss : List Str) (k : Str), x = .ref p ∧ xs = [.str k] ∧ SqL K H p (ss.map V.str) ∧ Q (.int (ss.count k : Nat)) H
def eqSt (k : Str) : Value → Bool
  | .str b _ => b == k
  | _ => false
theorem cnt_strs {k : Str} : ∀ {ss : List Str} {us : List Value}, Vals (ss.map V.str) us → us.countP (eqSt k) = ss.count k
  | [], _, .nil => rfl
  | b :: bs, _, .cons r t => by
    obtain ⟨tk, rfl⟩ := r
    rw [List.countP_cons, List.count_cons, cnt_strs t]
    rfl
theorem mem_strs : ∀ {ss : List Str} {us : List Value}, Vals (ss.map V.str) us → ∀ y ∈ us, ∃ b t, y = Value.str b t
  | [], _, .nil, y, h => absurd h List.not_mem_nil
  | b :: bs, _, .cons r t, y, h => by
    obtain ⟨tk, rfl⟩ := r
    rcases List.mem_cons.mp h with rfl | h
    · exact ⟨b, tk, rfl⟩
    · exact mem_strs t y h
theorem mt_scount {X : Cx} (K : PySem.W.Frag) (hK : X.K = K := by rfl) : MtR X "list.count" (rCntS K) := by
  subst hK
  intro pins s σ H x xs v us Q I rx rxs h
  obtain ⟨p, ss, k, rfl, rfl, hs, q⟩ := h
  cases rx
  obtain ⟨u, rfl, ru⟩ := rxs.one
  obtain ⟨tu, rfl⟩ := ru
  obtain ⟨its, rv, ⟨⟨cls, dd, data, sl⟩, n, ho, hc, hdn, hd⟩, hlen⟩ := I.list hs
  simp only at hc hd
  subst hc hd
  refine call_meets PySem.F.slot_list_count ⟨_, ho, rfl⟩ PySem.F.entry_list_count (PySem.F.args_list_count_2 _ _)
    (SeqAt.list_countAt p its.toArray n dd sl (.str k tu) (eqSt k)) ⟨ho, fun y hy => ?_, ?_⟩
  · obtain ⟨b, tb, rfl⟩ := mem_strs rv y (by simpa using hy)
    exact eqAt_V (y := .str b) (x := .str k) ⟨_, rfl⟩ ⟨_, rfl⟩ rfl rfl
  · refine ⟨.int (ss.count k : Nat), H, I.tok _, ⟨s.toks, ?_⟩, q⟩
    show Value.int (((its.toArray.toList.countP (eqSt k)) : Nat) : Int) s.toks = Value.int ((ss.count k : Nat) : Int) s.toks
    rw [show its.toArray.toList = its by simp, cnt_strs rv]
theorem kp_bm {X : Cx} {o e : Expr} {es : List Expr} {to : TE} {t : TA} {name : Str} {apos cpos : Pos} {T id : String} {r : V → List V → Hp → VK → Prop} (K : PySem.W.Frag) (pa : PlainAttrs T) (slot : Slot T name id) (hty : typeOf (.builtin id) = pure (.type "method_descriptor")) (hm : MtR X id r) (ho : PE X o to) (ha : PA X (e :: es) t) (hK : X.K = K := by rfl)
    (hbase : attributeBase o name X.env (eval o X.env) = eval o X.env := by rfl)
    (hfew : ((backTo cpos (starEach (e :: es) X.env)).all (fun x => !x.1) && (backToKw cpos (keywordEach [] X.env)).all (fun x => x.1.isSome)
      && decide ((e :: es).length + ([] : List Keyword).length + (if ([] : List Keyword).isEmpty then 0 else 1) < 30)) = true := by rfl)
    (hline : (apos.endLine == cpos.line) = true := by rfl) (hs : starEach (e :: es) X.env = (false, eval e X.env) :: starEach es X.env := by rfl) (hplain : (backTo cpos (starEach es X.env)).any (·.1) = false := by rfl) :
    PE X (.Call (.Attribute o name apos) (e :: es) [] cpos) (tBM K T r to t) := by subst hK; exact pe_bm pa slot hty hm ho ha hbase hfew hline hs hplain
theorem kg_lst {X : Cx} {pos : Pos} {es : List Expr} {k : Nat} {t : TGs} {n : Nat} (K : PySem.W.Frag) (hc : X.calm = true) (h : PGs X es t) (hK : X.K = K := by rfl)
    (hn : (assignEach es X.env).length = n := by rfl) (hst : (assignEach es X.env).findIdx? (·.1) = none := by rfl) : PG X (.Tuple es k pos) (gLst K n t) := by subst hK; exact pg_lst hc h hn hst
theorem g_lstG {K : PySem.W.Frag} {H : Hp} {σ : L2.St} {m : Nat} {v : V} {t : TGs} {P : L2.St → Hp → Prop} (k : ∃ a xs, v = .ref a ∧ SqL K H a xs ∧ xs.length = m ∧ t xs σ H P) : gLst K m t v σ H P := k
theorem g_scount {G H : Hp} {R : Res} {K : PySem.W.Frag} {Q : VK} {p : Addr} {ss : List Str} {k : Str} (w : Wd G R H) (h : SqL K G p (ss.map V.str)) (q : Q (.int (ss.count k : Nat)) H) : rCntS K (.ref p) [.str k] H Q := ⟨p, ss, k, rfl, rfl, Evl.ex_l w.sub h, q⟩
end Sw

set_option Elab.async false
set_option linter.all false
set_option maxRecDepth 100000
set_option maxHeartbeats 4000000
namespace Sv
open PySem PySem.Spec PyProof.Rows L2 Sw
local macro_rules | `(tactic| walk_at "go1") => `(tactic| first
  | ((with_reducible refine' g_var ?hv ?_); (case hv => rfl))
  | with_reducible refine g_c ?_
  | with_reducible refine g_op ?_
  | with_reducible refine g_un ?_
  | with_reducible refine g_seq ?_
  | with_reducible refine g_next ?_
  | with_reducible refine g_asg ?_
  | with_reducible refine g_name ?_
  | with_reducible refine g_drop ?_
  | with_reducible refine g_sub ?_
  | with_reducible refine g_ret ?_
  | with_reducible refine g_retN ?_
  | with_reducible refine g_ifS ?_
  | with_reducible refine g_if ?_
  | with_reducible refine g_test ?_
  | with_reducible refine g_bl ?_
  | with_reducible refine g_cons ?_
  | with_reducible refine g_nil ?_
  | with_reducible refine g_and ?_
  | with_reducible refine g_or ?_
  | with_reducible refine g_not ?_
  | with_reducible refine g_callB ?_
  | with_reducible refine g_addI ?_
  | with_reducible refine g_I0 ?_
  | with_reducible refine g_calG ?_
  | with_reducible refine g_mkG ?_
  | with_reducible refine g_tup ?_
  | with_reducible refine g_pairs1 ?_
  | with_reducible refine g_pairs0 ?_
  | with_reducible refine g_dget ?_
  | with_reducible refine g_lvals ?_
  | with_reducible refine g_forT ?_
  | with_reducible refine g_lcT ?_
  | with_reducible refine g_dput ?_
  | with_reducible refine g_lc2L ?_
  | with_reducible refine g_iList ?_
  | with_reducible refine g_lcX ?_
  | with_reducible refine g_js1 ?_
  | with_reducible refine g_js0 ?_
  | with_reducible refine g_fmt ?_
  | with_reducible refine g_tLenSet ?_
  | with_reducible refine g_mkV ?_
  | with_reducible refine g_mkV1 ?_
  | with_reducible refine g_lst ?_
  | with_reducible refine g_forL ?_
  | with_reducible refine g_forR ?_
  | with_reducible refine g_forR2 ?_
  | with_reducible refine g_forS ?_
  | with_reducible refine g_forE ?_
  | with_reducible refine g_forEB ?_
  | with_reducible refine g_lcL ?_
  | with_reducible refine g_lcR ?_
  | with_reducible refine g_lcS ?_
  | with_reducible refine g_lcE ?_
  | with_reducible refine g_lcEB ?_
  | with_reducible refine g_orT ?_
  | with_reducible refine g_slc ?_
  | with_reducible refine g_noPart ?_
  | with_reducible refine g_part ?_
  | with_reducible refine g_bm ?_
  | with_reducible refine g_par ?_
  | with_reducible refine g_yes ?_
  | with_reducible refine g_tupG ?_
  | with_reducible refine g_lstG ?_
  | with_reducible refine g_gcons ?_
  | with_reducible refine g_gnil ?_
  | with_reducible refine g_chain ?_
  | with_reducible refine g_truB ?_
  | with_reducible refine g_truN ?_
  | with_reducible refine g_truI ?_
  | with_reducible refine g_m1 ?_
  | with_reducible refine g_fld ?_
  | with_reducible refine g_con ?_
  | with_reducible refine g_tru ?_
  | with_reducible refine g_U ?_
  | with_reducible refine g_xg ?_
  | with_reducible refine g_andT ?_
  | with_reducible refine g_exI ?_
  | with_reducible refine g_dnew ?_
  | with_reducible refine g_intB ?_
  | with_reducible refine g_meth ?_
  | with_reducible refine g_prop ?_
  | with_reducible refine g_exc1 ?_
  | with_reducible refine g_setF ?_
  | with_reducible refine g_star ?_
  | with_reducible refine g_strM ?_
  | with_reducible refine iteT ?_
  | with_reducible refine iteF ?_
  | with_reducible refine iteNT ?_
  | with_reducible refine iteNF ?_)
local macro_rules | `(tactic| walk_at "go") => `(tactic| repeat (walk_at "go1"))
local macro_rules | `(tactic| walk_at "sz") => `(tactic| (first | (rw [sizeLine_eq]; simp only [List.length_cons, List.length_nil, List.length_map, List.length_append, List.length_take]; omega) | (rw [sizeLine_eq]; omega)))
section
variable {P : Program} {wo : World} {A : Ad} {K : PySem.W.Frag} {mg : Str → Option Value} {base : Heap}
/-! ### _law_is_group -/
theorem colOf_cts {K : PySem.W.Frag} {G : Hp} {n : Str} : ∀ {cs : List Col} {as : List Addr}, CTs K G cs as → (∃ c a, colOf cs n = some c ∧ valV (colKvs cs as) (.inr n) = some (.ref a) ∧ SqT K G a (colTup c) ∧ c ∈ cs) ∨ (colOf cs n = none ∧ valV (colKvs cs as) (.inr n) = none)
  | _, _, .nil => .inr ⟨rfl, rfl⟩
  | c :: cs, a :: as, .cons r t => by
    by_cases h : c.name = n
    · refine .inl ⟨c, a, ?_, ?_, r, List.mem_cons_self⟩
      · unfold colOf
        rw [List.find?_cons_of_pos (by simpa using h)]
      · exact valV_pos (p := (Sum.inr c.name, V.ref a)) (by rw [h])
    · have e1 : colOf (c :: cs) n = colOf cs n := by
        unfold colOf
        rw [List.find?_cons_of_neg (by simpa using h)]
      have e2 : valV (colKvs (c :: cs) (a :: as)) (.inr n) = valV (colKvs cs as) (.inr n) := valV_neg (p := (Sum.inr c.name, V.ref a)) fun z => h (Sum.inr.inj z)
      rw [e1, e2]
      rcases colOf_cts (n := n) t with ⟨c', a', q1, q2, q3, q4⟩ | q
      · exact .inl ⟨c', a', q1, q2, q3, List.mem_cons_of_mem _ q4⟩
      · exact .inr q
theorem cts_has {K : PySem.W.Frag} {G : Hp} {cs : List Col} {as : List Addr} (h : CTs K G cs as) {n : Str} : (valV (colKvs cs as) (.inr n)).isSome = (colOf cs n).isSome := by
  rcases colOf_cts (n := n) h with ⟨c, a, q1, q2, _⟩ | ⟨q1, q2⟩ <;> rw [q1, q2] <;> rfl
theorem ckv_take {cs : List Col} {as : List Addr} (hl : cs.length = as.length) {i : Nat} {c : Col} {a : Addr} (hc : cs[i]? = some c) (ha : as[i]? = some a) : colKvs (cs.take (i + 1)) (as.take (i + 1)) = colKvs (cs.take i) (as.take i) ++ [(Sum.inr c.name, V.ref a)] := by
  unfold colKvs
  rw [List.take_add_one, List.take_add_one, hc, ha]
  have l : (cs.take i).length = (as.take i).length := by rw [List.length_take, List.length_take, hl]
  rw [Option.toList_some, Option.toList_some, List.zip_append l, List.map_append]
  rfl
def spLIsG (K : PySem.W.Frag) : Sp := fun vs H Q _ => ∃ G R cl cs as v o, vs = [.ref cl, v] ∧ Wd G R H ∧ G cl = some (.lst (as.map V.ref)) ∧ CTs K G cs as ∧ as.length ≤ 1000 ∧ firstDup [] (cs.map Col.name) = none ∧ GrpV K G v o ∧ ∀ H', Wd G R H' → Q (.bl (grpB cs o)) H'
theorem sc__law_is_group : FnScope (["_law_columns", "_law_value", "_law_known", "_law_column_here", "_law_name"] : List Str) (["_law_columns", "_law_value"] : List Str) (defScope s__law_is_group) := ⟨rfl, rfl, rfl, by decide +kernel, rfl, by decide +kernel, by decide +kernel⟩
theorem ok_lisg {f : Addr} {fd : FuncData} (F : Fun K "_law_is_group" "_law_is_group" s__law_is_group f fd) (T : Txt K mg A) : FnOk P wo K mg base (L2.CX P wo) 1 f fd (["_law_columns", "_law_value"] : List Str) (spLIsG K) := by
  refine okT F sc__law_is_group (fun vs H Q E h => ?_) (fun cdv Ar outer s H vs Q E hr tk po h => ?_)
  · obtain ⟨_, _, _, _, _, _, _, rfl, _⟩ := h
    rfl
  obtain ⟨G, R, cl, cs, as, v, o, rfl, w, hcl, hct, las, fdn, hv, k⟩ := h
  refine ⟨_, (pss_cons (ps_if (PW.pt (pw_or (pt_not (kt_truth K (pe_callB (ka_isi K) (by rfl) T.nb_isinstance (by decide +kernel) (pa_cons (pv 1) (pa_cons (pe_bltn (v := .ty "tuple") (u := .type "tuple") (by rfl) T.nb_tuple (by decide +kernel) rfl) pa_nil))) (by intro _; rfl))) (pw_or1 (pt_not (pt_chain op_lt op_lt pe_int (pe_callB (ka_len K) (by rfl) T.nb_len (by decide +kernel) (pa_cons (pv 1) pa_nil)) pe_int))))) (pss_one (ps_ret pe_bl)) pss_nil)
      (pss_cons (ps_set (i := 2) sc__law_is_group.nd rfl (by first | exact Or.inl rfl | exact Or.inr rfl) (pe_callTy (call_dictP rfl) (by rfl) T.nb_dict (by decide +kernel) (pa_cons (pe_lc (own := [("_law_column_here", 3)]) (g := (gName 3)) (tt := tYes) rfl sc__law_is_group.nd (ki_list K (pv 0)) (blkOk_by (N := (["_law_columns", "_law_value", "_law_known", "_law_column_here", "_law_name"] : List Str)) (sc := defScope s__law_is_group) (by decide +kernel)) (fun _ _ _ _ _ => (pg_name (i := 3) sc__law_is_group.nd rfl (by first | exact Or.inl rfl | exact Or.inr rfl))) (fun _ _ _ _ _ => pts_nil) (fun _ _ _ _ _ => (pe_tup (pa_cons (pe_ix (ka_ix K) (pv 3) pe_int (fun _ _ => rfl)) (pa_cons (pv 3) pa_nil))))) pa_nil)))
      (pss_cons (ps_if (pt_cmpR (op_neL0 K hr.units) (pe_lc (own := [("_law_name", 4)]) (g := (gName 4)) (tt := _) rfl sc__law_is_group.nd (ki_tup K (pv 1)) (blkOk_by (N := (["_law_columns", "_law_value", "_law_known", "_law_column_here", "_law_name"] : List Str)) (sc := defScope s__law_is_group) (by decide +kernel)) (fun _ _ _ _ _ => (pg_name (i := 4) sc__law_is_group.nd rfl (by first | exact Or.inl rfl | exact Or.inr rfl))) (fun _ _ _ _ _ => (pts_one (PW.pt (pw_or (pt_not (kt_truth K (pe_callB (ka_isi K) (by rfl) T.nb_isinstance (by decide +kernel) (pa_cons (pv 4) (pa_cons (pe_bltn (v := .ty "str") (u := .type "str") (by rfl) T.nb_str (by decide +kernel) rfl) pa_nil))) (by intro _; rfl))) (pw_or1 (pt_cmpR (op_niDk (L2.hu_of hr)) (pv 4) (pv 2) (by first | exact nomark _ | rfl))))))) (fun _ _ _ _ _ => (pv 4))) (pe_lst pa_nil) (nomark _)) (pss_one (ps_ret pe_bl)) pss_nil)
      (pss_cons (ps_if (pt_cmpR (ka_ne K hr.units) (pe_lc (own := [("_law_name", 4)]) (g := (gName 4)) (tt := _) rfl sc__law_is_group.nd (ki_tup K (pv 1)) (blkOk_by (N := (["_law_columns", "_law_value", "_law_known", "_law_column_here", "_law_name"] : List Str)) (sc := defScope s__law_is_group) (by decide +kernel)) (fun _ _ _ _ _ => (pg_name (i := 4) sc__law_is_group.nd rfl (by first | exact Or.inl rfl | exact Or.inr rfl))) (fun _ _ _ _ _ => (pts_one (pt_cmpR op_gt (kp_bm K PySem.F.plainAttrs_list PySem.F.slot_list_count PySem.F.type_list_count (mt_scount K) (pe_callTy (ka_list K) (by rfl) T.nb_list (by decide +kernel) (pa_cons (pv 1) pa_nil)) (pa_cons (pv 4) pa_nil)) pe_int (nomark _)))) (fun _ _ _ _ _ => (pv 4))) (pe_lst pa_nil) (nomark _)) (pss_one (ps_ret pe_bl)) pss_nil)
      (pss_one (ps_ret (pe_cmpR (ka_ne K hr.units) (pe_lc (own := [("_law_name", 4)]) (g := (gName 4)) (tt := _) rfl sc__law_is_group.nd (ki_tup K (pv 1)) (blkOk_by (N := (["_law_columns", "_law_value", "_law_known", "_law_column_here", "_law_name"] : List Str)) (sc := defScope s__law_is_group) (by decide +kernel)) (fun _ _ _ _ _ => (pg_name (i := 4) sc__law_is_group.nd rfl (by first | exact Or.inl rfl | exact Or.inr rfl))) (fun _ _ _ _ _ => (pts_one (PW.pt (pw_or (pt_cmpR (ka_ne K hr.units) (pe_ix (ka_ix K) (pe_dget (L2.hu_of hr) (pv 2) (pv 4) (fun _ _ => rfl)) pe_int (fun _ _ => rfl)) pe_str (nomark _)) (pw_or1 (kt_truth K (pe_ix (ka_ix K) (pe_dget (L2.hu_of hr) (pv 2) (pv 4) (fun _ _ => rfl)) pe_int (fun _ _ => rfl)) (by intro _; rfl))))))) (fun _ _ _ _ _ => (pv 4))) (pe_lst pa_nil) (nomark _)))))))), ?_⟩
  have ncs : cs.length = as.length := Sw.Paired.len hct
  walk_at "go"
  have flats : ∀ l : List Str, (l.map V.str).all flatV = true := fun l => by rw [List.all_map]; exact List.all_eq_true.mpr fun _ _ => rfl
  obtain ⟨t, rfl, ht, hk⟩ | ⟨p, xs, rfl, hx, lx, hxs⟩ : (∃ t, o = none ∧ TyX K G v t ∧ PySem.W.kitOne K t (.type "tuple") = some false) ∨ (∃ p xs, v = .ref p ∧ SqT K G p xs ∧ xs.length ≤ 1000 ∧ ((∃ g : List Str, xs = g.map V.str ∧ o = some g) ∨ (o = none ∧ (∀ x ∈ xs, (∃ s, x = .str s) ∨ NotStr K G x) ∧ ∃ x ∈ xs, NotStr K G x))) := by
    rcases hv with ⟨p, g, rfl, rfl, hg, lg⟩ | h | ⟨p, xs, rfl, rfl, hx, lx, hor, hno⟩
    · exact .inr ⟨p, _, rfl, hg, by rw [List.length_map]; exact lg, .inl ⟨g, rfl, rfl⟩⟩
    · exact .inl h
    · exact .inr ⟨p, xs, rfl, hx, lx, .inr ⟨rfl, hor, hno⟩⟩
  · refine g_isi (.ty _) (tyX_same w.sub ht) hk ?_
    walk_at "go"
    exact k _ w
  refine g_isi (.ty _) (tyX_same w.sub (tyX_tup hx)) kit_tup ?_
  walk_at "go"
  refine g_lenT w hx ?_
  walk_at "go"
  have short : (xs.length = 0 ∨ 3 < xs.length) → grpB cs o = false := fun hl => by
    rcases hxs with ⟨g, rfl, rfl⟩ | ⟨rfl, _⟩
    · rw [List.length_map] at hl
      show isGrp cs g = false
      unfold isGrp
      rcases hl with hl | hl
      · rw [decide_eq_false (show ¬ 1 ≤ g.length by omega)]
        rfl
      · rw [decide_eq_false (show ¬ g.length ≤ 3 by omega), Bool.and_false]
        rfl
    · rfl
  have no : ∀ H', Wd G R H' → grpB cs o = false → Q (.bl false) H' := fun H' w' e => by
    have := k H' w'
    rw [e] at this
    exact this
  refine iteD (fun h1 => ?_) (fun h1 => ?_)
  rotate_left
  · walk_at "go"
    exact no _ w (short (.inl (by omega)))
  walk_at "go"
  refine iteN (fun h2 => ?_) (fun h2 => ?_)
  · walk_at "go"
    exact no _ w (short (.inr (by omega)))
  have l3 : xs.length ≤ 3 := by omega
  walk_at "go"
  refine ⟨cl, rfl, ⟨_, SqL.of (w.get hcl)⟩, ?_⟩
  refine lc_it (itf_list (xs := as.map V.ref)) w (fun H e => SqL.of (e _ _ hcl)) (by rw [sizeLine_eq, List.length_map]; omega) (fun i Gi acc => ∃ prs : List Addr, acc = prs.map V.ref ∧ Paired (fun p kv => SqT K Gi p [kV kv.1, kv.2]) prs (colKvs (cs.take i) (as.take i))) ⟨[], rfl, .nil⟩ ?_ ?_
  · rintro j y Gi acc D Ha Hb hj ej nD ⟨prs, rfl, hprs⟩ ha wj ⟨rfl, hy⟩
    rw [List.getElem?_map] at hy
    obtain ⟨ca, hca, rfl⟩ := Option.map_eq_some_iff.mp hy
    obtain ⟨cc, hcc, hct2⟩ := Sw.Paired.atR hct hca
    walk_at "go"
    refine ⟨rfl, ?_⟩
    walk_at "go"
    refine g_ixT wj (Evl.ex_t (Same.trans ej (Same.newG nD)) hct2) (colTup1 cc) ?_
    walk_at "go"
    refine g_newL wj (by walk_at "sz") fun tp Hc ntp wc => ?_
    obtain ⟨t1, t2⟩ := upd_nonne ntp
    rw [upd_comm t2] at wc
    refine lc_keep (Pv := fun i Gi acc => ∃ prs : List Addr, acc = prs.map V.ref ∧ Paired (fun p kv => SqT K Gi p [kV kv.1, kv.2]) prs (colKvs (cs.take i) (as.take i))) wc (Same.trans ej (Same.newG t1)) (by rw [upd_ne t2.symm]; exact nD) ha hj (by rw [sizeLine_eq, List.length_map]; omega) ⟨prs ++ [tp], by rw [List.map_append]; rfl, ?_⟩
    rw [ckv_take ncs hcc hca]
    exact Sw.Paired.app (Sw.Paired.imp (fun _ _ x => Evl.ex_t (Same.newG t1) x) hprs) (.cons (SqT.of upd_same) .nil)
  rintro D3 Gn3 acc3 Hc ej3 nD3 ⟨prs, rfl, hprs⟩ ha3 w
  rw [List.length_map, List.take_of_length_le (Nat.le_refl _), List.take_of_length_le (by rw [ncs]; exact Nat.le_refl _)] at hprs
  have S3 : Same G (upd Gn3 D3 (.lst (prs.map V.ref))) := Same.trans ej3 (Same.newG nD3)
  walk_at "go"
  refine ⟨D3, prs, colKvs cs as, rfl, SqL.of (w.get upd_same), Sw.Paired.imp (fun _ _ x => Evl.ex_t w.sub (Evl.ex_t (Same.newG nD3) x)) hprs, fun dp hdp => ?_⟩
  rw [merge_new cs as [] [] (fun _ => rfl) fdn ncs, List.nil_append]
  have ndp := w.free hdp
  replace w := w.new (o := .dK (colKvs cs as)) hdp
  have S4 : Same G (upd (upd Gn3 D3 (.lst (prs.map V.ref))) dp (.dK (colKvs cs as))) := Same.trans S3 (Same.newG ndp)
  have qdp : upd (upd Gn3 D3 (.lst (prs.map V.ref))) dp (.dK (colKvs cs as)) dp = some (.dK (colKvs cs as)) := upd_same
  generalize upd (upd Gn3 D3 (.lst (prs.map V.ref))) dp (.dK (colKvs cs as)) = G4 at *
  have hx4 := Evl.ex_t S4 hx
  walk_at "go"
  refine ⟨p, rfl, ⟨_, Evl.ex_t w.sub hx4⟩, ?_⟩
  rcases hxs with ⟨g, rfl, rfl⟩ | ⟨rfl, hor, x0, hx0, hno⟩
  rotate_left
  · -- an item that is no text
    refine lc_it (itf_tup (xs := xs)) w (fun _ e => Evl.ex_t e hx4) (by rw [sizeLine_eq]; omega) (fun j _ acc => (∃ m x, m < j ∧ xs[m]? = some x ∧ NotStr K G x ∧ x = x0) → acc ≠ []) (fun ⟨m, _, hm, _⟩ => absurd hm (Nat.not_lt_zero _)) ?_ ?_
    · rintro j y Gi acc D Ha Hb hj ej nD hacc ha wj ⟨rfl, hy⟩
      have keep : ∀ Hc, Wd (upd Gi D (.lst acc)) R Hc → _ := fun Hc wc => lc_keep (y := y) (n := xs.length) (i := j) (Pv := fun j _ acc => (∃ m x, m < j ∧ xs[m]? = some x ∧ NotStr K G x ∧ x = x0) → acc ≠ []) wc ej nD ha hj (by rw [sizeLine_eq]; omega) (fun _ => by simp)
      have SD := Same.trans S4 (Same.trans ej (Same.newG nD (o := .lst acc)))
      walk_at "go"
      refine ⟨rfl, ?_⟩
      walk_at "go"
      by_cases hny : NotStr K G y
      · obtain ⟨t, ht, hk⟩ := hny
        refine g_isi (.ty _) (tyX_same wj.sub (tyX_same SD ht)) hk ?_
        walk_at "go"
        exact keep _ wj
      · rcases hor y (List.mem_of_getElem? hy) with ⟨s, rfl⟩ | z
        rotate_left
        · exact absurd z hny
        refine g_isi (.ty _) (.base (.str s)) kit_str ?_
        walk_at "go"
        refine g_niDk wj (upd_old (ej _ _ qdp) nD) ?_
        walk_at "go"
        refine iteBN (fun _ => ?_) (fun _ => ?_)
        · walk_at "go"
          exact keep _ wj
        · refine lc_drop (Pv := fun j _ acc => (∃ m x, m < j ∧ xs[m]? = some x ∧ NotStr K G x ∧ x = x0) → acc ≠ []) wj ej nD ha ?_
          rintro ⟨m, x, hm, hxm, hnx, rfl⟩
          by_cases e : m = j
          · subst e
            rw [hy] at hxm
            cases hxm
            exact absurd hnx hny
          · exact hacc ⟨m, x, by omega, hxm, hnx, rfl⟩
    · rintro D Gn acc Ha ej nD hacc ha w
      obtain ⟨m, hm⟩ := List.getElem?_of_mem hx0
      have ne := hacc ⟨m, x0, (List.getElem?_eq_some_iff.mp hm).1, hm, hno, rfl⟩
      walk_at "go"
      refine g_newA w (by walk_at "sz") fun q G7 H7 n7 s7 q7 w7 => ?_
      refine g_neL0 w7 (SqL.of (s7 _ _ upd_same)) (SqL.of q7) ?_
      cases acc with
      | nil => exact absurd rfl ne
      | cons x r =>
        walk_at "go"
        exact no _ (w7.drop (Same.trans S4 (Same.trans ej (Same.trans (Same.newG nD) s7)))) rfl
  rw [List.length_map] at l3
  have eg : grpB cs (some g) = ((decide (1 ≤ g.length) && decide (g.length ≤ 3)) && (g.all fun n => (colOf cs n).isSome) && decide g.Nodup && (g.any (usefulN cs))) := rfl
  rw [decide_eq_true (show 1 ≤ g.length by rw [List.length_map] at h1; omega), decide_eq_true l3, Bool.true_and, Bool.true_and] at eg
  refine lc_it (itf_tup (xs := g.map V.str)) w (fun _ e => Evl.ex_t e hx4) (by rw [sizeLine_eq, List.length_map]; omega) (fun j _ acc => acc = ((g.take j).filter fun n => !(colOf cs n).isSome).map V.str) rfl ?_ ?_
  · rintro j y Gi acc D Ha Hb hj ej nD rfl ha wj ⟨rfl, hy⟩
    rw [List.getElem?_map] at hy
    obtain ⟨n, hn, rfl⟩ := Option.map_eq_some_iff.mp hy
    have ht1 : ((g.take (j + 1)).filter fun n => !(colOf cs n).isSome) = ((g.take j).filter fun n => !(colOf cs n).isSome) ++ (if (!(colOf cs n).isSome) = true then [n] else []) := filter_snoc hn
    walk_at "go"
    refine ⟨rfl, ?_⟩
    walk_at "go"
    refine g_isi (.ty _) (.base (.str n)) kit_str ?_
    walk_at "go"
    refine g_niDk wj (upd_old (ej _ _ qdp) nD) ?_
    rw [cts_has hct]
    walk_at "go"
    cases e : (colOf cs n).isSome with
    | false =>
      refine iteNF ?_
      walk_at "go"
      refine lc_keep (Pv := fun j _ acc => acc = ((g.take j).filter fun n => !(colOf cs n).isSome).map V.str) wj ej nD ha hj (by rw [sizeLine_eq, List.length_map]; omega) ?_
      rw [ht1, e, if_pos (by decide), List.map_append]
      rfl
    | true =>
      refine iteNT ?_
      refine lc_drop (Pv := fun j _ acc => acc = ((g.take j).filter fun n => !(colOf cs n).isSome).map V.str) wj ej nD ha ?_
      rw [ht1, e, if_neg (by decide), List.append_nil]
  rintro D5 Gn5 acc5 Hc ej5 nD5 rfl ha5 w
  rw [List.length_map, List.take_length] at w
  have S5 : Same G4 (upd Gn5 D5 (.lst ((g.filter fun n => !(colOf cs n).isSome).map V.str))) := Same.trans ej5 (Same.newG nD5)
  walk_at "go"
  refine g_newA w (by walk_at "sz") fun q7 G7 H7 n7 s7 q7' w7 => ?_
  refine g_neL0 w7 (SqL.of (s7 _ _ upd_same)) (SqL.of q7') ?_
  replace w := w7.drop (Same.trans S5 s7)
  cases e5 : g.filter fun n => !(colOf cs n).isSome with
  | cons n r =>
    rw [show (!(List.map V.str (n :: r)).isEmpty) = true from rfl]
    walk_at "go"
    refine no _ (w.drop S4) ?_
    rw [eg]
    have : g.all (fun n => (colOf cs n).isSome) = false := by
      cases ea : g.all (fun n => (colOf cs n).isSome) with
      | false => rfl
      | true =>
        have hm : n ∈ g.filter fun n => !(colOf cs n).isSome := by rw [e5]; exact List.mem_cons_self
        obtain ⟨h1, h2⟩ := List.mem_filter.mp hm
        rw [List.all_eq_true.mp ea n h1] at h2
        cases h2
    rw [this]
    rfl
  | nil =>
  have eall : g.all (fun n => (colOf cs n).isSome) = true := List.all_eq_true.mpr fun n hn => by
    have := List.filter_eq_nil_iff.mp e5 n hn
    cases q : (colOf cs n).isSome with
    | true => rfl
    | false => rw [q] at this; exact absurd rfl this
  rw [eall, Bool.true_and] at eg
  rw [show (!(List.map V.str ([] : List Str)).isEmpty) = false from rfl]
  walk_at "go"
  refine ⟨p, rfl, ⟨_, Evl.ex_t w.sub hx4⟩, ?_⟩
  refine lc_it (itf_tup (xs := g.map V.str)) w (fun _ e => Evl.ex_t e hx4) (by rw [sizeLine_eq, List.length_map]; omega) (fun j _ acc => acc = ((g.take j).filter fun n => decide (1 < g.count n)).map V.str) rfl ?_ ?_
  · rintro j y Gi acc D Ha Hb hj ej nD rfl ha wj ⟨rfl, hy⟩
    rw [List.getElem?_map] at hy
    obtain ⟨n, hn, rfl⟩ := Option.map_eq_some_iff.mp hy
    have ht1 : ((g.take (j + 1)).filter fun n => decide (1 < g.count n)) = ((g.take j).filter fun n => decide (1 < g.count n)) ++ (if (decide (1 < g.count n)) = true then [n] else []) := filter_snoc hn
    walk_at "go"
    refine ⟨rfl, ?_⟩
    walk_at "go"
    refine g_listT wj (Evl.ex_t (Same.trans ej (Same.newG nD)) hx4) fun lq Hc nlq wc => ?_
    refine g_tyL wc upd_same ?_
    walk_at "go"
    refine g_scount wc (SqL.of upd_same) ?_
    replace wc := wc.drop (Same.newG nlq)
    walk_at "go"
    have ed : decide ((1 : Int) < ((g.count n : Nat) : Int)) = decide (1 < g.count n) := decide_eq_decide.mpr (by omega)
    rw [ed]
    refine iteD (fun g1 => ?_) (fun g1 => ?_)
    · walk_at "go"
      refine lc_keep (Pv := fun j _ acc => acc = ((g.take j).filter fun n => decide (1 < g.count n)).map V.str) wc ej nD ha hj (by rw [sizeLine_eq, List.length_map]; omega) ?_
      rw [ht1, decide_eq_true g1, if_pos rfl, List.map_append]
      rfl
    · refine lc_drop (Pv := fun j _ acc => acc = ((g.take j).filter fun n => decide (1 < g.count n)).map V.str) wc ej nD ha ?_
      rw [ht1, decide_eq_false g1, if_neg (by decide), List.append_nil]
  rintro D6 Gn6 acc6 Hd ej6 nD6 rfl ha6 w
  rw [List.length_map, List.take_length] at w
  have S6 : Same G4 (upd Gn6 D6 (.lst ((g.filter fun n => decide (1 < g.count n)).map V.str))) := Same.trans ej6 (Same.newG nD6)
  walk_at "go"
  refine g_newA w (by walk_at "sz") fun q8 G8 H8 n8 s8 q8' w8 => ?_
  refine g_neF w8 (SqL.of (s8 _ _ upd_same)) (SqL.of q8') (flats _) rfl ?_
  replace w := w8.drop (Same.trans S6 s8)
  rw [eqVs_nil]
  walk_at "go"
  refine iteN (fun g1 => ?_) (fun g1 => ?_)
  · walk_at "go"
    refine no _ (w.drop S4) ?_
    rw [eg, decide_eq_false (fun z => g1 ?_)]
    · rfl
    · rw [List.filter_eq_nil_iff]
      exact fun n hn z2 => nodup_count.mp z n hn (of_decide_eq_true z2)
  have end_ : g.Nodup := nodup_count.mpr fun n hn z2 => by
    have := List.filter_eq_nil_iff.mp g1 n hn
    exact this (decide_eq_true z2)
  rw [decide_eq_true end_, Bool.true_and] at eg
  walk_at "go"
  refine ⟨p, rfl, ⟨_, Evl.ex_t w.sub hx4⟩, ?_⟩
  refine lc_it (itf_tup (xs := g.map V.str)) w (fun _ e => Evl.ex_t e hx4) (by rw [sizeLine_eq, List.length_map]; omega) (fun j _ acc => acc = ((g.take j).filter (usefulN cs)).map V.str) rfl ?_ ?_
  · rintro j y Gi acc D Ha Hb hj ej nD rfl ha wj ⟨rfl, hy⟩
    rw [List.getElem?_map] at hy
    obtain ⟨n, hn, rfl⟩ := Option.map_eq_some_iff.mp hy
    have ht1 : ((g.take (j + 1)).filter (usefulN cs)) = ((g.take j).filter (usefulN cs)) ++ (if usefulN cs n = true then [n] else []) := filter_snoc hn
    have keep : usefulN cs n = true → ∀ Hc, Wd (upd Gi D (.lst (((g.take j).filter (usefulN cs)).map V.str))) R Hc → _ := fun hb Hc wc => lc_keep (y := .str n) (n := (g.map V.str).length) (i := j) (Pv := fun j _ acc => acc = ((g.take j).filter (usefulN cs)).map V.str) wc ej nD ha hj (by rw [sizeLine_eq, List.length_map]; omega) (by rw [ht1, if_pos hb, List.map_append]; rfl)
    have drop : usefulN cs n = false → ∀ Hc, Wd (upd Gi D (.lst (((g.take j).filter (usefulN cs)).map V.str))) R Hc → _ := fun hb Hc wc => lc_drop (i := j) (Pv := fun j _ acc => acc = ((g.take j).filter (usefulN cs)).map V.str) wc ej nD ha (by rw [ht1, hb, if_neg (by decide), List.append_nil])
    have qd : upd Gi D (.lst (((g.take j).filter (usefulN cs)).map V.str)) dp = some (.dK (colKvs cs as)) := upd_old (ej _ _ qdp) nD
    walk_at "go"
    refine ⟨rfl, ?_⟩
    walk_at "go"
    rcases colOf_cts (n := n) hct with ⟨cc, ca, c1, c2, c3, c4⟩ | ⟨c1, c2⟩
    · have eu : usefulN cs n = useful cc := by unfold usefulN; rw [c1]
      have hct3 : SqT K (upd Gi D (.lst (((g.take j).filter (usefulN cs)).map V.str))) ca (colTup cc) := Evl.ex_t (Same.trans S4 (Same.trans ej (Same.newG nD))) c3
      refine g_dgetE wj qd c2 ?_
      refine g_ixT wj hct3 (colTup0 cc) ?_
      walk_at "go"
      refine g_neS rfl ?_
      rw [kstr_ref]
      walk_at "go"
      refine iteN (fun g1 => ?_) (fun g1 => ?_)
      · walk_at "go"
        refine keep ?_ _ wj
        rw [eu]
        unfold useful
        rw [decide_eq_false g1]
        rfl
      · walk_at "go"
        refine g_dgetE wj qd c2 ?_
        refine g_ixT wj hct3 (colTup3 cc) ?_
        walk_at "go"
        have e2 : useful cc = cc.opt := by
          unfold useful
          rw [decide_eq_true g1]
          rfl
        rw [e2] at eu
        cases e3 : cc.opt with
        | true =>
          walk_at "go"
          exact keep (by rw [eu, e3]) _ wj
        | false =>
          walk_at "go"
          exact drop (by rw [eu, e3]) _ wj
    · have := List.all_eq_true.mp eall n (List.mem_of_getElem? hn)
      rw [c1] at this
      cases this
  rintro D7 Gn7 acc7 He ej7 nD7 rfl ha7 w
  rw [List.length_map, List.take_length] at w
  walk_at "go"
  refine g_newA w (by walk_at "sz") fun q9 G9 H9 n9 s9 q9' w9 => ?_
  refine g_neF w9 (SqL.of (s9 _ _ upd_same)) (SqL.of q9') (flats _) rfl ?_
  rw [eqVs_nil]
  have fin := k _ (w9.drop (Same.trans S4 (Same.trans ej7 (Same.trans (Same.newG nD7) s9))))
  rw [eg] at fin
  have ea : (!decide (g.filter (usefulN cs) = [])) = g.any (usefulN cs) := by
    apply Bool.eq_iff_iff.mpr
    rw [List.any_eq_true, Bool.not_eq_true', decide_eq_false_iff_not, List.filter_eq_nil_iff]
    constructor
    · intro h
      exact Classical.byContradiction fun z => h fun n hn q => z ⟨n, hn, q⟩
    · rintro ⟨n, hn, q⟩ h
      exact h n hn q
  rw [ea]
  exact fin
end
end Sv


set_option Elab.async false
set_option linter.all false
set_option maxRecDepth 100000
set_option maxHeartbeats 4000000
namespace Sw
open PySem PySem.Spec PyProof.Rows L2
/-! ### a lambda handed to a def: the world behind its making -/
/-- all but the code tables stays -/
def SameN (G G' : Hp) : Prop := ∀ b o, G b = some o → (∀ ps, o ≠ .tbl ps) → G' b = some o
theorem SameN.of {G G' : Hp} (e : Same G G') : SameN G G' := fun b o h _ => e b o h
theorem SameN.trans {G G1 G2 : Hp} (a : SameN G G1) (b : SameN G1 G2) : SameN G G2 := fun c o h n => b c o (a c o h n) n
theorem g_lam {G H : Hp} {R : Res} {T : List (Addr × Str)} {TT : (XK → Hp → VK → Prop) → Hp → VK → Prop} {t : XK → TE} {σ : L2.St} {Q : VK} (w : Wd G R H) (hT : LamX.Tabs T G) (hR : ∀ b ∈ R.L, ∃ xs, H b = some (.lst xs))
    (k : ∀ G' H1, SameN G G' → LamX.Tabs T G' → Wd G' R H1 → TT (fun E H' Q' => t E σ H' Q') H1 Q) : LamX.tLam T TT t σ H Q := by
  refine ⟨hT.ext w.sub, fun H1 eN T1 => ?_⟩
  have hL : ∀ b ∈ R.L, ∃ xs, H1 b = some (.lst xs) ∧ H b = some (.lst xs) := fun b hb => by
    obtain ⟨xs, h⟩ := hR b hb
    exact ⟨xs, eN b _ h (fun ps z => nomatch z), h⟩
  have notin : ∀ b o, G b = some o → b ∉ R.L := fun b o h => w.notin h
  refine k (fun b => if b ∈ R.L then none else H1 b) H1 (fun b o h n => ?_) (fun p hp => ?_) ⟨fun b u e => ?_, fun b hb => if_pos hb, R.st _ _ w.res fun b hb => ?_⟩
  · show (if b ∈ R.L then none else H1 b) = some o
    rw [if_neg (notin b o h)]
    exact eN b o (w.sub _ _ h) n
  · obtain ⟨ps, h1, h2, h3⟩ := T1 p hp
    obtain ⟨ps0, g1, _⟩ := hT p hp
    refine ⟨ps, (if_neg (notin _ _ g1)).trans h1, h2, fun pos cv hc => ?_⟩
    obtain ⟨c, e1, e2⟩ := h3 pos cv hc
    refine ⟨c, e1, ?_⟩
    refine (if_neg fun hb => ?_).trans e2
    obtain ⟨xs, q, _⟩ := hL c hb
    rw [q] at e2
    cases e2
  · have e : (if b ∈ R.L then none else H1 b) = some u := e
    by_cases hb : b ∈ R.L
    · rw [if_pos hb] at e; cases e
    · rw [if_neg hb] at e; exact e
  · obtain ⟨xs, q1, q2⟩ := hL b hb
    rw [q1, q2]
end Sw

set_option Elab.async false
set_option linter.all false
set_option maxRecDepth 100000
set_option maxHeartbeats 4000000
namespace Sw
open PySem PySem.Spec PyProof.Rows L2
/-! ### a lambda handed to a def that calls it within a try: with room, the error told at the locals as they stand -/
abbrev lamFn (q : Str) (params : Arguments) (body : Expr) (scope : Scope) (cl : List (Str × Addr)) (pm cv ctv : Value) : FuncData := PySem.W.kla_fn "<lambda>" q params body scope cl pm cv ctv
abbrev lamOb (q : Str) (params : Arguments) (body : Expr) (scope : Scope) (cl : List (Str × Addr)) (pm : Value) (c' : Addr) (ctv : Value) : Obj := PySem.W.kla_obj "<lambda>" q params body scope cl pm c' ctv
/-- x() -/
def tAct (f c' : Addr) (q : Str) (tl : XK → Hp → VK → Prop) (W : WX) : TE := fun σZ HZ Q => σZ[0]? = some (some (.ref f)) ∧ HZ c' = some (LamX.CodeO c' q) ∧ tl (WE W σZ) HZ Q
section
variable {X : Cx} {pins : List (Addr × Obj)} {σ : L2.St} {H : Hp} {s : Shared}
abbrev hostCx (P : Program) (w : World) (K : PySem.W.Frag) (mg : Str → Option Value) (base : Heap) (N : List Str) (q : Str) (sg : Scope) (g : Addr) (cdg : Value) (A : Around) (st : List Env) (s : Shared) (H : Hp) : Cx := cxOf C8.CX0 P w K mg base N q sg g cdg A st s H C8.E0
theorem pe_actR {Ng : List Str} {qg : Str} {sg : Scope} {g f c' : Addr} {cdg pm ctv : Value} {params : Arguments} {body : Expr} {scope : Scope} {k i : Nat} {a : Str} {pn : List (Addr × Obj)} {xe : Value → Shared → Prop} {W : WX} {tb : XK → TE} {p1 p2 : Pos}
    (I : Inv X pins σ H s) (L : LamX.LamS X.env.scope scope) (hf : s.heap.get? f = some (lamOb (X.env.qual ++ "<lambda>") params body scope (cloFrom X.env.cells scope.names []) pm c' ctv)) (hfn : H f = none) (hfr : f ∉ frs X.stack)
    (hbind : bindArgs (lamFn (X.env.qual ++ "<lambda>") params body scope (cloFrom X.env.cells scope.names []) pm (.ref c') ctv) ⟨[], []⟩ = pure [])
    (tk : Takes ((hostCx X.prog X.w X.K X.mg X.base Ng qg sg g cdg X.A X.stack s H).tr pn xe) W) (hr : Room (k + 1) (X.A.deeper (envOfC qg sg s.heap.objs.size g cdg)))
    (hbody : ∀ (A : Around) (outer : List Env) (s : Shared) (H : Hp) (E : XK), Room k (A.deeper (LamX.lamEnv X scope s.heap.objs.size f c')) → PE (LamX.lamCx X A outer s H E scope f c') body (tb E))
    (hN : Ng[i]? = some a) (hi0 : i = 0) (hv : Vis sg a) (hd : (a == ("__debug__" : Str)) = false := by decide) (hcd : (a == ("__classdict__" : Str)) = false := by decide) :
    PE ((hostCx X.prog X.w X.K X.mg X.base Ng qg sg g cdg X.A X.stack s H).tr pn xe) (.Call (.Name a p1) [] [] p2) (tAct f c' (X.env.qual ++ "<lambda>") (fun E H' Q' => tb E σ H' Q') W) := by
  subst hi0
  refine ⟨fun pinsZ sZ σZ HZ Q IZ h => ?_⟩
  obtain ⟨hs, hc, ht⟩ := h
  have rd := (pe_var (pos := p1) (i := 0) hN hv hd hcd).run pinsZ sZ σZ HZ (fun v H1 => v = .ref f ∧ H1 = HZ) IZ ⟨.ref f, hs, rfl, rfl⟩
  refine wpAny_Call_Name_kw (thn rd ?_)
  rintro u s1 ⟨v, H1, I1, r1, rfl, rfl⟩
  obtain rfl : u = Value.ref f := r1
  have at1 := I1.base.keep f _ hf hfn hfr (by intro z; cases (show f ∈ ([] : List Addr) from z))
  refine PySem.W.callWith_F0 ⟨_, _, _, _, at1⟩ ?_
  have un : Un (frs X.stack) [] H H1 s.heap s1.heap := I1.base
  obtain ⟨⟨oc, vs, t, hoc, hdc, hvc⟩, _, _⟩ := I1.hok c' _ hc
  generalize hA : X.A.deeper (envOfC qg sg s.heap.objs.size g cdg) = Ag at hr
  have rc : codeAny (model X.prog X.w) Ag (.call (.ref f) ⟨[], []⟩)
      (CR (L2.CX X.prog X.w) (envOfC qg sg s.heap.objs.size g cdg :: X.stack) X.prog X.w H1 s1 Q (WE W σZ)) s1 := by
    refine PySem.W.kla_callFunE hr.depth at1 rfl L.co L.gen rfl ⟨c', oc, vs, t, rfl, hoc, hdc, hvc⟩ ?_
    rw [hbind]
    have noCell : ∀ y ∈ scope.names, y.2 ≠ .cell := fun y hy => (L.own y hy).2
    refine wpAny_pure (wpAny_newFunctionEnv noCell (fun y hy => absurd hy (by simp)) ?_ L.kind)
    intro h₁ hns hsb
    refine ⟨I1.nolimit.fresh _ hsb, ?_⟩
    show codeAny _ _ (.expr body (LamX.lamEnv X scope s1.heap.objs.size f c')) _ _
    have kp : ∀ b o, s1.heap.get? b = some o → h₁.get? b = some o := by
      intro b o e
      exact hsb.extBut b o (Nat.ne_of_lt (Heap.lt_size e)) (Heap.get?_push_of_some _ e)
    have e0 := I1.env0
    have J : Inv (LamX.lamCx X Ag (envOfC qg sg s.heap.objs.size g cdg :: X.stack) s1 H1 (WE W σZ) scope f c') [] σ H1 { s1 with heap := h₁, toks := s1.toks + ([] : List (Str × Value)).length } :=
      LamX.lam_start2 I L (by subst hA; exact e0) hr.hd un hns kp
    have rb := (hbody Ag _ s1 H1 (WE W σZ) (hr.deeper _)).run [] _ _ H1 Q J ht
    refine PySem.W.kla_codeExpr (wpAny_mono rb ?_ fun e s' hq => hq)
    rintro v s' ⟨w', H', J', rv, q⟩
    exact ⟨w', H', J'.os, J'.bare, J'.base, J'.hok, rv, q⟩
  subst hA
  refine wpAny_call (codeAny_mono rc ?_)
  intro r s' hq
  match r, hq with
  | .error e, hq => exact passAt tk σZ pinsZ H1 s1 e s' I1 hq
  | .ok (.ret u), hq => exact I1.after hq
  | .ok .next, hq => exact False.elim hq
  | .ok .brk, hq => exact False.elim hq
  | .ok .cont, hq => exact False.elim hq
end
/-- the host's body: what it makes of the lambda's reading -/
def GivesR (P : Program) (w : World) (K : PySem.W.Frag) (mg : Str → Option Value) (base : Heap) (Ng : List Str) (x : Str) (sg : Scope) (g : Addr) (cdg : Value) (bg : List Stmt) (a : Str) (TT : (XK → Hp → VK → Prop) → Hp → VK → Prop) : Prop :=
  ∀ (A : Around) (st : List Env) (q : Str) (f c' : Addr) (s : Shared) (H : Hp) (Q : VK) (tl : XK → Hp → VK → Prop), Room 1 (A.deeper (envOfC x sg s.heap.objs.size g cdg)) →
    (∀ (W : WX) (pn : List (Addr × Obj)) (xe : Value → Shared → Prop) (p1 p2 : Pos), Takes ((hostCx P w K mg base Ng x sg g cdg A st s H).tr pn xe) W →
      PE ((hostCx P w K mg base Ng x sg g cdg A st s H).tr pn xe) (.Call (.Name a p1) [] [] p2) (tAct f c' q tl W)) →
    H c' = some (LamX.CodeO c' q) → TT tl H Q →
    ∃ t, PSs (hostCx P w K mg base Ng x sg g cdg A st s H).nox bg t ∧ t { nx := fun _ H' => Q .non H', rt := Q } (L2.start Ng [.ref f]) H
structure GLam (P : Program) (w : World) (K : PySem.W.Frag) (mg : Str → Option Value) (base : Heap) (x : Str) (TT : (XK → Hp → VK → Prop) → Hp → VK → Prop) : Prop where
  ex : ∃ (g : Addr) (a : Str) (pg : Arguments) (bg : List Stmt) (sg : Scope) (kV doc pm cdv ct oc : Value) (an od : Option Addr) (osl : Array (Option Value)) (Ng : List Str),
    mg x = some (.ref g) ∧ PySem.W.keepIn K (.ref g) = true ∧ K.lookup g = some ⟨oc, od, .func (PySem.W.fnOf x x pg bg sg .none kV doc pm an cdv ct), osl⟩ ∧ PySem.W.codeIn K cdv x = true ∧
    L2.Binds K (PySem.W.fnOf x x pg bg sg .none kV doc pm an cdv ct) [a] [] ∧ FnScope Ng [a] sg ∧ Ng[0]? = some a ∧ Vis sg a ∧ (a == ("__debug__" : Str)) = false ∧ (a == ("__classdict__" : Str)) = false ∧
    GivesR P w K mg base Ng x sg g cdv bg a TT
/-- what the making of lambdas asks of the maker: its code object and table -/
structure LamAt (X : Cx) (T : List (Addr × Str)) : Prop where
  ex : ∃ c P, LamX.TabB X.base X.mg c P ∧ X.env.code = .ref c ∧ (P, X.env.qual ++ "<lambda>") ∈ T ∧ ∀ p ∈ T, p.1 = P → p.2 = X.env.qual ++ "<lambda>"
section
variable {X : Cx}
theorem pe_lamR {T : List (Addr × Str)} {TT : (XK → Hp → VK → Prop) → Hp → VK → Prop} {x : Str} {k : Nat} {params : Arguments} {body : Expr} {scope : Scope} {t : XK → TE} {p lpos pos : Pos}
    (G : GLam X.prog X.w X.K X.mg X.base x TT) (M : LamAt X T) (hr : Room (k + 2) X.A) (L : LamX.LamS X.env.scope scope)
    (hbody : ∀ (A : Around) (outer : List Env) (s : Shared) (H : Hp) (E : XK) (f c' : Addr), Room k (A.deeper (LamX.lamEnv X scope s.heap.objs.size f c')) → PE (LamX.lamCx X A outer s H E scope f c') body (t E))
    (hg : Gl X x := by rfl) (hdef : defaultsOf params X.env = ([], []) := by rfl)
    (hbind : ∀ (q : Str) (cl : List (Str × Addr)) (pm cv ctv : Value), bindArgs (lamFn q params body scope cl pm cv ctv) ⟨[], []⟩ = pure [] := by intros; rfl)
    (hdb : (x == ("__debug__" : Str)) = false := by decide) :
    PE X (.Call (.Name x p) [.Lambda params body scope lpos] [] pos) (LamX.tLam T TT t) := by
  obtain ⟨g, a, pg, bg, sg, kV, doc, pm, cdv, ct, oc, an, od, osl, Ng, hm, hk, lk, hcg, hb, Sg, hNg, hva, hd, hcd, hG⟩ := G.ex
  obtain ⟨c, P, TB, hcode, hmT, hu⟩ := M.ex
  refine ⟨fun pins s σ H Q I h => ?_⟩
  obtain ⟨hT, h⟩ := h
  refine wpAny_Call_Name_kw (ld_glob I hg hm ?_ hdb)
  refine PySem.W.callWith_K (h₀ := X.base) I.ok.mod.kin hk ?_ (by rfl) (by rfl)
  show wpAny _ _ (spliced ((false, eval (.Lambda params body scope lpos) X.env) :: backTo pos (starEach [] X.env))) _ _ s
  refine Calls.spliced_cons (LamX.lam_make2 I TB hcode hmT hu hT hdef (L.has I.ok) ?_)
  intro f c' pm' ctv H1 s' I1 eN T1 hf hfn hfr hco
  refine Calls.spliced_nil ⟨I1.kIn, ?_⟩
  have rc : codeAny (model X.prog X.w) X.A (.call (.ref g) ⟨[.ref f], []⟩) (CR C8.CX0 X.stack X.prog X.w H1 s' Q C8.E0) s' := by
    refine LamX.run_ofS (N := Ng) (ps := [a]) (us := [.ref f]) (vs := [.ref f]) lk hcg Sg hr I1.env0 (hb s' [.ref f] I1.kIn rfl) (.cons rfl .nil) rfl ?_
    intro hr'
    have act := fun (W : WX) (pn : List (Addr × Obj)) (xe : Value → Shared → Prop) (p1 p2 : Pos) (tk : Takes ((hostCx X.prog X.w X.K X.mg X.base Ng x sg g cdv X.A X.stack s' H1).tr pn xe) W) =>
      pe_actR (p1 := p1) (p2 := p2) (i := 0) I1 L hf hfn hfr (hbind _ _ _ _ _) tk hr' (fun A outer s H E hr2 => hbody A outer s H E f c' hr2) hNg rfl hva hd hcd
    obtain ⟨t', ht', hq'⟩ := hG X.A X.stack _ f c' s' H1 Q (fun E H' Q' => t E σ H' Q') (hr'.mono (by omega)) act hco (h H1 eN T1)
    exact ⟨t', ht'.nox, hq'⟩
  refine wpAny_call (codeAny_mono rc ?_)
  intro r s2 hq
  match r, hq with
  | .error e, hq => exact (show False from hq).elim
  | .ok (.ret u), hq => exact I1.after hq
  | .ok .next, hq => exact False.elim hq
  | .ok .brk, hq => exact False.elim hq
  | .ok .cont, hq => exact False.elim hq
end
end Sw

set_option Elab.async false
set_option linter.all false
set_option maxRecDepth 100000
set_option maxHeartbeats 4000000
namespace Sv
open PySem PySem.Spec PyProof.Rows L2 Sw
local macro_rules | `(tactic| walk_at "go1") => `(tactic| first
  | ((with_reducible refine' g_var ?hv ?_); (case hv => rfl))
  | with_reducible refine g_c ?_
  | with_reducible refine g_op ?_
  | with_reducible refine g_un ?_
  | with_reducible refine g_seq ?_
  | with_reducible refine g_next ?_
  | with_reducible refine g_asg ?_
  | with_reducible refine g_name ?_
  | with_reducible refine g_drop ?_
  | with_reducible refine g_sub ?_
  | with_reducible refine g_ret ?_
  | with_reducible refine g_retN ?_
  | with_reducible refine g_ifS ?_
  | with_reducible refine g_if ?_
  | with_reducible refine g_test ?_
  | with_reducible refine g_bl ?_
  | with_reducible refine g_cons ?_
  | with_reducible refine g_nil ?_
  | with_reducible refine g_and ?_
  | with_reducible refine g_or ?_
  | with_reducible refine g_not ?_
  | with_reducible refine g_callB ?_
  | with_reducible refine g_addI ?_
  | with_reducible refine g_I0 ?_
  | with_reducible refine g_calG ?_
  | with_reducible refine g_mkG ?_
  | with_reducible refine g_tup ?_
  | with_reducible refine g_pairs1 ?_
  | with_reducible refine g_pairs0 ?_
  | with_reducible refine g_dget ?_
  | with_reducible refine g_lvals ?_
  | with_reducible refine g_forT ?_
  | with_reducible refine g_lcT ?_
  | with_reducible refine g_dput ?_
  | with_reducible refine g_lc2L ?_
  | with_reducible refine g_iList ?_
  | with_reducible refine g_lcX ?_
  | with_reducible refine g_js1 ?_
  | with_reducible refine g_js0 ?_
  | with_reducible refine g_fmt ?_
  | with_reducible refine g_tLenSet ?_
  | with_reducible refine g_mkV ?_
  | with_reducible refine g_mkV1 ?_
  | with_reducible refine g_lst ?_
  | with_reducible refine g_forL ?_
  | with_reducible refine g_forR ?_
  | with_reducible refine g_forR2 ?_
  | with_reducible refine g_forS ?_
  | with_reducible refine g_forE ?_
  | with_reducible refine g_forEB ?_
  | with_reducible refine g_lcL ?_
  | with_reducible refine g_lcR ?_
  | with_reducible refine g_lcS ?_
  | with_reducible refine g_lcE ?_
  | with_reducible refine g_lcEB ?_
  | with_reducible refine g_orT ?_
  | with_reducible refine g_slc ?_
  | with_reducible refine g_noPart ?_
  | with_reducible refine g_part ?_
  | with_reducible refine g_bm ?_
  | with_reducible refine g_par ?_
  | with_reducible refine g_yes ?_
  | with_reducible refine g_tupG ?_
  | with_reducible refine g_lstG ?_
  | with_reducible refine g_gcons ?_
  | with_reducible refine g_gnil ?_
  | with_reducible refine g_chain ?_
  | with_reducible refine g_truB ?_
  | with_reducible refine g_truN ?_
  | with_reducible refine g_truI ?_
  | with_reducible refine g_m1 ?_
  | with_reducible refine g_fld ?_
  | with_reducible refine g_con ?_
  | with_reducible refine g_tru ?_
  | with_reducible refine g_U ?_
  | with_reducible refine g_xg ?_
  | with_reducible refine g_andT ?_
  | with_reducible refine g_exI ?_
  | with_reducible refine g_dnew ?_
  | with_reducible refine g_intB ?_
  | with_reducible refine g_meth ?_
  | with_reducible refine g_prop ?_
  | with_reducible refine g_exc1 ?_
  | with_reducible refine g_setF ?_
  | with_reducible refine g_star ?_
  | with_reducible refine g_strM ?_
  | with_reducible refine iteT ?_
  | with_reducible refine iteF ?_
  | with_reducible refine iteNT ?_
  | with_reducible refine iteNF ?_)
local macro_rules | `(tactic| walk_at "go") => `(tactic| repeat (walk_at "go1"))
local macro_rules | `(tactic| walk_at "sz") => `(tactic| (first | (rw [sizeLine_eq]; simp only [List.length_cons, List.length_nil, List.length_map, List.length_append, List.length_take]; omega) | (rw [sizeLine_eq]; omega)))
/-! ### _law_tried: what a lambda's call returns in a list, or its error -/
def trCs (A : Ad) : List Addr := [A.InvalidName, A.InvalidColumn, A.InvalidGroup, A.UnknownColumn]
def trW : Nat → Str
  | 0 => "name"
  | 1 => "column"
  | 2 => "group"
  | _ => "unknown"
def trF : Nat → Str
  | 2 => "index"
  | _ => "name"
structure TrF (K : PySem.W.Frag) (A : Ad) : Prop where
  em : ∀ C ∈ trCs A, PySem.W.exmOne K (.ref C) (.ref A.SaveError) = some true
  ec : ∀ C ∈ trCs A, ExcC K C
  xf : ∀ C ∈ trCs A, XfC K C
  ki : ∀ (i j : Nat) (C D : Addr), (trCs A)[i]? = some C → (trCs A)[j]? = some D → PySem.W.kitOne K (.ref C) (.ref D) = some (decide (i = j))
  nl : ∀ (i : Nat) (C : Addr), (trCs A)[i]? = some C → PySem.W.findIn K (.ref C) (trF i) = some none
theorem bs_at : ∀ i < 4, ([decide (i = 0), decide (i = 1), decide (i = 2), decide (i = 3)] : List Bool)[i]? = some true := by decide
theorem bs_no : ∀ i < 4, ∀ m < i, ([decide (i = 0), decide (i = 1), decide (i = 2), decide (i = 3)] : List Bool)[m]? = some false := by decide
theorem joinSeq {s1 s2 : TS} {D : Ends} {σ : L2.St} {H : Hp} {C : L2.St → Hp → Prop} (h : ∀ N : L2.St → Hp → Prop, (∀ σ' H', C σ' H' → N σ' H') → s1 { D with nx := N } σ H) (k : ∀ σ' H', C σ' H' → s2 D σ' H') : tSeq s1 s2 D σ H := h (s2 D) k
def TTried (A : Ad) : (XK → Hp → VK → Prop) → Hp → VK → Prop := fun tl H Q => ∃ G R, Wd G R H ∧ ∀ H' E' Q', Wd G R H' →
  (∀ i C d v G' H2, (trCs A)[i]? = some C → G' d = some (.xd [(trF i, v)]) → Wd G' R H2 → (∀ t G3 H3, Same G' G3 → G3 t = some (.tup [.str (trW i), v]) → Wd G3 R H3 → Q (.ref t) H3) → E' (.ref C) (some d) H2) →
  (∀ v H2, (∀ p, H2 p = none → Q (.ref p) (upd H2 p (.lst [v]))) → Q' v H2) → tl E' H' Q'
section
variable {P : Program} {wo : World} {A : Ad} {K : PySem.W.Frag} {mg : Str → Option Value} {base : Heap}
theorem g_isX {G H : Hp} {R : Res} {Q : VK} {a d C D : Addr} {fs : List (Str × V)} {b : Bool} (w : Wd G R H) (ha : G a = some (exv a (.ref C) (some d))) (hd : G d = some (.xd fs)) (ec : ExcC K C) (hk : PySem.W.kitOne K (.ref C) (.ref D) = some b) (k : Q (.bl b) H) : rIsV K [.ref a, .ref D] H Q :=
  ⟨a, C, some d, .ref D, .ref D, b, rfl, .inr (w.get ha), fun _ z => ⟨fs, by cases z; exact .inr (w.get hd)⟩, ec, fun u r => r, hk, k⟩
theorem g_xX {G H : Hp} {R : Res} {P : V → Prop} {a d C : Addr} {fs : List (Str × V)} {f : Str} {v : V} (w : Wd G R H) (ha : G a = some (exv a (.ref C) (some d))) (hd : G d = some (.xd fs)) (xf : XfC K C) (hno : PySem.W.findIn K (.ref C) f = some none) (hl : fs.lookup f = some v) (k : P v) :
    ∃ (a' C' dd : Addr) (fs' : List (Str × V)) (v' : V), V.ref a = .ref a' ∧ ExAt H a' C' (some dd) ∧ DxAt H dd fs' ∧ XfC K C' ∧ PySem.W.findIn K (.ref C') f = some none ∧ fs'.lookup f = some v' ∧ P v' := ⟨a, C, d, fs, v, rfl, .inr (w.get ha), .inr (w.get hd), xf, hno, hl, k⟩
theorem sc__law_tried : FnScope (["_law_work", "_law_found", "_law_caught", "e", "_law_kinds", "_law_word"] : List Str) (["_law_work"] : List Str) (defScope s__law_tried) := ⟨rfl, rfl, rfl, by decide +kernel, rfl, by decide +kernel, by decide +kernel⟩
theorem gives_tried {g : Addr} {cdv : Value} (T : Txt K mg A) (TR : TrF K A) : GivesR P wo K mg base (["_law_work", "_law_found", "_law_caught", "e", "_law_kinds", "_law_word"] : List Str) "_law_tried" (defScope s__law_tried) g cdv (defBody s__law_tried) "_law_work" (TTried A) := by
  intro Ar st q f c' s H Q tl hr act hc h
  obtain ⟨G, R, w, h⟩ := h
  have tk : Takes (hostCx P wo K mg base (["_law_work", "_law_found", "_law_caught", "e", "_law_kinds", "_law_word"] : List Str) "_law_tried" (defScope s__law_tried) g cdv Ar st s H).nox (fun _ _ _ _ => False) := LamX.takes0
  refine ⟨_, (pss_cons (ps_asg (pe_tup (pa_cons pe_non (pa_cons pe_non pa_nil))) (kg_tup (n := 2) K rfl (pgs_cons (pg_name (i := 1) sc__law_tried.nd rfl (by first | exact Or.inl rfl | exact Or.inr rfl)) (pgs_cons (pg_name (i := 2) sc__law_tried.nd rfl (by first | exact Or.inl rfl | exact Or.inr rfl)) pgs_nil))))
      (pss_cons (ps_try_keep (i := 3) rfl rfl sc__law_tried.nd rfl rfl (names_of rfl T.g_SaveError) tk rfl (fun _ _ _ tk po => (pss_one (ps_set (i := 1) sc__law_tried.nd rfl (by first | exact Or.inl rfl | exact Or.inr rfl) (pe_lst (pa_cons (act _ _ _ _ _ tk) pa_nil))))) (fun _ _ _ _ _ hz hf => (pss_one (ps_set (i := 2) sc__law_tried.nd rfl (by first | exact Or.inl rfl | exact Or.inr rfl) (pv 3)))))
      (pss_cons (ps_if (pt_cmpR op_isN (pv 2) pe_non (nomark _)) (pss_one (ps_ret (pv 1))) pss_nil)
      (pss_cons (ps_set (i := 4) sc__law_tried.nd rfl (by first | exact Or.inl rfl | exact Or.inr rfl) (pe_lst (pa_cons (pe_callB (call_isV K) (by rfl) T.nb_isinstance (by decide +kernel) (pa_cons (pv 2) (pa_cons (pe_globE (by rfl) T.g_InvalidName) pa_nil))) (pa_cons (pe_callB (call_isV K) (by rfl) T.nb_isinstance (by decide +kernel) (pa_cons (pv 2) (pa_cons (pe_globE (by rfl) T.g_InvalidColumn) pa_nil))) (pa_cons (pe_callB (call_isV K) (by rfl) T.nb_isinstance (by decide +kernel) (pa_cons (pv 2) (pa_cons (pe_globE (by rfl) T.g_InvalidGroup) pa_nil))) pa_nil)))))
      (pss_cons (ps_expr (pe_bm PySem.F.plainAttrs_list PySem.F.slot_list_append PySem.F.type_list_append mt_append (pv 4) (pa_cons (pe_callB (call_isV K) (by rfl) T.nb_isinstance (by decide +kernel) (pa_cons (pv 2) (pa_cons (pe_globE (by rfl) T.g_UnknownColumn) pa_nil))) pa_nil)))
      (pss_cons (ps_if (pt_cmpR (ka_ne K hr.units) (pe_bm PySem.F.plainAttrs_list PySem.F.slot_list_count PySem.F.type_list_count (mt_bcount K) (pv 4) (pa_cons pe_bl pa_nil)) pe_int (nomark _)) (pss_one (ps_ret (pe_tup (pa_cons pe_str (pa_cons pe_non pa_nil))))) pss_nil)
      (pss_cons (ps_set (i := 5) sc__law_tried.nd rfl (by first | exact Or.inl rfl | exact Or.inr rfl) (pe_ix (ka_ix K) (pe_lst (pa_cons pe_str (pa_cons pe_str (pa_cons pe_str (pa_cons pe_str pa_nil))))) (pe_bm PySem.F.plainAttrs_list PySem.F.slot_list_index PySem.F.type_list_index mt_index (pv 4) (pa_cons pe_bl pa_nil)) (fun _ _ => rfl)))
      (pss_one (ps_ret (pe_tup (pa_cons (pv 5) (pa_cons (pe_ifExp (pt_cmpR (ka_eq K hr.units) (pv 5) pe_str (nomark _)) (pe_xv K (pv 2)) (pe_xv K (pv 2))) pa_nil)))))))))))), ?_⟩
  walk_at "go"
  refine ⟨by walk_at "sz", fun tp ntp => ?_⟩
  refine ⟨tp, _, rfl, SqT.of upd_same, rfl, ?_⟩
  have hc1 := upd_old (a := tp) (o' := HO.tup [V.non, V.non]) hc ntp
  have w1 := (w.new (o := .tup [.non, .non]) ntp).drop (Same.newG (w.free ntp))
  generalize upd H tp (.tup [.non, .non]) = H1 at *
  with_reducible refine g_gcons ?_
  with_reducible refine g_name ?_
  with_reducible refine g_gcons ?_
  with_reducible refine g_name ?_
  with_reducible refine g_gnil ?_
  with_reducible refine joinSeq (C := fun σ' H' => (∃ l, σ' = [some (.ref f), some (.ref l), some .non, none, none, none] ∧ Q (.ref l) H') ∨
    (∃ i C a d v G', (trCs A)[i]? = some C ∧ σ' = [some (.ref f), some .non, some (.ref a), none, none, none] ∧ G' a = some (exv a (.ref C) (some d)) ∧ G' d = some (.xd [(trF i, v)]) ∧ Wd G' R H' ∧ ∀ t G3 H3, Same G' G3 → G3 t = some (.tup [.str (trW i), v]) → Wd G3 R H3 → Q (.ref t) H3)) ?_ ?_
  · intro N hN
    walk_at "go"
    refine ⟨rfl, hc1, h H1 _ _ w1 (fun i C d v G' H2 hi hd w2 kq => ?_) (fun v H2 kq => ?_)⟩
    · have hm := List.mem_of_getElem? hi
      refine ⟨true, TR.em C hm, fun _ a ha => ?_, fun z => Bool.noConfusion z⟩
      walk_at "go"
      have na := w2.free ha
      refine hN _ _ (.inr ⟨i, C, a, d, v, _, hi, rfl, upd_same, upd_old hd na, w2.new ha, fun t G3 H3 e => kq t G3 H3 (Same.trans (Same.newG na) e)⟩)
    · walk_at "go"
      refine ⟨by walk_at "sz", fun p np => ?_⟩
      walk_at "go"
      exact hN _ _ (.inl ⟨p, rfl, kq p np⟩)
  rintro _ H2 (⟨l, rfl, kq⟩ | ⟨i, C, a, d, v, G', hi, rfl, ha, hd, w, kq⟩)
  · walk_at "go"
    refine ⟨rfl, _, rfl, ?_⟩
    rw [decide_eq_true (show V.non = V.non from rfl)]
    walk_at "go"
    exact kq
  have hm := List.mem_of_getElem? hi
  have hec := TR.ec C hm
  have hxf := TR.xf C hm
  have i0 := TR.ki i 0 C _ hi rfl
  have i1 := TR.ki i 1 C _ hi rfl
  have i2 := TR.ki i 2 C _ hi rfl
  have i3 := TR.ki i 3 C _ hi rfl
  have hno := TR.nl i C hi
  have hi4 : i < 4 := (List.getElem?_eq_some_iff.mp hi).1
  walk_at "go"
  refine ⟨rfl, _, rfl, ?_⟩
  rw [decide_eq_false (show ¬ (V.ref a = V.non) from fun z => nomatch z)]
  walk_at "go"
  refine g_isX w ha hd hec i0 ?_
  walk_at "go"
  refine g_isX w ha hd hec i1 ?_
  walk_at "go"
  refine g_isX w ha hd hec i2 ?_
  walk_at "go"
  refine g_newA w (by walk_at "sz") fun q2 G2 H3 n2 s2 q2' w => ?_
  walk_at "go"
  refine g_tyL w q2' ?_
  walk_at "go"
  refine g_isX w (s2 _ _ ha) (s2 _ _ hd) hec i3 ?_
  walk_at "go"
  refine g_app w q2' (by rw [sizeLine_eq]; exact (show 3 < 16777216 by decide)) fun H4 w => ?_
  walk_at "go"
  obtain ⟨bs, hbs⟩ : ∃ bs : List Bool, bs = [decide (i = 0), decide (i = 1), decide (i = 2), decide (i = 3)] := ⟨_, rfl⟩
  have eb : ([V.bl (decide (i = 0)), V.bl (decide (i = 1)), V.bl (decide (i = 2))] ++ [V.bl (decide (i = 3))]) = bs.map V.bl := by rw [hbs]; rfl
  rw [eb] at w
  have q3 : upd G2 q2 (.lst (bs.map V.bl)) q2 = some (.lst (bs.map V.bl)) := upd_same
  have S3 : Same G' (upd G2 q2 (.lst (bs.map V.bl))) := Same.setL s2 n2
  generalize upd G2 q2 (.lst (bs.map V.bl)) = G3 at *
  have hcnt : bs.count true = 1 := by
    rw [hbs]
    rcases (show i = 0 ∨ i = 1 ∨ i = 2 ∨ i = 3 by omega) with z | z | z | z <;> (subst z; decide)
  refine g_tyL w q3 ?_
  walk_at "go"
  refine ⟨q2, bs, true, rfl, rfl, SqL.of (w.get q3), ?_⟩
  rw [hcnt]
  walk_at "go"
  refine g_neS rfl ?_
  rw [decide_eq_true (show V.int ((1 : Nat) : Int) = V.int 1 from rfl)]
  walk_at "go"
  refine g_newA w (by walk_at "sz") fun q4 G4 H5 n4 s4 q4' w => ?_
  walk_at "go"
  refine g_tyL w (s4 _ _ q3) ?_
  walk_at "go"
  have hix : (bs.map V.bl)[i]? = some (.bl true) := by
    rw [List.getElem?_map, hbs, bs_at i hi4]
    rfl
  refine ⟨q2, bs.map V.bl, .bl true, i, .bl true, rfl, rfl, Evl.ex_l w.sub (SqL.of (s4 _ _ q3)), rfl, by rw [List.all_map]; exact List.all_eq_true.mpr fun _ _ => rfl, hix, rfl, fun m z' hm hz => ?_, ?_⟩
  · rw [List.getElem?_map, hbs, bs_no i hi4 m hm] at hz
    cases hz
    rfl
  have hw : ([V.str "name", .str "column", .str "group", .str "unknown"] : List V)[i]? = some (.str (trW i)) := by
    rcases (show i = 0 ∨ i = 1 ∨ i = 2 ∨ i = 3 by omega) with z | z | z | z <;> (subst z; rfl)
  refine g_ixL w (SqL.of q4') (L2.atI_nat (j := i) hw) ?_
  walk_at "go"
  refine g_eqS rfl ?_
  have hg : decide (V.str (trW i) = V.str "group") = decide (i = 2) := by
    rcases (show i = 0 ∨ i = 1 ∨ i = 2 ∨ i = 3 by omega) with z | z | z | z <;> (subst z; decide +kernel)
  rw [hg]
  walk_at "go"
  have S4 : Same G' G4 := Same.trans S3 s4
  refine iteD (fun h1 => ?_) (fun h1 => ?_)
  · have ef : trF i = "index" := by rw [h1]; rfl
    rw [ef] at hd hno
    walk_at "go"
    refine g_tXv ?_
    walk_at "go"
    refine g_xX w (S4 _ _ ha) (S4 _ _ hd) hxf hno lk_eq ?_
    walk_at "go"
    refine g_newA w (by walk_at "sz") fun t G7 H7 n7 s7 q7 w => ?_
    exact kq t G7 H7 (Same.trans S4 s7) q7 w
  · have ef : trF i = "name" := by
      rcases (show i = 0 ∨ i = 1 ∨ i = 2 ∨ i = 3 by omega) with z | z | z | z <;> (subst z; first | rfl | exact absurd rfl h1)
    rw [ef] at hd hno
    walk_at "go"
    refine g_tXv ?_
    walk_at "go"
    refine g_xX w (S4 _ _ ha) (S4 _ _ hd) hxf hno lk_eq ?_
    walk_at "go"
    refine g_newA w (by walk_at "sz") fun t G7 H7 n7 s7 q7 w => ?_
    exact kq t G7 H7 (Same.trans S4 s7) q7 w
end
end Sv


set_option Elab.async false
set_option linter.all false
set_option maxRecDepth 100000
set_option maxHeartbeats 4000000
namespace Sw
open PySem PySem.Spec PyProof.Rows L2
/-! ### x not in a tuple, data of any depth -/
def rNiDT (K : PySem.W.Frag) : R2 := fun x y H Q => ∃ d ds, Dp K H x d ∧ Dp K H y (.tuple ds) ∧ SeqAt.shaped d = true ∧ SeqAt.shaped (.tuple ds) = true ∧ Q (.bl (!ds.any fun z => PyData.eqv z d)) H
theorem op_niDT {X : Cx} (hu : X.A.units + 65 < cLine) : OpR X (compareOp .NotIn) (rNiDT X.K) := by
  intro pins s σ H x y v u Q I rx ry h
  obtain ⟨d, ds, hd, he, sd, se, q⟩ := h
  obtain ⟨as, r1⟩ := Dp.reads I d x v hd rx
  obtain ⟨bs, r2⟩ := Dp.reads I (.tuple ds) y u he ry
  exact SeqAt.notIn_tuple_reads r2 r1 (SeqAt.canLay_of_shaped se) (SeqAt.canLay_of_shaped sd) (room_in_shaped sd hu) ⟨.bl _, H, I, rfl, q⟩
theorem ka_niDT {X : Cx} (K : PySem.W.Frag) (hu : X.A.units + 65 < cLine) (hK : X.K = K := by rfl) : OpR X (compareOp .NotIn) (rNiDT K) := by subst hK; exact op_niDT hu
/-- tuple(x) with the written part named (within a lambda) -/
def rTupOf (K : PySem.W.Frag) : List V → Hp → VK → Prop := fun xs H Q => ∃ p ys, xs = [V.ref p] ∧ ((SqL K H p ys ∧ ∀ (l : Addr), H l = none → Q (V.ref l) (upd H l (HO.tup ys))) ∨ SqT K H p ys ∧ Q (V.ref p) H)
theorem ka_tupleN {X : Cx} (K : PySem.W.Frag) (hK : X.K = K := by rfl) : CallR X (.type "tuple") (rTupOf K) := by subst hK; exact call_tuple_of
/-- tuple * int with the written part named -/
theorem ka_repT {X : Cx} (K : PySem.W.Frag) (hK : X.K = K := by rfl) : OpR X (binaryOp .Mult) (rRepT K) := by subst hK; exact op_repT
end Sw

set_option Elab.async false
set_option linter.all false
set_option maxRecDepth 100000
set_option maxHeartbeats 4000000
namespace Sv
open PySem PySem.Spec PyProof.Rows L2 Sw
local macro_rules | `(tactic| walk_at "go1") => `(tactic| first
  | ((with_reducible refine' g_var ?hv ?_); (case hv => rfl))
  | with_reducible refine g_c ?_
  | with_reducible refine g_op ?_
  | with_reducible refine g_un ?_
  | with_reducible refine g_seq ?_
  | with_reducible refine g_next ?_
  | with_reducible refine g_asg ?_
  | with_reducible refine g_name ?_
  | with_reducible refine g_drop ?_
  | with_reducible refine g_sub ?_
  | with_reducible refine g_ret ?_
  | with_reducible refine g_retN ?_
  | with_reducible refine g_ifS ?_
  | with_reducible refine g_if ?_
  | with_reducible refine g_test ?_
  | with_reducible refine g_bl ?_
  | with_reducible refine g_cons ?_
  | with_reducible refine g_nil ?_
  | with_reducible refine g_and ?_
  | with_reducible refine g_or ?_
  | with_reducible refine g_not ?_
  | with_reducible refine g_callB ?_
  | with_reducible refine g_addI ?_
  | with_reducible refine g_I0 ?_
  | with_reducible refine g_calG ?_
  | with_reducible refine g_mkG ?_
  | with_reducible refine g_tup ?_
  | with_reducible refine g_pairs1 ?_
  | with_reducible refine g_pairs0 ?_
  | with_reducible refine g_dget ?_
  | with_reducible refine g_lvals ?_
  | with_reducible refine g_forT ?_
  | with_reducible refine g_lcT ?_
  | with_reducible refine g_dput ?_
  | with_reducible refine g_lc2L ?_
  | with_reducible refine g_iList ?_
  | with_reducible refine g_lcX ?_
  | with_reducible refine g_js1 ?_
  | with_reducible refine g_js0 ?_
  | with_reducible refine g_fmt ?_
  | with_reducible refine g_tLenSet ?_
  | with_reducible refine g_mkV ?_
  | with_reducible refine g_mkV1 ?_
  | with_reducible refine g_lst ?_
  | with_reducible refine g_forL ?_
  | with_reducible refine g_forR ?_
  | with_reducible refine g_forR2 ?_
  | with_reducible refine g_forS ?_
  | with_reducible refine g_forE ?_
  | with_reducible refine g_forEB ?_
  | with_reducible refine g_lcL ?_
  | with_reducible refine g_lcR ?_
  | with_reducible refine g_lcS ?_
  | with_reducible refine g_lcE ?_
  | with_reducible refine g_lcEB ?_
  | with_reducible refine g_orT ?_
  | with_reducible refine g_slc ?_
  | with_reducible refine g_noPart ?_
  | with_reducible refine g_part ?_
  | with_reducible refine g_bm ?_
  | with_reducible refine g_par ?_
  | with_reducible refine g_yes ?_
  | with_reducible refine g_tupG ?_
  | with_reducible refine g_lstG ?_
  | with_reducible refine g_gcons ?_
  | with_reducible refine g_gnil ?_
  | with_reducible refine g_chain ?_
  | with_reducible refine g_truB ?_
  | with_reducible refine g_truN ?_
  | with_reducible refine g_truI ?_
  | with_reducible refine g_m1 ?_
  | with_reducible refine g_fld ?_
  | with_reducible refine g_con ?_
  | with_reducible refine g_tru ?_
  | with_reducible refine g_U ?_
  | with_reducible refine g_xg ?_
  | with_reducible refine g_andT ?_
  | with_reducible refine g_exI ?_
  | with_reducible refine g_dnew ?_
  | with_reducible refine g_intB ?_
  | with_reducible refine g_meth ?_
  | with_reducible refine g_prop ?_
  | with_reducible refine g_exc1 ?_
  | with_reducible refine g_setF ?_
  | with_reducible refine g_star ?_
  | with_reducible refine g_strM ?_
  | with_reducible refine iteT ?_
  | with_reducible refine iteF ?_
  | with_reducible refine iteNT ?_
  | with_reducible refine iteNF ?_)
local macro_rules | `(tactic| walk_at "go") => `(tactic| repeat (walk_at "go1"))
local macro_rules | `(tactic| walk_at "sz") => `(tactic| (first | (rw [sizeLine_eq]; simp only [List.length_cons, List.length_nil, List.length_map, List.length_append, List.length_take]; omega) | (rw [sizeLine_eq]; omega)))
/-- the error as a tuple, or None -/
def errD (v : V) : TRes → Option (Nat × V)
  | .name => some (0, v)
  | .col o => some (1, optV o)
  | .grp i => some (2, .int (i : Nat))
  | .ok => none
def ResV (G : Hp) (r : V) (e : Option (Nat × V)) : Prop := (e = none ∧ r = .non) ∨ (∃ i u t, e = some (i, u) ∧ r = .ref t ∧ G t = some (.tup [.str (trW i), u]))
def okNames : List PyData := [.str "a", .str "zzzzzzzz", .str "ref"]
section
variable {P : Program} {wo : World} {A : Ad} {K : PySem.W.Frag} {mg : Str → Option Value} {base : Heap}
/-! ### _law_due -/
def spLDue3 (K : PySem.W.Frag) : Sp := fun vs H Q _ => ∃ G R v dv b cl gl cs as us os, vs = [v, .ref cl, .ref gl] ∧ Wd G R H ∧ G cl = some (.lst (as.map V.ref)) ∧ CTs K G cs as ∧ 1 ≤ as.length ∧ as.length ≤ 1000 ∧ (∀ H', Same G H' → Dp K H' v dv) ∧ SeqAt.shaped dv = true ∧ (okNames.any fun z => PyData.eqv z dv) = b ∧ G gl = some (.lst us) ∧ Paired (fun u o => GrpV K G u o) us os ∧ us.length ≤ 1000 ∧
  ∀ r G' H', Same G G' → ResV G' r (errD v (tabRes b cs os)) → Wd G' R H' → Q r H'
theorem sc__law_due : FnScope (["_law_name", "_law_columns", "_law_groups_here", "_law_names_here", "_law_twice", "_law_wrong", "_law_at", "_law_column_here", "_law_group", "_law_one"] : List Str) (["_law_name", "_law_columns", "_law_groups_here"] : List Str) (defScope s__law_due) := ⟨rfl, rfl, rfl, by decide +kernel, rfl, by decide +kernel, by decide +kernel⟩
theorem ok_ldue3 {f : Addr} {fd : FuncData} (F : Fun K "_law_due" "_law_due" s__law_due f fd) (T : Txt K mg A) (Glig : GFn P wo K mg base 1 "_law_is_group" 2 [] (fun vs _ => spLIsG K vs)) : FnOk P wo K mg base (L2.CX P wo) 2 f fd (["_law_name", "_law_columns", "_law_groups_here"] : List Str) (spLDue3 K) := by
  refine okT F sc__law_due (fun vs H Q E h => ?_) (fun cdv Ar outer s H vs Q E hr tk po h => ?_)
  · obtain ⟨_, _, _, _, _, _, _, _, _, _, _, rfl, _⟩ := h
    rfl
  obtain ⟨G, R, v, dv, b, cl, gl, cs, as, us, os, rfl, w, hcl, hct, la1, las, hdv, shv, hb, hgl, hgr, lus, k⟩ := h
  refine ⟨_, (pss_cons (ps_if (pt_cmpR (ka_niDT K (Nat.lt_of_le_of_lt (Nat.add_le_add_left (by decide : 65 ≤ 120) _) (hu120 hr))) (pv 0) (pe_tup (pa_cons pe_str (pa_cons pe_str (pa_cons pe_str pa_nil)))) (by first | exact nomark _ | rfl)) (pss_one (ps_ret (pe_tup (pa_cons pe_str (pa_cons (pv 0) pa_nil))))) pss_nil)
      (pss_cons (ps_set (i := 3) sc__law_due.nd rfl (by first | exact Or.inl rfl | exact Or.inr rfl) (pe_lc (own := [("_law_column_here", 7)]) (g := (gName 7)) (tt := tYes) rfl sc__law_due.nd (ki_list K (pv 1)) (blkOk_by (N := (["_law_name", "_law_columns", "_law_groups_here", "_law_names_here", "_law_twice", "_law_wrong", "_law_at", "_law_column_here", "_law_group", "_law_one"] : List Str)) (sc := defScope s__law_due) (by decide +kernel)) (fun _ _ _ _ _ => (pg_name (i := 7) sc__law_due.nd rfl (by first | exact Or.inl rfl | exact Or.inr rfl))) (fun _ _ _ _ _ => pts_nil) (fun _ _ _ _ _ => (pe_ix (ka_ix K) (pv 7) pe_int (fun _ _ => rfl)))))
      (pss_cons (ps_setLc (i := 4) (own := [("_law_at", 6), ("_law_one", 9)]) (g := (gTup K 2 (gCons (gName 6) (gCons (gName 9) gNil)))) (tt := _) rfl sc__law_due.nd rfl rfl (sw_true rfl rfl rfl (by decide +kernel)) (pi_enum (by rfl) T.nb_enumerate (pa_cons (pv 3) pa_nil)) (blkOk_by (N := (["_law_name", "_law_columns", "_law_groups_here", "_law_names_here", "_law_twice", "_law_wrong", "_law_at", "_law_column_here", "_law_group", "_law_one"] : List Str)) (sc := defScope s__law_due) (by decide +kernel)) (fun _ _ _ _ _ => (kg_tup (n := 2) K rfl (pgs_cons (pg_name (i := 6) sc__law_due.nd rfl (by first | exact Or.inl rfl | exact Or.inr rfl)) (pgs_cons (pg_name (i := 9) sc__law_due.nd rfl (by first | exact Or.inl rfl | exact Or.inr rfl)) pgs_nil)))) (fun _ _ _ _ _ => (pts_one (pt_cmpR (ka_in K) (pv 9) (pe_slice (ka_sl K) (pv 3) po_none (po_some (pv 6))) (by first | exact nomark _ | rfl)))) (fun _ _ _ _ _ => (pv 9)))
      (pss_cons (ps_if (pt_cmpR (ka_ne K hr.units) (pv 4) (pe_lst pa_nil) (nomark _)) (pss_one (ps_ret (pe_tup (pa_cons pe_str (pa_cons (pe_ix (ka_ix K) (pv 4) pe_int (fun _ _ => rfl)) pa_nil))))) pss_nil)
      (pss_cons (ps_setLc (i := 5) (own := [("_law_at", 6), ("_law_group", 8)]) (g := (gTup K 2 (gCons (gName 6) (gCons (gName 8) gNil)))) (tt := _) rfl sc__law_due.nd rfl rfl (sw_true rfl rfl rfl (by decide +kernel)) (pi_enum (by rfl) T.nb_enumerate (pa_cons (pv 2) pa_nil)) (blkOk_by (N := (["_law_name", "_law_columns", "_law_groups_here", "_law_names_here", "_law_twice", "_law_wrong", "_law_at", "_law_column_here", "_law_group", "_law_one"] : List Str)) (sc := defScope s__law_due) (by decide +kernel)) (fun _ _ _ _ _ => (kg_tup (n := 2) K rfl (pgs_cons (pg_name (i := 6) sc__law_due.nd rfl (by first | exact Or.inl rfl | exact Or.inr rfl)) (pgs_cons (pg_name (i := 8) sc__law_due.nd rfl (by first | exact Or.inl rfl | exact Or.inr rfl)) pgs_nil)))) (fun _ _ _ _ _ => (pts_one (pt_not (kt_truth K (pe_callG Glig (hr.mono (by decide)) takes0 (pa_cons (pv 1) (pa_cons (pv 8) pa_nil)) pk_nil) (by intro _; rfl))))) (fun _ _ _ _ _ => (pv 6)))
      (pss_one (ps_ret (pe_ifExp (pt_cmpR (ka_ne K hr.units) (pv 5) (pe_lst pa_nil) (nomark _)) (pe_tup (pa_cons pe_str (pa_cons (pe_ix (ka_ix K) (pv 5) pe_int (fun _ _ => rfl)) pa_nil))) pe_non)))))))), ?_⟩
  have ncs : cs.length = as.length := Sw.Paired.len hct
  walk_at "go"
  refine g_newA w (by walk_at "sz") fun t0 G0 H0 n0 s0 q0 w0 => ?_
  refine ⟨dv, okNames, hdv _ (Same.trans s0 w0.sub), .tup (Evl.ex_t w0.sub (SqT.of q0)) (.cons (.str _) (.cons (.str _) (.cons (.str _) .nil))), shv, by decide +kernel, ?_⟩
  rw [hb]
  replace w := w0.drop s0
  walk_at "go"
  refine iteBN (fun hb0 => ?_) (fun hb0 => ?_)
  · walk_at "go"
    refine g_newA w (by walk_at "sz") fun t G6 H6 n6 s6 q6 w => ?_
    exact k _ G6 H6 s6 (.inr ⟨0, v, t, by rw [hb0]; rfl, rfl, q6⟩) w
  rw [hb0] at k
  walk_at "go"
  refine ⟨cl, rfl, ⟨_, SqL.of (w.get hcl)⟩, ?_⟩
  refine lc_it (itf_list (xs := as.map V.ref)) w (fun H e => SqL.of (e _ _ hcl)) (by rw [sizeLine_eq, List.length_map]; omega) (fun i _ acc => acc = ((cs.map Col.name).take i).map V.str) rfl ?_ ?_
  · rintro j y Gi acc D Ha Hb hj ej nD rfl ha wj ⟨rfl, hy⟩
    rw [List.getElem?_map] at hy
    obtain ⟨ca, hca, rfl⟩ := Option.map_eq_some_iff.mp hy
    obtain ⟨cc, hcc, hct2⟩ := Sw.Paired.atR hct hca
    walk_at "go"
    refine ⟨rfl, ?_⟩
    walk_at "go"
    refine g_ixT wj (Evl.ex_t (Same.trans ej (Same.newG nD)) hct2) (colTup1 cc) ?_
    refine lc_keep (Pv := fun i _ acc => acc = ((cs.map Col.name).take i).map V.str) wj ej nD ha hj (by rw [sizeLine_eq, List.length_map]; omega) ?_
    rw [List.take_add_one, List.getElem?_map, hcc]
    simp
  rintro D1 Gn acc Ha ej nD rfl ha w
  rw [List.length_map, ← ncs, List.take_of_length_le (by rw [List.length_map]; exact Nat.le_refl _)] at w
  have S1 : Same G (upd Gn D1 (.lst ((cs.map Col.name).map V.str))) := Same.trans ej (Same.newG nD)
  have q1 : upd Gn D1 (.lst ((cs.map Col.name).map V.str)) D1 = some (.lst ((cs.map Col.name).map V.str)) := upd_same
  generalize upd Gn D1 (.lst ((cs.map Col.name).map V.str)) = G1 at *
  have nln : (cs.map Col.name).length ≤ 1000 := by rw [List.length_map, ncs]; exact las
  have fdn := firstDup_head (cs.map Col.name) []
  walk_at "go"
  refine ⟨D1, _, rfl, Evl.ex_l w.sub (SqL.of q1), ?_⟩
  refine lc_it (itf_enum (xs := (cs.map Col.name).map V.str)) w (fun H e => SqL.of (e _ _ q1)) (by rw [sizeLine_eq, List.length_map]; omega) (fun i _ acc => acc = (dups [] ((cs.map Col.name).take i)).map V.str) rfl ?_ ?_
  · rintro j y Gi acc D Ha Hb hj ej2 nD2 rfl ha wj ⟨T0, x, rfl, hT0, rfl, hx⟩
    rw [List.getElem?_map] at hx
    obtain ⟨nm, hnm, rfl⟩ := Option.map_eq_some_iff.mp hx
    have dt := dups_take hnm
    have wj0 := wj.new (o := .tup [.int (j : Nat), .str nm]) hT0
    have nT := wj.free hT0
    walk_at "go"
    refine ⟨T0, _, rfl, SqT.of upd_same, rfl, ?_⟩
    walk_at "go"
    refine ⟨rfl, ?_⟩
    walk_at "go"
    have qd : upd (upd Gi D (.lst ((dups [] ((cs.map Col.name).take j)).map V.str))) T0 (.tup [.int (j : Nat), .str nm]) D1 = some (.lst ((cs.map Col.name).map V.str)) := upd_old (upd_old (ej2 _ _ q1) nD2) nT
    refine g_slLA wj0 (SqL.of qd) fun l9 G9 H9 n9 s9 q9 w9 => ?_
    rw [cut_hi, ← List.map_take] at q9
    refine g_inL w9 (SqL.of q9) rfl (by rw [List.all_map]; exact List.all_eq_true.mpr fun _ _ => rfl) ?_
    rw [inV_str]
    have w8 := (w9.drop s9).drop (Same.newG nT)
    walk_at "go"
    refine iteD (fun h1 => ?_) (fun h1 => ?_)
    · walk_at "go"
      refine lc_keep (Pv := fun i _ acc => acc = (dups [] ((cs.map Col.name).take i)).map V.str) w8 ej2 nD2 ha hj (by rw [sizeLine_eq, List.length_map]; omega) ?_
      rw [dt, if_pos h1, List.map_append]
      rfl
    · refine lc_drop (Pv := fun i _ acc => acc = (dups [] ((cs.map Col.name).take i)).map V.str) w8 ej2 nD2 ha ?_
      rw [dt, if_neg h1, List.append_nil]
  rintro D2 Gn2 acc2 Hb ej2 nD2 rfl ha2 w
  rw [List.length_map, List.take_length] at w
  have S2 : Same G1 (upd Gn2 D2 (.lst ((dups [] (cs.map Col.name)).map V.str))) := Same.trans ej2 (Same.newG nD2)
  have q2 : upd Gn2 D2 (.lst ((dups [] (cs.map Col.name)).map V.str)) D2 = some (.lst ((dups [] (cs.map Col.name)).map V.str)) := upd_same
  generalize upd Gn2 D2 (.lst ((dups [] (cs.map Col.name)).map V.str)) = G2 at *
  have SG2 := Same.trans S1 S2
  have ldu := dups_len (cs.map Col.name) []
  have flats : ∀ l : List Str, (l.map V.str).all flatV = true := fun l => by rw [List.all_map]; exact List.all_eq_true.mpr fun _ _ => rfl
  have nn : cs ≠ [] := fun z => by rw [z] at ncs; rw [← ncs] at la1; exact absurd la1 (by decide)
  walk_at "go"
  refine g_newA w (by walk_at "sz") fun q G3 H3 n3 s3 q3 w3 => ?_
  refine g_neF w3 (SqL.of (s3 _ _ q2)) (SqL.of q3) (flats _) rfl ?_
  replace w := w3.drop s3
  rw [eqVs_nil]
  walk_at "go"
  refine iteN (fun h1 => ?_) (fun h1 => ?_)
  · walk_at "go"
    cases hd : dups [] (cs.map Col.name) with
    | nil => exact absurd hd h1
    | cons n r =>
      rw [hd] at q2 fdn
      refine g_ixL w (SqL.of q2) (v := .str n) (L2.atI_nat (j := 0) rfl) ?_
      walk_at "go"
      refine g_newA w (by walk_at "sz") fun t G6 H6 n6 s6 q6 w => ?_
      refine k _ G6 H6 (Same.trans SG2 s6) (.inr ⟨1, .str n, t, ?_, rfl, q6⟩) w
      unfold tabRes
      rw [if_neg (by decide), fdn]
      rfl
  rw [h1] at fdn
  walk_at "go"
  have hgl2 := SG2 _ _ hgl
  have lo : os.length = us.length := (Sw.Paired.len hgr).symm
  refine ⟨gl, us, rfl, Evl.ex_l w.sub (SqL.of hgl2), ?_⟩
  refine lc_it (itf_enum (xs := us)) w (fun H e => SqL.of (e _ _ hgl2)) (by rw [sizeLine_eq]; omega) (fun i _ acc => ∃ js : List Nat, acc = js.map (fun j => V.int (j : Nat)) ∧ js.head? = (os.take i).findIdx? (fun o => !grpB cs o)) ⟨[], rfl, rfl⟩ ?_ ?_
  · rintro j y Gi acc D Ha Hb hj ej nD ⟨js, rfl, hjs⟩ ha wj ⟨T0, x, rfl, hT0, rfl, hx⟩
    obtain ⟨o, ho, hgv⟩ := Sw.Paired.at hgr hx
    have wj0 := wj.new (o := .tup [.int (j : Nat), x]) hT0
    have nT := wj.free hT0
    have eD := Same.trans SG2 (Same.trans ej (Same.newG nD (o := .lst (js.map (fun j => V.int (j : Nat))))))
    walk_at "go"
    refine ⟨T0, _, rfl, SqT.of upd_same, rfl, ?_⟩
    replace wj := wj0.drop (Same.newG nT)
    walk_at "go"
    refine ⟨rfl, ?_⟩
    walk_at "go"
    refine ⟨rfl, rfl, _, R, cl, cs, as, x, o, rfl, wj, eD _ _ hcl, hct.same eD, las, fdn, hgv.same eD, fun H7 w7 => ?_⟩
    have htk : (os.take (j + 1)).findIdx? (fun o => !grpB cs o) = ((os.take j).findIdx? (fun o => !grpB cs o)).or (if grpB cs o = true then none else some j) := by
      have hjl : j < os.length := (List.getElem?_eq_some_iff.mp ho).1
      rw [List.take_add_one, ho, Option.toList_some, List.findIdx?_append, List.length_take, Nat.min_eq_left (Nat.le_of_lt hjl)]
      congr 1
      cases e : grpB cs o <;> simp [List.findIdx?_cons, e]
    cases e : grpB cs o with
    | false =>
      walk_at "go"
      refine lc_keep (Pv := fun i _ acc => ∃ js : List Nat, acc = js.map (fun j => V.int (j : Nat)) ∧ js.head? = (os.take i).findIdx? (fun o => !grpB cs o)) w7 ej nD ha hj (by rw [sizeLine_eq]; omega) ⟨js ++ [j], by rw [List.map_append]; rfl, ?_⟩
      rw [htk, e, if_neg (by decide), ← hjs]
      cases js <;> rfl
    | true =>
      walk_at "go"
      refine lc_drop (Pv := fun i _ acc => ∃ js : List Nat, acc = js.map (fun j => V.int (j : Nat)) ∧ js.head? = (os.take i).findIdx? (fun o => !grpB cs o)) w7 ej nD ha ⟨js, rfl, ?_⟩
      rw [htk, e, if_pos rfl, ← hjs]
      cases js <;> rfl
  rintro D4 Gn4 acc4 Hc ej4 nD4 ⟨js, rfl, hjs⟩ ha4 w
  rw [← lo, List.take_length] at hjs
  have S4 : Same G2 (upd Gn4 D4 (.lst (js.map (fun j => V.int (j : Nat))))) := Same.trans ej4 (Same.newG nD4)
  have q4 : upd Gn4 D4 (.lst (js.map (fun j => V.int (j : Nat)))) D4 = some (.lst (js.map (fun j => V.int (j : Nat)))) := upd_same
  generalize upd Gn4 D4 (.lst (js.map (fun j => V.int (j : Nat)))) = G4 at *
  have hts : tabRes true cs os = match os.findIdx? fun o => !grpB cs o with
      | some i => .grp i
      | none => .ok := by
    unfold tabRes
    rw [if_neg (by decide), fdn]
    exact if_neg nn
  walk_at "go"
  refine g_newA w (by walk_at "sz") fun q5 G5 H5 n5 s5 q5' w5 => ?_
  refine g_neF w5 (SqL.of (s5 _ _ q4)) (SqL.of q5') (by rw [List.all_map]; exact List.all_eq_true.mpr fun _ _ => rfl) rfl ?_
  replace w := w5.drop s5
  cases js with
  | nil =>
    rw [show eqVs (List.map (fun j : Nat => V.int (j : Nat)) []) [] = true from rfl]
    walk_at "go"
    refine k _ G4 _ (Same.trans SG2 S4) (.inl ⟨?_, rfl⟩) w
    rw [hts, ← hjs]
    rfl
  | cons j r =>
    rw [show eqVs (List.map (fun j : Nat => V.int (j : Nat)) (j :: r)) [] = false from rfl]
    walk_at "go"
    refine g_ixL w (SqL.of q4) (v := .int (j : Nat)) (L2.atI_nat (j := 0) rfl) ?_
    walk_at "go"
    refine g_newA w (by walk_at "sz") fun t G6 H6 n6 s6 q6 w => ?_
    refine k _ G6 H6 (Same.trans SG2 (Same.trans S4 s6)) (.inr ⟨2, .int (j : Nat), t, ?_, rfl, q6⟩) w
    rw [hts, ← hjs]
    rfl
end
end Sv


set_option Elab.async false
set_option linter.all false
set_option maxRecDepth 100000
set_option maxHeartbeats 4000000
namespace Sw
open PySem PySem.Spec PyProof.Rows L2
/-! ### the end of a law row: tables of code objects, no repr open -/
abbrev headNo : Obj := { cls := .none, data := .fields #[] }
abbrev headScr (its : List Value) : Obj := { cls := .type "list", data := .seq its.toArray }
def headTold (T : List Addr) (own : Bool) (a : Addr) (its : List Value) (ns : List Int) : Hp := fun b =>
  if b ∈ T then some (.tbl #[]) else if own = false ∧ b = a then some (.frz (headScr its) (.lst (ns.map V.int))) else none
section
variable {T : List Addr} {own : Bool} {a b : Addr} {its : List Value} {ns : List Int}
theorem headTold_tbl (h : b ∈ T) : headTold T own a its ns b = some (.tbl #[]) := if_pos h
theorem headTold_ways : headTold T own a its ns b = none ∨ b ∈ T ∨ (b ∉ T ∧ own = false ∧ b = a ∧ headTold T own a its ns b = some (.frz (headScr its) (.lst (ns.map V.int)))) := by
  by_cases h : b ∈ T
  · exact .inr (.inl h)
  by_cases h2 : own = false ∧ b = a
  · exact .inr (.inr ⟨h, h2.1, h2.2, (if_neg h).trans (if_pos h2)⟩)
  · exact .inl ((if_neg h).trans (if_neg h2))
end
def headApart : Data → Bool
  | .seq _ _ => false
  | .fields us => us.size != 0
  | _ => true
structure HeadStart (K : PySem.W.Frag) (mg mb : Str → Option Value) (cds : List (Addr × Addr)) (a : Addr) (its : List Value) (ns : List Int) (s : Shared) : Prop where
  kin : K.In s.heap
  main : s.heap.Ns mainGlobals mg
  bns : s.heap.Ns builtinsNs mb
  boot : ∀ x : Str, x ≠ "__name__" → mb x = bootBuiltins x
  lim : s.heap.NoLimit
  gens : s.gens = #[]
  tab : ∀ p ∈ cds, s.heap.get? p.2 = some headNo
  out : ∀ p ∈ cds, K.lookup p.2 = none
  code : ∀ p ∈ cds, PySem.W.CodeHd s.heap p.1 p.2
  bmod : ∃ (bm : Addr) (ob : Obj), mg "__builtins__" = some (.ref bm) ∧ bm ≠ builtinsNs ∧ s.heap.get? bm = some ob ∧ ob.cls = .type "module" ∧ ob.dict = some builtinsNs ∧ ob.data = .plain
  scr : s.heap.get? a = some (headScr its)
  are : IntsAre its ns
  len : ns.length ≤ sizeLine
namespace HeadStart
variable {P : Program} {w : World} {K : PySem.W.Frag} {mg mb : Str → Option Value} {cds : List (Addr × Addr)} {a b : Addr} {its : List Value} {ns : List Int} {s s' : Shared} {o : Obj} {H' : Hp}
abbrev Hd (K : PySem.W.Frag) (cds : List (Addr × Addr)) (a : Addr) (its : List Value) (ns : List Int) : Hp := headTold (cds.map Prod.snd) (K.lookup a).isSome a its ns
theorem isTab (h : HeadStart K mg mb cds a its ns s) (hb : b ∈ cds.map Prod.snd) : s.heap.get? b = some headNo ∧ K.lookup b = none := by
  obtain ⟨p, hp, rfl⟩ := List.mem_map.mp hb
  exact ⟨h.tab p hp, h.out p hp⟩
theorem scrOut (h : HeadStart K mg mb cds a its ns s) : a ∉ cds.map Prod.snd := fun z => by
  have q := h.scr.symm.trans (h.isTab z).1
  cases q
theorem silent (h : HeadStart K mg mb cds a its ns s) (e : s.heap.get? b = some o) (q : headApart o.data = true) : Hd K cds a its ns b = none := by
  rcases headTold_ways (T := cds.map Prod.snd) (own := (K.lookup a).isSome) (a := a) (b := b) (its := its) (ns := ns) with z | z | ⟨_, _, rfl, _⟩
  · exact z
  · rw [(h.isTab z).1] at e
    cases e
    cases q
  · rw [h.scr] at e
    cases e
    cases q
theorem stays (h : HeadStart K mg mb cds a its ns s) (e : s.heap.get? b = some o) (q : headApart o.data = true) : (hidT s.heap (Hd K cds a its ns)).get? b = some o := hidT_get e (h.silent e q)
theorem ns_of (h : HeadStart K mg mb cds a its ns s) {m : Str → Option Value} (z : s.heap.Ns b m) : (hidT s.heap (Hd K cds a its ns)).Ns b m := by
  obtain ⟨ob, es, ep, e, d, r⟩ := z
  exact ⟨ob, es, ep, h.stays e (by rw [d]; rfl), d, r⟩
theorem kinH (h : HeadStart K mg mb cds a its ns s) : K.In (hidT s.heap (Hd K cds a its ns)) := fun b ob e => by
  refine hidT_get (h.kin b ob e) ?_
  rcases headTold_ways (T := cds.map Prod.snd) (own := (K.lookup a).isSome) (a := a) (b := b) (its := its) (ns := ns) with z | z | ⟨_, z, rfl, _⟩
  · exact z
  · rw [(h.isTab z).2] at e
    cases e
  · rw [e] at z
    cases z
theorem tabB (h : HeadStart K mg mb cds a its ns s) : ∀ p ∈ cds, LamX.TabB (hidT s.heap (Hd K cds a its ns)) mg p.1 p.2 := by
  intro p hp
  have hmain : ∀ {y : Addr}, (y = mainGlobals) → ∃ (ob : Obj) (es : Array DictEntry) (ep : Nat), s.heap.get? y = some ob ∧ ob.data = .dict es ep := fun {y} e => by
    obtain ⟨ob, es, ep, e1, d, _⟩ := h.main
    exact ⟨ob, es, ep, e ▸ e1, d⟩
  obtain ⟨oc, us, file, tf, fl, tg, inF, tx, tt, e, c1, c2, c3, r⟩ := h.code p hp
  obtain ⟨bm, ob, b1, b2, b3, b4, b5, b6⟩ := h.bmod
  refine ⟨⟨oc, us, file, tf, fl, tg, inF, tx, tt, h.stays e ?_, c1, c2, c3, r⟩, ⟨bm, ob, b1, b2, fun z => ?_, fun z => ?_, h.stays b3 (by rw [b6]; rfl), b4, b5, b6⟩, fun z => ?_⟩
  · rw [c2]
    show (us.size != 0) = true
    have : 11 < us.size := (Array.getElem?_eq_some_iff.mp c3).1
    exact bne_iff_ne.mpr (Nat.ne_of_gt (Nat.lt_of_le_of_lt (Nat.zero_le _) this))
  · obtain ⟨_, _, _, e1, d⟩ := hmain z
    rw [b3] at e1
    cases e1
    rw [b6] at d
    cases d
  · rw [z, h.tab p hp] at b3
    cases b3
    cases b6
  · obtain ⟨_, _, _, e1, d⟩ := hmain z.symm
    rw [h.tab p hp] at e1
    cases e1
    cases d
theorem sql (h : HeadStart K mg mb cds a its ns s) : SqL K (Hd K cds a its ns) a (ns.map V.int) := by
  cases hk : K.lookup a with
  | none => exact .inl (.inr ⟨headScr its, by unfold Hd headTold; rw [if_neg h.scrOut, hk]; exact if_pos ⟨rfl, rfl⟩⟩)
  | some ob =>
    have e := (h.kin a ob hk).symm.trans h.scr
    cases e
    exact .inr ⟨_, its.toArray, _, hk, rfl, rfl, rfl, by rw [List.size_toArray, h.are.length]; exact h.len, vals_ints h.are⟩
theorem hok (h : HeadStart K mg mb cds a its ns s) : HOk P w (Hd K cds a its ns) s.heap := fun b u e => by
  rcases headTold_ways (T := cds.map Prod.snd) (own := (K.lookup a).isSome) (a := a) (b := b) (its := its) (ns := ns) with z | z | ⟨_, _, rfl, z⟩
  · have q := z.symm.trans e
    cases q
  · have q := (headTold_tbl z).symm.trans e
    cases q
    exact (h.isTab z).1
  · have q := z.symm.trans e
    cases q
    exact ⟨h.scr, by rw [List.length_map]; exact h.len, its, _, vals_ints h.are, h.scr⟩
theorem env (h : HeadStart K mg mb cds a its ns s) : Env0 P w K mg (hidT s.heap (Hd K cds a its ns)) callerA [] s (Hd K cds a its ns) where
  frames := rfl
  mod := ⟨h.kinH, h.ns_of h.main, ⟨mb, h.ns_of h.bns, h.boot⟩, let ⟨m, m1, m2⟩ := h.lim; ⟨m, h.ns_of m1, m2⟩⟩
  bs := fun _ _ e => of_hidT e
  bsz := Nat.le_of_eq (hidT_size _ _)
  funs := trivial
  frf := fun b hb => nomatch hb
  hok := h.hok
  bare := .of_eq h.gens
theorem old (h : HeadStart K mg mb cds a its ns s) (un : Un (frs []) [] (Hd K cds a its ns) H' s.heap s'.heap) (hok' : HOk P w H' s'.heap) : OldK s.heap s'.heap := by
  have each : ∀ b o, s.heap.get? b = some o → (b ∉ cds.map Prod.snd ∧ s'.heap.get? b = some o) ∨ (∃ p ∈ cds, p.2 = b ∧ o = headNo ∧ ∃ us : Array Value, s'.heap.get? b = some { cls := .none, data := .fields us }) := fun b o e => by
    rcases headTold_ways (T := cds.map Prod.snd) (own := (K.lookup a).isSome) (a := a) (b := b) (its := its) (ns := ns) with z | z | ⟨z0, _, rfl, z⟩
    · by_cases hb : b ∈ cds.map Prod.snd
      · have q := (headTold_tbl hb).symm.trans z
        cases q
      · exact .inl ⟨hb, un.keep b o e z (fun y => nomatch y) (fun y => nomatch y)⟩
    · obtain ⟨p, hp, rfl⟩ := List.mem_map.mp z
      obtain ⟨us, q⟩ := un.tbls p.2 #[] (headTold_tbl z)
      rw [h.tab p hp] at e
      cases e
      exact .inr ⟨p, hp, rfl, rfl, _, hok' p.2 _ q⟩
    · obtain ⟨y1, _⟩ := hok' b _ (un.frzs b _ _ z)
      rw [h.scr] at e
      cases e
      exact .inl ⟨z0, y1⟩
  refine ⟨fun b o e => ?_, fun b o e => ?_⟩
  · rcases each b o e with ⟨_, z⟩ | ⟨p, hp, rfl, rfl, us, z⟩
    · exact .inl z
    · refine .inr (.inl ⟨((h.code p hp).tab (h.tab p hp)).isCodeTable, rfl, #[], us, rfl, ?_⟩)
      rw [Array.empty_append]
      exact z
  · rcases each b o e with ⟨_, z⟩ | ⟨_, _, rfl, _, us, z⟩
    · exact ⟨_, z⟩
    · exact ⟨_, z⟩
end HeadStart
theorem law_callTG {P : Program} {w : World} {K : PySem.W.Frag} {mg mb : Str → Option Value} {CX : CXT} {k : Nat} {fa a : Addr} {cds : List (Addr × Addr)} {fd : FuncData} {x : Str} {sp : Sp} {s : Shared} {its : List Value} {ns : List Int}
    (S : HeadStart K mg mb cds a its ns s) (hRm : Room k callerA)
    (F : ∀ base : Heap, K.In base → base.Ns mainGlobals mg → (∀ p ∈ cds, LamX.TabB base mg p.1 p.2) → FnG P w K mg base CX k fa fd [x] sp) (hBd : ∀ (s : Shared) (u : Value), BindsTo s fd ⟨[u], []⟩ [(x, u)])
    (hSp : ∀ H : Hp, (∀ p ∈ cds, H p.2 = some (.tbl #[])) → SqL K H a (ns.map V.int) → sp [.ref a] H (fun v _ => v = .bl true) fun _ _ _ => False)
    (hCx : ∀ H e s', CX [] H s (fun _ _ _ => False) e s' → False) :
    codeAny (model P w) callerA (.call (.ref fa) ⟨[.ref a], []⟩) (fun r s' => r = .ok (.ret (.bool true)) ∧ OldK s.heap s'.heap ∧ s'.os = s.os ∧ AllBare s'.gens) s := by
  have known := hSp (HeadStart.Hd K cds a its ns) (fun p hp => headTold_tbl (List.mem_map_of_mem hp)) S.sql
  refine codeAny_mono ((F _ S.kinH (S.ns_of S.main) S.tabB).run callerA [] s (HeadStart.Hd K cds a its ns) ⟨[.ref a], []⟩ [.ref a] [.ref a] _ _ hRm rfl S.env (hBd s (.ref a)) (.cons rfl .nil) known) fun r s' z => ?_
  match r, z with
  | .error e, z => exact (hCx _ e s' z).elim
  | .ok (.ret u), ⟨v, H', os, bare, un, ok, rel, yes⟩ =>
    obtain rfl : v = .bl true := yes
    obtain rfl : u = Value.bool true := rel
    exact ⟨rfl, S.old un ok, os, bare⟩
def LawAtG (l : PySem.W.OpenLaw) (w : World) (K : PySem.W.Frag) (CX : CXT) (k n : Nat) (x : Str) (mg : Str → Option Value) (fa : Addr) (h : Heap) : Prop :=
  ∃ (fd : FuncData) (cds : List (Addr × Addr)) (sp : Sp), (∀ p ∈ cds, PySem.W.CodeHd h p.1 p.2 ∧ h.get? p.2 = some headNo) ∧ (∀ p ∈ cds, K.lookup p.2 = none) ∧
    (∀ (s : Shared) (u : Value), BindsTo s fd ⟨[u], []⟩ [(x, u)]) ∧
    (∀ (H : Hp) (a : Addr) (ns : List Int), ns.length ≤ n → (∀ p ∈ cds, H p.2 = some (.tbl #[])) → SqL K H a (ns.map V.int) → sp [.ref a] H (fun v _ => v = .bl true) fun _ _ _ => False) ∧
    ∀ base : Heap, K.In base → base.Ns mainGlobals mg → (∀ p ∈ cds, LamX.TabB base mg p.1 p.2) → FnG l.prog w K mg base CX k fa fd [x] sp
theorem walk_ofTG {l : PySem.W.OpenLaw} {n k : Nat} {q : Program} {loose : List Str} {XP : (Str → Option Value) → Heap → Prop} {YP : World → Heap → Prop} {d : DefRec} {K : Params → PySem.W.Frag} {CX : World → CXT} {x : Str}
    (hn : l.most = some n) (hn2 : n ≤ sizeLine) (hdf : d.params.defaults = []) (hRm : Room k callerA) (hY : ∀ (w : World) (h : Heap), YP w h → (K w.params).In h)
    (F : ∀ (w : World) (mg : Str → Option Value) (fa : Addr) (h : Heap), (K w.params).In h → h.Ns mainGlobals mg → mg d.name = some (.ref fa) →
      (∀ (y : Str) (c P : Addr), ((recsOf q).find? (fun e => e.name == y)).isSome = true → PySem.W.tabIn (K w.params) y = some (c, P) → PySem.W.CodeHd h c P ∧ h.get? P = some { cls := .none, data := .fields #[] }) → LawAtG l w (K w.params) (CX w) k n x mg fa h)
    (hCx : ∀ (w : World) (H : Hp) (s : Shared) (e : Value) (s' : Shared), CX w [] H s (fun _ _ _ => False) e s' → False) :
    PySem.W.WalkO q loose XP YP l.row.toRowW d [] (fun f us => PySem.call f us) := by
  refine Att.attach_call hn hdf fun w s₀ s1 mg mb fa o pm cd doc a its ns G Y ho hd hcd hmg hobj hints hlen hGn => ?_
  have kin := hY w _ Y
  obtain ⟨fd, cds, sp, t1, t2, hBd, hSp, hF⟩ := F w mg fa _ kin G.T.g hmg fun y c P f h => (Option.isSome_iff_exists.mp f).elim fun _ e => PySem.W.tab_of G.T kin e h
  exact law_callTG ⟨kin, G.T.g, G.T.b, G.T.builtins, G.T.nolimit, hGn, fun p hp => (t1 p hp).2, t2, fun p hp => (t1 p hp).1, G.T.bmain, hobj, hints, Nat.le_trans hlen hn2⟩ hRm hF hBd (fun H z1 z2 => hSp H a ns hlen z1 z2) fun H e s' => hCx w H s1 e s'
end Sw

set_option Elab.async false
set_option linter.all false
set_option maxRecDepth 100000
set_option maxHeartbeats 4000000
namespace Sw
open PySem PySem.Spec PyProof.Rows L2
/-! ### what stays when only code tables grow -/
section
variable {K : PySem.W.Frag} {G H : Hp} {a : Addr} {xs : List V} {v : V}
theorem SameN.of_upd {o : HO} (h : G a = none) : SameN G (upd G a o) := SameN.of (Same.newG h)
theorem SameN.l (e : SameN G H) (h : SqL K G a xs) : SqL K H a xs := by
  rcases h with (h | ⟨o, h⟩) | h
  · exact .inl (.inl (e _ _ h fun _ z => nomatch z))
  · exact .inl (.inr ⟨o, e _ _ h fun _ z => nomatch z⟩)
  · exact .inr h
theorem SameN.t (e : SameN G H) (h : SqT K G a xs) : SqT K H a xs := by
  rcases h with (h | ⟨o, h⟩) | h
  · exact .inl (.inl (e _ _ h fun _ z => nomatch z))
  · exact .inl (.inr ⟨o, e _ _ h fun _ z => nomatch z⟩)
  · exact .inr h
theorem Dq.sameN (e : SameN G H) {d : PyData} (h : Dq K G v d) : Dq K H v d := by
  refine Dq.rec (motive_1 := fun v d _ => Dq K H v d) (motive_2 := fun vs ds _ => DqAll K H vs ds) ?_ ?_ ?_ ?_ ?_ ?_ ?_ ?_ ?_ h
  · exact .non
  · intro b
    exact .bl b
  · intro i
    exact .int i
  · intro x
    exact .str x
  · intro _ _ _ hs _ ih
    exact .lst (e.l hs) ih
  · intro _ _ _ hs _ ih
    exact .tup (e.t hs) ih
  · intro _ _ _ ea _ ih
    exact .dic (e _ _ ea fun _ z => nomatch z) ih
  · exact .nil
  · intro _ _ _ _ _ _ ih1 ih2
    exact .cons ih1 ih2
theorem tyX_sameN (e : SameN G H) {t : Value} (h : TyX K G v t) : TyX K H v t := by
  cases h with
  | base b =>
    cases b with
    | non => exact .base .non
    | bl y => exact .base (.bl y)
    | int i => exact .base (.int i)
    | str y => exact .base (.str y)
    | flt y => exact .base (.flt y)
    | lst h => exact .base (.lst (e _ _ h fun _ z => nomatch z))
    | frz h => exact .base (.frz (e _ _ h fun _ z => nomatch z))
    | tup h => exact .base (.tup (e _ _ h fun _ z => nomatch z))
    | dK h => exact .base (.dK (e _ _ h fun _ z => nomatch z))
    | dT h => exact .base (.dT (e _ _ h fun _ z => nomatch z))
    | ins h cl h1 h2 h3 h4 => exact .base (.ins (e _ _ h fun _ z => nomatch z) cl h1 h2 h3 h4)
  | byt y => exact .byt y
  | set h => exact .set (e _ _ h fun _ z => nomatch z)
  | kList h c => exact .kList h c
  | kTuple h c => exact .kTuple h c
  | kDict h c => exact .kDict h c
  | fTuple h => exact .fTuple (e _ _ h fun _ z => nomatch z)
  | fDict h => exact .fDict (e _ _ h fun _ z => nomatch z)
end
/-- repr, with room -/
theorem g_reprS {K : PySem.W.Frag} {G : Hp} {R : Res} {H : Hp} {v : V} {d : PyData} {Q : VK} (w : Wd G R H) (h : Dq K G v d) (s : d.showable = true) (dp : d.depth ≤ 100) (l : d.shown.length ≤ sizeLine) (k : Q (.str d.shown) H) : qRepr K [v] H Q :=
  ⟨v, d, rfl, h.mono w.sub, s, dp, l, k⟩
/-- a plain def with no repr open, its code known -/
theorem okGL {P : Program} {w : World} {K : PySem.W.Frag} {mg : Str → Option Value} {base : Heap} {k : Nat} {f : Addr} {fd : FuncData} {ps : List Str} {sp : Sp} {x qual : Str} {st : Stmt} {N : List Str} {cL : Value} (F : Fun K x qual st f fd) (hcL : fd.code = cL) (S : FnScope N ps (defScope st)) (len : ∀ vs H Q E, sp vs H Q E → vs.length = ps.length)
    (hbody : ∀ (A : Around) (outer : List Env) (s : Shared) (H : Hp) (vs : List V) (Q : VK) (E : XK), Room k (A.deeper (envOfC qual (defScope st) s.heap.objs.size f cL)) → A.guards = some [] →
      Takes (cxOf (L2.CX P w) P w K mg base N qual (defScope st) f cL A outer s H E) (fun cls d _ H => E cls d H) →
      PassesOwn (model P w) (A.deeper (envOfC qual (defScope st) s.heap.objs.size f cL)) (envOfC qual (defScope st) s.heap.objs.size f cL) (cxOf (L2.CX P w) P w K mg base N qual (defScope st) f cL A outer s H E).xe → sp vs H Q E →
      ∃ t, PSs (cxOf (L2.CX P w) P w K mg base N qual (defScope st) f cL A outer s H E) (defBody st) t ∧ t { nx := fun _ H' => Q .non H', rt := Q } (L2.start N vs) H) : FnG P w K mg base (L2.CX P w) (k + 1) f fd ps sp := by
  obtain ⟨⟨oc, od, kV, doc, pm, an, cdv, ct, osl, rfl, lk, hcd⟩, kp⟩ := F
  obtain rfl : cdv = cL := hcL
  refine fnG_of lk hcd S len fun A outer s H vs Q E hr hg h => ?_
  have tk : Takes (cxOf (L2.CX P w) P w K mg base N qual (defScope st) f cdv A outer s H E) (fun cls d _ H => E cls d H) := takes_of rfl rfl rfl rfl
  exact hbody A outer s H vs Q E hr hg tk (passes_of (X := cxOf (L2.CX P w) P w K mg base N qual (defScope st) f cdv A outer s H E) rfl) h
end Sw

set_option Elab.async false
set_option linter.all false
set_option maxRecDepth 100000
set_option maxHeartbeats 4000000
namespace Sv
open PySem PySem.Spec PyProof.Rows L2 Sw
local macro_rules | `(tactic| walk_at "go1") => `(tactic| first
  | ((with_reducible refine' g_var ?hv ?_); (case hv => rfl))
  | with_reducible refine g_c ?_
  | with_reducible refine g_op ?_
  | with_reducible refine g_un ?_
  | with_reducible refine g_seq ?_
  | with_reducible refine g_next ?_
  | with_reducible refine g_asg ?_
  | with_reducible refine g_name ?_
  | with_reducible refine g_drop ?_
  | with_reducible refine g_sub ?_
  | with_reducible refine g_ret ?_
  | with_reducible refine g_retN ?_
  | with_reducible refine g_ifS ?_
  | with_reducible refine g_if ?_
  | with_reducible refine g_test ?_
  | with_reducible refine g_bl ?_
  | with_reducible refine g_cons ?_
  | with_reducible refine g_nil ?_
  | with_reducible refine g_and ?_
  | with_reducible refine g_or ?_
  | with_reducible refine g_not ?_
  | with_reducible refine g_callB ?_
  | with_reducible refine g_addI ?_
  | with_reducible refine g_I0 ?_
  | with_reducible refine g_calG ?_
  | with_reducible refine g_mkG ?_
  | with_reducible refine g_tup ?_
  | with_reducible refine g_pairs1 ?_
  | with_reducible refine g_pairs0 ?_
  | with_reducible refine g_dget ?_
  | with_reducible refine g_lvals ?_
  | with_reducible refine g_forT ?_
  | with_reducible refine g_lcT ?_
  | with_reducible refine g_dput ?_
  | with_reducible refine g_lc2L ?_
  | with_reducible refine g_iList ?_
  | with_reducible refine g_lcX ?_
  | with_reducible refine g_js1 ?_
  | with_reducible refine g_js0 ?_
  | with_reducible refine g_fmt ?_
  | with_reducible refine g_tLenSet ?_
  | with_reducible refine g_mkV ?_
  | with_reducible refine g_mkV1 ?_
  | with_reducible refine g_lst ?_
  | with_reducible refine g_forL ?_
  | with_reducible refine g_forR ?_
  | with_reducible refine g_forR2 ?_
  | with_reducible refine g_forS ?_
  | with_reducible refine g_forE ?_
  | with_reducible refine g_forEB ?_
  | with_reducible refine g_lcL ?_
  | with_reducible refine g_lcR ?_
  | with_reducible refine g_lcS ?_
  | with_reducible refine g_lcE ?_
  | with_reducible refine g_lcEB ?_
  | with_reducible refine g_orT ?_
  | with_reducible refine g_slc ?_
  | with_reducible refine g_noPart ?_
  | with_reducible refine g_part ?_
  | with_reducible refine g_bm ?_
  | with_reducible refine g_par ?_
  | with_reducible refine g_yes ?_
  | with_reducible refine g_tupG ?_
  | with_reducible refine g_lstG ?_
  | with_reducible refine g_gcons ?_
  | with_reducible refine g_gnil ?_
  | with_reducible refine g_chain ?_
  | with_reducible refine g_truB ?_
  | with_reducible refine g_truN ?_
  | with_reducible refine g_truI ?_
  | with_reducible refine g_m1 ?_
  | with_reducible refine g_fld ?_
  | with_reducible refine g_con ?_
  | with_reducible refine g_tru ?_
  | with_reducible refine g_U ?_
  | with_reducible refine g_xg ?_
  | with_reducible refine g_andT ?_
  | with_reducible refine g_exI ?_
  | with_reducible refine g_dnew ?_
  | with_reducible refine g_intB ?_
  | with_reducible refine g_meth ?_
  | with_reducible refine g_prop ?_
  | with_reducible refine g_exc1 ?_
  | with_reducible refine g_setF ?_
  | with_reducible refine g_star ?_
  | with_reducible refine g_strM ?_
  | with_reducible refine iteT ?_
  | with_reducible refine iteF ?_
  | with_reducible refine iteNT ?_
  | with_reducible refine iteNF ?_)
local macro_rules | `(tactic| walk_at "go") => `(tactic| repeat (walk_at "go1"))
local macro_rules | `(tactic| walk_at "sz") => `(tactic| (first | (rw [sizeLine_eq]; simp only [List.length_cons, List.length_nil, List.length_map, List.length_append, List.length_take]; omega) | (rw [sizeLine_eq]; omega)))
theorem isNm_low {s : Str} (h : isNm s = true) : lowS s = true := by
  unfold isNm at h
  exact (Bool.and_eq_true_iff.mp h).2
theorem low_ok {s : Str} (h : lowS s = true) : PyData.strOk s = true := by
  unfold PyData.strOk
  rw [Array.all_eq_true']
  intro x hx
  unfold lowS at h
  have := List.all_eq_true.mp h x (by simpa using hx)
  rw [decide_eq_true_eq] at this
  have hl : ∀ c ∈ letters.cps.toList, c < 0x110000 := by decide +kernel
  exact decide_eq_true (hl x this)
def grpD (g : List Str) : PyData := .tuple (g.map .str)
theorem lay_map {α : Type} {f : α → PyData} {k : Nat} : ∀ {xs : List α}, (∀ x ∈ xs, (f x).canLay0 = true ∧ (f x).depth ≤ k) → PyData.canLayAll0 (xs.map f) = true ∧ PyData.depthAll (xs.map f) ≤ k
  | [], _ => ⟨rfl, Nat.zero_le _⟩
  | x :: xs, h => by
    obtain ⟨h1, h2⟩ := h x List.mem_cons_self
    obtain ⟨i1, i2⟩ := lay_map (f := f) (xs := xs) fun y hy => h y (List.mem_cons_of_mem _ hy)
    refine ⟨?_, ?_⟩
    · show ((f x).canLay0 && PyData.canLayAll0 (xs.map f)) = true
      rw [h1, i1]
      rfl
    · show max (f x).depth (PyData.depthAll (xs.map f)) ≤ k
      exact Nat.max_le.mpr ⟨h2, i2⟩
theorem lay_nm {n : Str} (h : isNm n = true) : (PyData.str n).canLay0 = true := low_ok (isNm_low h)
theorem lay_grp {g : List Str} (h : ∀ n ∈ g, isNm n = true) : (grpD g).canLay0 = true ∧ (grpD g).depth ≤ 1 := by
  obtain ⟨h1, h2⟩ := lay_map (f := PyData.str) (k := 0) (xs := g) fun n hn => ⟨lay_nm (h n hn), Nat.le_refl _⟩
  exact ⟨h1, Nat.succ_le_succ h2⟩
theorem grps_dp {K : PySem.W.Frag} {G : Hp} : ∀ {gs : List (List Str)} {us : List V}, GrpsAt K G gs us → DpAll K G us (gs.map grpD)
  | _, _, .nil => .nil
  | g :: _, _, .cons ⟨p, e, h⟩ t => by
    subst e
    have ds : ∀ l : List Str, DpAll K G (l.map V.str) (l.map .str) := fun l => by
      induction l with
      | nil => exact .nil
      | cons x r ih => exact .cons (.str x) ih
    exact .cons (.tup h (ds g)) (grps_dp t)
theorem grps_sh {gs : List (List Str)} (h : Gok gs) : SeqAt.shaped (.list (gs.map grpD)) = true := by
  obtain ⟨h1, h2⟩ := lay_map (f := grpD) (k := 1) (xs := gs) fun g hg => lay_grp (h g hg).2
  show (PyData.canLayAll0 (gs.map grpD) && decide (PyData.depthAll (gs.map grpD) + 1 ≤ 64)) = true
  rw [h1, decide_eq_true (show PyData.depthAll (gs.map grpD) + 1 ≤ 64 by omega)]
  rfl
theorem NotStr.sameN {K : PySem.W.Frag} {G H : Hp} {v : V} (h : NotStr K G v) (e : SameN G H) : NotStr K H v := by
  obtain ⟨t, h1, h2⟩ := h
  exact ⟨t, tyX_sameN e h1, h2⟩
/-! ### odd names: shown small -/
def Od (d : PyData) : Prop := (PyData.tuple [.str "unknown", d]).showable = true ∧ (PyData.tuple [.str "unknown", d]).depth ≤ 100 ∧ (PyData.tuple [.str "unknown", d]).shown.length ≤ sizeLine
theorem shows_strs : ∀ ns : List Str, PyData.showableAll (ns.map .str) = true
  | [] => rfl
  | n :: r => by
    show (true && PyData.showableAll (r.map .str)) = true
    rw [shows_strs r]
    rfl
theorem short_strs : ∀ ns : List Str, PyData.intsShortAll 13 (ns.map .str) = true
  | [] => rfl
  | n :: r => by
    show (true && PyData.intsShortAll 13 (r.map .str)) = true
    rw [short_strs r]
    rfl
theorem od_names {ns : List Str} (h : ∀ n ∈ ns, isNm n = true) (hl : ns.length ≤ 1000) : Od (.list (ns.map .str)) := by
  obtain ⟨h1, h2⟩ := lay_map (f := PyData.str) (k := 0) (xs := ns) fun n hn => ⟨lay_nm (h n hn), Nat.le_refl _⟩
  have hd : (PyData.tuple [.str "unknown", .list (ns.map .str)]).depth ≤ 2 := by
    show max 0 (max (PyData.depthAll (ns.map .str) + 1) 0) + 1 ≤ 2
    omega
  refine ⟨?_, Nat.le_trans hd (by decide), ?_⟩
  · show (true && (PyData.showableAll (ns.map .str) && true)) = true
    rw [shows_strs]
    rfl
  · have hw : ∀ l : List Str, (∀ n ∈ l, isNm n = true) → PyData.weightAll (l.map .str) ≤ 9 * l.length := fun l => by
      induction l with
      | nil => intro _; exact Nat.le_refl _
      | cons n r ih =>
        intro hh
        have h8 := isNm_len (hh n List.mem_cons_self)
        have i := ih fun x hx => hh x (List.mem_cons_of_mem _ hx)
        show n.cps.size + 1 + PyData.weightAll (r.map .str) ≤ 9 * (r.length + 1)
        have : n.cps.size = n.length := rfl
        omega
    have hw := hw ns h
    refine Nat.le_trans (shown_le13 (d := .tuple [.str "unknown", .list (ns.map .str)]) ?_ ?_) (by rw [sizeLine_eq]; decide)
    · have e1 : (PyData.tuple [.str "unknown", .list (ns.map .str)]).canLay0 = true := by
        show ((PyData.str "unknown").canLay0 && (PyData.canLayAll0 (ns.map .str) && true)) = true
        rw [h1]
        decide +kernel
      have e3 : (PyData.tuple [.str "unknown", .list (ns.map .str)]).weight ≤ 2 ^ 20 := by
        show 7 + 1 + (PyData.weightAll (ns.map .str) + 1 + 0) ≤ 2 ^ 20
        omega
      unfold PyData.layable0
      rw [e1, decide_eq_true (Nat.le_trans hd (by decide)), decide_eq_true e3]
      rfl
    · show (true && (PyData.intsShortAll 13 (ns.map .str) && true)) = true
      rw [short_strs]
      rfl
structure NsF (K : PySem.W.Frag) : Prop where
  n1 : PySem.W.kitOne K (.type "NoneType") (.type "str") = some false
  n2 : PySem.W.kitOne K (.type "int") (.type "str") = some false
  n3 : PySem.W.kitOne K (.type "bool") (.type "str") = some false
  n4 : PySem.W.kitOne K (.type "tuple") (.type "str") = some false
  n5 : PySem.W.kitOne K (.type "list") (.type "str") = some false
  n6 : PySem.W.kitOne K (.type "dict") (.type "str") = some false
theorem dq_strs {K : PySem.W.Frag} {G : Hp} : ∀ {g : List Str}, DqAll K G (g.map V.str) (g.map .str)
  | [] => .nil
  | x :: l => .cons (.str x) dq_strs
theorem RD.lists {a c : Addr} {G H : Hp} (w : Wd G (RD a c) H) : ∀ b ∈ (RD a c).L, ∃ xs, H b = some (.lst xs) := fun b hb => by
  obtain ⟨xs, i, m, _, h1, h2⟩ := w.res
  rcases List.mem_cons.mp hb with rfl | hb
  · exact ⟨_, h1⟩
  · rw [List.mem_singleton.mp hb]
    exact ⟨_, h2⟩
theorem nodup_of : ∀ (l : List Str), firstDup [] l = none → l.Nodup := fun l h => by
  have key : ∀ (l seen : List Str), firstDup seen l = none → l.Nodup ∧ ∀ n ∈ l, n ∉ seen := fun l => by
    induction l with
    | nil => exact fun _ _ => ⟨List.nodup_nil, fun _ z => nomatch z⟩
    | cons n r ih =>
      intro seen h
      rw [firstDup] at h
      by_cases z : n ∈ seen
      · rw [if_pos z] at h
        cases h
      · rw [if_neg z] at h
        obtain ⟨h1, h2⟩ := ih _ h
        refine ⟨List.nodup_cons.mpr ⟨fun q => h2 n q (by simp), h1⟩, fun m hm => ?_⟩
        rcases List.mem_cons.mp hm with rfl | hm
        · exact z
        · exact fun q => h2 m hm (by simp [q])
  exact (key l [] h).1
theorem colOf_mem {cs : List Col} (nd : (cs.map Col.name).Nodup) {c : Col} (h : c ∈ cs) : colOf cs c.name = some c := by
  induction cs with
  | nil => cases h
  | cons x l ih =>
    rw [List.map_cons, List.nodup_cons] at nd
    unfold colOf
    rcases List.mem_cons.mp h with rfl | h
    · rw [List.find?_cons_of_pos (by simp)]
    · have : x.name ≠ c.name := fun z => nd.1 (by rw [z]; exact List.mem_map_of_mem h)
      rw [List.find?_cons_of_neg (by simpa using this)]
      exact ih nd.2 h
theorem eqVs_refl : ∀ l : List Str, eqVs (l.map V.str) (l.map V.str) = true
  | [] => rfl
  | s :: l => by
    show (eqV (.str s) (.str s) && eqVs (l.map V.str) (l.map V.str)) = true
    rw [eqVs_refl l]
    simp [eqV]
section
variable {P : Program} {wo : World} {A : Ad} {K : PySem.W.Frag} {mg : Str → Option Value} {base : Heap}
theorem g_bm0 {σ : L2.St} {H : Hp} {Q : VK} {T : String} {r : V → List V → Hp → VK → Prop} {t1 : TE} (k : t1 σ H fun x H1 => tyV K T x H1 ∧ r x [] H1 Q) : tBM0 K T r t1 σ H Q := k
def spLooked3 (K : PySem.W.Frag) (A : Ad) (TL : List (Addr × Str)) : Sp := fun vs H Q _ => ∃ G a c cl gl m cs as us gs nm, vs = [.ref a, .ref cl, .ref gl, .ref m] ∧ Wd G (RD a c) H ∧ LamX.Tabs TL G ∧ G cl = some (.lst (as.map V.ref)) ∧ CTs K G cs as ∧ (∀ c ∈ cs, c.ok) ∧ 1 ≤ as.length ∧ as.length ≤ 6 ∧ firstDup [] (cs.map Col.name) = none ∧ G gl = some (.lst us) ∧ GrpsAt K G gs us ∧ gs.length ≤ 3 ∧ Gok gs ∧ TabU A G m nm cs us ∧
  ∀ G' H', SameN G G' → LamX.Tabs TL G' → Wd G' (RD a c) H' → Q (.bl true) H'
theorem sc__law_looked : FnScope (["_law_state", "_law_columns", "_law_groups_here", "_law_made_here", "_law_names_here", "_law_name", "_law_odd", "_law_column_here"] : List Str) (["_law_state", "_law_columns", "_law_groups_here", "_law_made_here"] : List Str) (defScope s__law_looked) := ⟨rfl, rfl, rfl, by decide +kernel, rfl, by decide +kernel, by decide +kernel⟩
theorem ok_looked {f : Addr} {fd : FuncData} {cL PL : Addr} {TL : List (Addr × Str)} (F : Fun K "_law_looked" "_law_looked" s__law_looked f fd) (hcL : fd.code = .ref cL) (TB : LamX.TabB base mg cL PL) (hTL : (PL, (("_law_looked" : Str) ++ ".<locals>.") ++ "<lambda>") ∈ TL) (huL : ∀ p ∈ TL, p.1 = PL → p.2 = (("_law_looked" : Str) ++ ".<locals>.") ++ "<lambda>")
    (T : Txt K mg A) (CF : ColF K A) (CG : ColI K A) (TF : TabF K A) (NF : NsF K) (Gp : GFn P wo K mg base 2 "_law_pick" 2 [] (fun vs _ => spPick K vs)) (Glm : GFn P wo K mg base 6 "_law_made" 1 [] (fun vs _ => spMade K A vs))
    (GT : ∀ k, GPr P wo K mg base 3 (kcls A k) "text" (fun vs _ => spText A vs)) (GC : GPr P wo K mg base 1 A.Table "columns" (fun vs _ => spCols A vs)) (GG : GPr P wo K mg base 1 A.Table "groups" (fun vs _ => spGroups A vs)) (MF : GMt P wo K mg base 3 A.Table "find_column" 1 [] (fun vs _ => spFindC K A vs)) (GE : ∀ k, GMt P wo K mg base 5 (kcls A k) "__eq__" 1 [] (fun vs _ => spCEq K A vs))
    (Gtr : GLam P wo K mg base "_law_tried" (TTried A)) : FnG P wo K mg base (L2.CX P wo) 11 f fd (["_law_state", "_law_columns", "_law_groups_here", "_law_made_here"] : List Str) (spLooked3 K A TL) := by
  refine okGL F hcL sc__law_looked (fun vs H Q E h => ?_) (fun Ar outer s H vs Q E hr hgd tk po h => ?_)
  · obtain ⟨_, _, _, _, _, _, _, _, _, _, _, rfl, _⟩ := h
    rfl
  obtain ⟨G, a, c, cl, gl, m, cs, as, us, gs, nm, rfl, w, hTb, hcl, hct, hco, la1, la6, fdn, hgl, hgr, lg3, gok, hm, k⟩ := h
  have LA : LamAt (cxOf (L2.CX P wo) P wo K mg base (["_law_state", "_law_columns", "_law_groups_here", "_law_made_here", "_law_names_here", "_law_name", "_law_odd", "_law_column_here"] : List Str) "_law_looked" (defScope s__law_looked) f (.ref cL) Ar outer s H E) TL := ⟨cL, PL, TB, rfl, hTL, huL⟩
  refine ⟨_, (pss_cons (ps_if (pt_cmpR (ka_ne K hr.units) (pe_lc (own := [("_law_column_here", 7)]) (g := (gName 7)) (tt := tYes) rfl sc__law_looked.nd (ki_list K (kp_prop (k := 1) P wo K mg base (pv 3) (hr.mono (by decide)))) (blkOk_by (N := (["_law_state", "_law_columns", "_law_groups_here", "_law_made_here", "_law_names_here", "_law_name", "_law_odd", "_law_column_here"] : List Str)) (sc := defScope s__law_looked) (by decide +kernel)) (fun _ _ _ _ _ => (pg_name (i := 7) sc__law_looked.nd rfl (by first | exact Or.inl rfl | exact Or.inr rfl))) (fun _ _ _ _ _ => pts_nil) (fun _ _ _ _ _ => (kp_prop (k := 3) P wo K mg base (pv 7) (hr.mono (by decide))))) (pe_lc (own := [("_law_column_here", 7)]) (g := (gName 7)) (tt := tYes) rfl sc__law_looked.nd (ki_list K (pv 1)) (blkOk_by (N := (["_law_state", "_law_columns", "_law_groups_here", "_law_made_here", "_law_names_here", "_law_name", "_law_odd", "_law_column_here"] : List Str)) (sc := defScope s__law_looked) (by decide +kernel)) (fun _ _ _ _ _ => (pg_name (i := 7) sc__law_looked.nd rfl (by first | exact Or.inl rfl | exact Or.inr rfl))) (fun _ _ _ _ _ => pts_nil) (fun _ _ _ _ _ => (kp_prop (k := 3) P wo K mg base (pe_callG Glm (hr.mono (by decide)) takes0 (pa_cons (pv 7) pa_nil) pk_nil) (hr.mono (by decide))))) (nomark _)) (pss_one (ps_ret pe_bl)) pss_nil)
      (pss_cons (ps_if (pt_cmpR (ka_ne K hr.units) (kp_prop (k := 1) P wo K mg base (pv 3) (hr.mono (by decide))) (pv 2) (nomark _)) (pss_one (ps_ret pe_bl)) pss_nil)
      (pss_cons (ps_expr (pe_bm0 PySem.F.plainAttrs_list PySem.F.slot_list_clear PySem.F.type_list_clear mt_clear (kp_prop (k := 1) P wo K mg base (pv 3) (hr.mono (by decide)))))
      (pss_cons (ps_expr (pe_bm PySem.F.plainAttrs_list PySem.F.slot_list_append PySem.F.type_list_append mt_append (kp_prop (k := 1) P wo K mg base (pv 3) (hr.mono (by decide))) (pa_cons (pe_tup (pa_cons pe_str pa_nil)) pa_nil)))
      (pss_cons (ps_if (PW.pt (pw_or (pt_cmpR (ka_ne K hr.units) (pe_callB (ka_len K) (by rfl) T.nb_len (by decide +kernel) (pa_cons (kp_prop (k := 1) P wo K mg base (pv 3) (hr.mono (by decide))) pa_nil)) (pe_callB (ka_len K) (by rfl) T.nb_len (by decide +kernel) (pa_cons (pv 1) pa_nil)) (nomark _)) (pw_or1 (pt_cmpR (ka_ne K hr.units) (kp_prop (k := 1) P wo K mg base (pv 3) (hr.mono (by decide))) (pv 2) (nomark _))))) (pss_one (ps_ret pe_bl)) pss_nil)
      (pss_cons (ps_setLc (i := 4) (own := [("_law_column_here", 7)]) (g := (gName 7)) (tt := tYes) rfl sc__law_looked.nd rfl rfl (sw_true rfl rfl rfl (by decide +kernel)) (ki_list K (pv 1)) (blkOk_by (N := (["_law_state", "_law_columns", "_law_groups_here", "_law_made_here", "_law_names_here", "_law_name", "_law_odd", "_law_column_here"] : List Str)) (sc := defScope s__law_looked) (by decide +kernel)) (fun _ _ _ _ _ => (pg_name (i := 7) sc__law_looked.nd rfl (by first | exact Or.inl rfl | exact Or.inr rfl))) (fun _ _ _ _ _ => pts_nil) (fun _ _ _ _ _ => (pe_ix (ka_ix K) (pv 7) pe_int (fun _ _ => rfl))))
      (pss_cons (ps_for po rfl (ki_list K (pv 4)) (pg_name (i := 5) sc__law_looked.nd rfl (by first | exact Or.inl rfl | exact Or.inr rfl)) (pss_one (ps_if (pt_not (pt_cmpR (ko_eq (k := 5) P wo K mg base (hr.mono (by decide))) (kp_meth (k := 3) (n := 1) P wo K mg base (pv 3) (hr.mono (by decide)) tk (pa_cons (pv 5) pa_nil) pk_nil) (pe_callG Glm (hr.mono (by decide)) tk (pa_cons (pe_ix (ka_ix K) (pv 1) (pe_bm PySem.F.plainAttrs_list PySem.F.slot_list_index PySem.F.type_list_index mt_index (pv 4) (pa_cons (pv 5) pa_nil)) (fun _ _ => rfl)) pa_nil) pk_nil) (nomark _))) (pss_one (ps_ret pe_bl)) pss_nil)))
      (pss_cons (ps_set (i := 6) sc__law_looked.nd rfl (by first | exact Or.inl rfl | exact Or.inr rfl) (pe_callG Gp (hr.mono (by decide)) tk (pa_cons (pv 0) (pa_cons (pe_lst (pa_cons pe_non (pa_cons pe_int (pa_cons pe_str (pa_cons pe_str (pa_cons (pe_tup pa_nil) (pa_cons (pe_lst pa_nil) (pa_cons pe_dnewK (pa_cons pe_bl (pa_cons (pv 4) pa_nil)))))))))) pa_nil)) pk_nil))
      (pss_one (ps_ret (pe_cmpR (ka_eq K hr.units) (pe_callB (ka_reprQ K hgd (hu120 hr)) (by rfl) T.nb_repr (by decide +kernel) (pa_cons (pe_lamR (k := 3) Gtr LA (hr.mono (by decide)) (LamX.lamS_by (sc := defScope s__law_looked) (by decide +kernel)) (fun _ _ _ _ _ _ _ hrl => (kp_meth (k := 3) (n := 1) P wo K mg base (pv 3) (hrl.mono (by decide)) (takes_of rfl rfl rfl rfl) (pa_cons (pv 6) pa_nil) pk_nil))) pa_nil)) (pe_callB (ka_reprQ K hgd (hu120 hr)) (by rfl) T.nb_repr (by decide +kernel) (pa_cons (pe_tup (pa_cons pe_str (pa_cons (pv 6) pa_nil))) pa_nil)) (nomark _)))))))))))), ?_⟩
  have ncs : cs.length = as.length := Sw.Paired.len hct
  have flats : ∀ l : List Str, (l.map V.str).all flatV = true := fun l => by rw [List.all_map]; exact List.all_eq_true.mpr fun _ _ => rfl
  walk_at "go"
  refine prop_cols GC w hm fun p1 as1 G1 H1 s1 n1 q1 hc1 w => ?_
  have l1 : as1.length = as.length := by rw [← Sw.Paired.len hc1, ncs]
  walk_at "go"
  refine ⟨p1, rfl, ⟨_, SqL.of (w.get q1)⟩, ?_⟩
  refine lc_it (itf_list (xs := as1.map V.ref)) w (fun H e => SqL.of (e _ _ q1)) (by rw [sizeLine_eq, List.length_map]; omega) (fun i _ acc => acc = ((cs.map Col.text).take i).map V.str) rfl ?_ ?_
  · rintro j y Gi acc D Ha Hb hj ej nD rfl ha wj ⟨rfl, hy⟩
    rw [List.getElem?_map] at hy
    obtain ⟨x, hx, rfl⟩ := Option.map_eq_some_iff.mp hy
    obtain ⟨cc, hcc, hxc⟩ := Sw.Paired.atR hc1 hx
    walk_at "go"
    refine ⟨rfl, ?_⟩
    walk_at "go"
    refine prop_text GT wj (hxc.same (Same.trans s1 (Same.trans ej (Same.newG nD)))) (hco cc (List.mem_of_getElem? hcc)) fun H7 w7 => ?_
    refine lc_keep (Pv := fun i _ acc => acc = ((cs.map Col.text).take i).map V.str) w7 ej nD ha hj (by rw [sizeLine_eq, List.length_map]; omega) ?_
    rw [List.take_add_one, List.getElem?_map, hcc]
    simp
  rintro D1 Gn acc Ha ej nD rfl ha w
  rw [List.length_map, l1, ← ncs, List.take_of_length_le (by rw [List.length_map]; exact Nat.le_refl _)] at w
  have S1 : Same G (upd Gn D1 (.lst ((cs.map Col.text).map V.str))) := Same.trans s1 (Same.trans ej (Same.newG nD))
  have d1 : upd Gn D1 (.lst ((cs.map Col.text).map V.str)) D1 = some (.lst ((cs.map Col.text).map V.str)) := upd_same
  generalize upd Gn D1 (.lst ((cs.map Col.text).map V.str)) = G2 at *
  walk_at "go"
  refine ⟨cl, rfl, ⟨_, SqL.of (w.get (S1 _ _ hcl))⟩, ?_⟩
  refine lc_it (itf_list (xs := as.map V.ref)) w (fun H e => SqL.of (e _ _ (S1 _ _ hcl))) (by rw [sizeLine_eq, List.length_map]; omega) (fun i _ acc => acc = ((cs.map Col.text).take i).map V.str) rfl ?_ ?_
  · rintro j y Gi acc D Hb Hc hj ej nD rfl ha wj ⟨rfl, hy⟩
    rw [List.getElem?_map] at hy
    obtain ⟨ca, hca, rfl⟩ := Option.map_eq_some_iff.mp hy
    obtain ⟨cc, hcc, hct2⟩ := Sw.Paired.atR hct hca
    have ok := hco cc (List.mem_of_getElem? hcc)
    walk_at "go"
    refine ⟨rfl, ?_⟩
    walk_at "go"
    refine ⟨rfl, rfl, _, _, ca, cc, rfl, wj, Evl.ex_t (Same.trans S1 (Same.trans ej (Same.newG nD))) hct2, ok, fun x G8 H8 s8 n8 hx w8 => ?_⟩
    refine prop_text GT w8 hx ok fun H9 w9 => ?_
    refine lc_keep (Pv := fun i _ acc => acc = ((cs.map Col.text).take i).map V.str) (w9.drop s8) ej nD ha hj (by rw [sizeLine_eq, List.length_map]; omega) ?_
    rw [List.take_add_one, List.getElem?_map, hcc]
    simp
  rintro D2 Gn2 acc Hb ej2 nD2 rfl ha2 w
  rw [List.length_map, ← ncs, List.take_of_length_le (by rw [List.length_map]; exact Nat.le_refl _)] at w
  refine g_neF w (SqL.of (upd_old (ej2 _ _ d1) nD2)) (SqL.of upd_same) (flats _) (flats _) ?_
  rw [eqVs_refl]
  replace w := w.drop (Same.trans S1 (Same.trans ej2 (Same.newG nD2)))
  walk_at "go"
  have shg := grps_sh gok
  have eqg : PyData.eqv (.list (gs.map grpD)) (.list (gs.map grpD)) = true := SeqAt.eqv_refl _ (SeqAt.canLay_of_shaped shg)
  refine prop_groups GG w hm fun p3 G3 H3 s3 n3 q3 w3 => ?_
  walk_at "go"
  refine g_neD (.lst (Evl.ex_l w3.sub (SqL.of q3)) (grps_dp ((hgr.same s3).same w3.sub))) (.lst (Evl.ex_l w3.sub (SqL.of (s3 _ _ hgl))) (grps_dp ((hgr.same s3).same w3.sub))) shg shg ?_
  rw [eqg]
  replace w := w3.drop s3
  walk_at "go"
  refine g_bm0 ?_
  walk_at "go"
  refine prop_cols GC w hm fun p4 as4 G4 H4 s4 n4 q4 hc4 w => ?_
  refine g_tyL w q4 ?_
  refine ⟨p4, _, rfl, rfl, w.get q4, ?_⟩
  replace w := (w.set (o' := .lst []) q4).drop (Same.setL s4 n4)
  generalize upd H4 p4 (.lst []) = H5 at *
  walk_at "go"
  refine prop_groups GG w hm fun p5 G5 H6 s5 n5 q5 w => ?_
  refine g_tyL w q5 ?_
  walk_at "go"
  refine g_newA w (by walk_at "sz") fun tx G6 H7 n6 s6 q6 w => ?_
  walk_at "go"
  refine g_app w (s6 _ _ q5) (by rw [sizeLine_eq]; have := Sw.Paired.len hgr; omega) fun H8 w => ?_
  replace w := w.drop (Same.setL (Same.trans s5 s6) n5)
  walk_at "go"
  refine prop_cols GC w hm fun p7 as7 G7 H9 s7 n7 q7 hc7 w => ?_
  have l7 : as7.length = as.length := by rw [← Sw.Paired.len hc7, ncs]
  walk_at "go"
  refine g_lenL w (SqL.of q7) ?_
  walk_at "go"
  refine g_lenL w (SqL.of (s7 _ _ hcl)) ?_
  refine g_neS rfl ?_
  rw [List.length_map, List.length_map, l7, decide_eq_true (rfl : V.int ((as.length : Nat) : Int) = V.int ((as.length : Nat) : Int))]
  replace w := w.drop s7
  walk_at "go"
  refine prop_groups GG w hm fun p8 G8 H10 s8 n8 q8 w8 => ?_
  walk_at "go"
  refine g_neD (.lst (Evl.ex_l w8.sub (SqL.of q8)) (grps_dp ((hgr.same s8).same w8.sub))) (.lst (Evl.ex_l w8.sub (SqL.of (s8 _ _ hgl))) (grps_dp ((hgr.same s8).same w8.sub))) shg shg ?_
  rw [eqg]
  replace w := w8.drop s8
  walk_at "go"
  refine ⟨cl, rfl, ⟨_, SqL.of (w.get hcl)⟩, ?_⟩
  refine lc_it (itf_list (xs := as.map V.ref)) w (fun H e => SqL.of (e _ _ hcl)) (by rw [sizeLine_eq, List.length_map]; omega) (fun i _ acc => acc = ((cs.map Col.name).take i).map V.str) rfl ?_ ?_
  · rintro j y Gi acc D Ha Hb hj ej nD rfl ha wj ⟨rfl, hy⟩
    rw [List.getElem?_map] at hy
    obtain ⟨ca, hca, rfl⟩ := Option.map_eq_some_iff.mp hy
    obtain ⟨cc, hcc, hct2⟩ := Sw.Paired.atR hct hca
    walk_at "go"
    refine ⟨rfl, ?_⟩
    walk_at "go"
    refine g_ixT wj (Evl.ex_t (Same.trans ej (Same.newG nD)) hct2) (colTup1 cc) ?_
    refine lc_keep (Pv := fun i _ acc => acc = ((cs.map Col.name).take i).map V.str) wj ej nD ha hj (by rw [sizeLine_eq, List.length_map]; omega) ?_
    rw [List.take_add_one, List.getElem?_map, hcc]
    simp
  rintro D9 Gn9 acc Ha9 ej9 nD9 rfl ha9 w
  rw [List.length_map, ← ncs, List.take_of_length_le (by rw [List.length_map]; exact Nat.le_refl _)] at w
  have S9 : Same G (upd Gn9 D9 (.lst ((cs.map Col.name).map V.str))) := Same.trans ej9 (Same.newG nD9)
  have q9 : upd Gn9 D9 (.lst ((cs.map Col.name).map V.str)) D9 = some (.lst ((cs.map Col.name).map V.str)) := upd_same
  generalize upd Gn9 D9 (.lst ((cs.map Col.name).map V.str)) = G9 at *
  walk_at "go"
  have nd := nodup_of (cs.map Col.name) fdn
  obtain ⟨mdx, md, mgl, mas, hm1, hm2, hm3, hm4⟩ := hm.same S9
  refine ⟨D9, rfl, ⟨_, SqL.of (w.get q9)⟩, ?_⟩
  refine for_it (itf_list (xs := (cs.map Col.name).map V.str)) (fun i σ' H' => ∃ y5, σ' = [some (.ref a), some (.ref cl), some (.ref gl), some (.ref m), some (.ref D9), y5, none, none] ∧ Wd G9 (RD a c) H')
    ⟨_, rfl, w⟩ (fun i σ' H' _ h => ?_) ?_ ?_
  · obtain ⟨_, _, w⟩ := h
    exact Evl.ex_l w.sub (SqL.of q9)
  · clear w
    rintro i x σ' H4 H5 hi ⟨y5, rfl, w⟩ ⟨rfl, hx⟩
    rw [List.getElem?_map, List.getElem?_map] at hx
    obtain ⟨n, hn, rfl⟩ := Option.map_eq_some_iff.mp hx
    obtain ⟨cc, hcc, rfl⟩ := Option.map_eq_some_iff.mp hn
    have hcm := List.mem_of_getElem? hcc
    have ok := hco cc hcm
    obtain ⟨ca, hca, hct2⟩ := Sw.Paired.at hct hcc
    obtain ⟨ta, hv, hta⟩ : ∃ ta, valV (colKvs cs mas) (.inr cc.name) = some (.ref ta) ∧ ColAt A G9 ta cc := by
      rcases colOf_at (n := cc.name) hm3 with ⟨c', a', z1, z2, z3, z4⟩ | ⟨z1, z2⟩
      · rw [colOf_mem nd hcm] at z1
        cases z1
        exact ⟨a', z2, z3⟩
      · rw [colOf_mem nd hcm] at z1
        cases z1
    obtain ⟨tdx, ht1⟩ := id hta
    walk_at "go"
    refine ⟨m, _, mdx, _, _, rfl, w.get hm1, tf_find, MF, ?_⟩
    walk_at "go"
    refine ⟨rfl, rfl, G9, RD a c, m, mdx, md, mgl, nm, cs, mas, .str cc.name, rfl, w, hm1, hm2, hm3, .inl ⟨cc.name, ta, rfl, hv, fun H6 w => ?_⟩⟩
    walk_at "go"
    refine g_tyL w q9 ?_
    walk_at "go"
    refine ⟨D9, (cs.map Col.name).map V.str, .str cc.name, i, .str cc.name, rfl, rfl, Evl.ex_l w.sub (SqL.of q9), rfl, flats _, by rw [List.getElem?_map, List.getElem?_map, hcc]; rfl, by simp [eqV], fun m' z' hm' hz => ?_, ?_⟩
    · rw [List.getElem?_map] at hz
      obtain ⟨n', hn', rfl⟩ := Option.map_eq_some_iff.mp hz
      have ne : ¬ n' = cc.name := fun e => by
        have h1 := (List.getElem?_eq_some_iff.mp hn')
        have h2 := (List.getElem?_eq_some_iff.mp (show (cs.map Col.name)[i]? = some cc.name by rw [List.getElem?_map, hcc]; rfl))
        have := (List.getElem_inj (h₀ := h1.1) (h₁ := h2.1) nd).mp (by rw [h1.2, h2.2, e])
        omega
      simp [eqV, ne]
    walk_at "go"
    refine g_ixL w (SqL.of (S9 _ _ hcl)) (L2.atI_nat (j := i) (v := .ref ca) (by rw [List.getElem?_map, hca]; rfl)) ?_
    walk_at "go"
    refine ⟨rfl, rfl, G9, RD a c, ca, cc, rfl, w, Evl.ex_t S9 hct2, ok, fun x G7 H7 s7 n7 hx7 w => ?_⟩
    obtain ⟨xdx, hx1⟩ := id hx7
    refine ⟨ta, _, tdx, _, _, .ref (kcls A cc.k), rfl, w.get (s7 _ _ ht1), GE cc.k, tyX_same w.sub (CG.ty CF hx1), CG.nf _ _, ?_⟩
    refine ⟨G7, RD a c, ta, .ref x, cc, rfl, w, hta.same s7, ok, .inl ⟨x, cc, rfl, hx7, ok, fun H8 w => ?_⟩⟩
    refine ⟨_, rfl, ?_⟩
    rw [decide_eq_true (rfl : cc.text = cc.text)]
    walk_at "go"
    exact ⟨_, rfl, w.drop s7⟩
  clear w
  rintro _ H4 ⟨y5, rfl, w⟩
  walk_at "go"
  -- an odd name
  refine g_newA w (by walk_at "sz") fun x1 I1 J1 m1 e1 y1 w => ?_
  walk_at "go"
  refine g_newA w (by walk_at "sz") fun x2 I2 J2 m2 e2 y2 w => ?_
  walk_at "go"
  refine g_newO w fun xd I3 J3 m3 e3 y3 w => ?_
  walk_at "go"
  refine g_newA w (by walk_at "sz") fun x4 I4 J4 m4 e4 y4 w => ?_
  have SI : Same G9 I4 := Same.trans e1 (Same.trans e2 (Same.trans e3 e4))
  walk_at "go"
  refine ⟨rfl, rfl, I4, a, c, w, .inl ⟨x4, _, rfl, .inl (SqL.of y4), (show 0 < 9 by decide), (show 9 < 1000000 by decide), fun y J5 hy w => ?_⟩⟩
  have lpn : (cs.map Col.name).length ≤ 1000 := by rw [List.length_map, ncs]; omega
  have nmok : ∀ n ∈ cs.map Col.name, isNm n = true := fun n hn => by
    obtain ⟨cc, hcc, rfl⟩ := List.mem_map.mp hn
    exact (hco cc hcc).1
  obtain ⟨d, hd, ho, hns⟩ : ∃ d, Dq K I4 y d ∧ Od d ∧ (NotStr K I4 y ∨ ∃ n, y = .str n ∧ isNm n = false) := by
    have X1 := e4 _ _ (e3 _ _ (e2 _ _ y1))
    have X2 := e4 _ _ (e3 _ _ y2)
    have X3 := e4 _ _ y3
    have XD := SI _ _ q9
    simp only [List.mem_cons, List.not_mem_nil, or_false] at hy
    rcases hy with rfl | rfl | rfl | rfl | rfl | rfl | rfl | rfl | rfl
    · exact ⟨_, .non, ⟨rfl, by decide, by rw [sizeLine_eq]; decide +kernel⟩, .inl ⟨_, .base .non, NF.n1⟩⟩
    · exact ⟨_, .int 0, ⟨by decide +kernel, by decide, by rw [sizeLine_eq]; decide +kernel⟩, .inl ⟨_, .base (.int _), NF.n2⟩⟩
    · exact ⟨_, .str _, ⟨rfl, by decide, by rw [sizeLine_eq]; decide +kernel⟩, .inr ⟨_, rfl, by decide +kernel⟩⟩
    · exact ⟨_, .str _, ⟨rfl, by decide, by rw [sizeLine_eq]; decide +kernel⟩, .inr ⟨_, rfl, by decide +kernel⟩⟩
    · exact ⟨_, .tup (SqT.of X1) .nil, ⟨rfl, by decide, by rw [sizeLine_eq]; decide +kernel⟩, .inl ⟨_, .base (.tup X1), NF.n4⟩⟩
    · exact ⟨_, .lst (SqL.of X2) .nil, ⟨rfl, by decide, by rw [sizeLine_eq]; decide +kernel⟩, .inl ⟨_, .base (.lst X2), NF.n5⟩⟩
    · exact ⟨.dict [], Dq.dic (kvs := []) X3 .nil, ⟨rfl, by decide, by rw [sizeLine_eq]; decide +kernel⟩, .inl ⟨_, .base (.dK X3), NF.n6⟩⟩
    · exact ⟨_, .bl true, ⟨rfl, by decide, by rw [sizeLine_eq]; decide +kernel⟩, .inl ⟨_, .base (.bl _), NF.n3⟩⟩
    · exact ⟨_, .lst (SqL.of XD) dq_strs, od_names nmok lpn, .inl ⟨_, .base (.lst XD), NF.n5⟩⟩
  walk_at "go"
  have SG : Same G I4 := Same.trans S9 SI
  refine g_lam w (hTb.ext SG) (RD.lists w) fun GL J6 sn T9 w => ?_
  refine ⟨GL, RD a c, w, fun J7 E' Q' w kE kQ => ?_⟩
  have h1 := sn _ _ (SI _ _ hm1) (fun _ z => nomatch z)
  have h2 := sn _ _ (SI _ _ hm2) (fun _ z => nomatch z)
  have h3 : ColsAt A GL cs mas := Sw.Paired.imp (fun _ _ ⟨dx, h⟩ => ⟨dx, sn _ _ (SI _ _ h) (fun _ z => nomatch z)⟩) hm3
  walk_at "go"
  refine ⟨m, _, mdx, _, _, rfl, w.get h1, tf_find, MF, ?_⟩
  walk_at "go"
  refine ⟨rfl, rfl, _, RD a c, m, mdx, md, mgl, nm, cs, mas, y, rfl, w, h1, h2, h3, .inr ⟨?_, ?_⟩⟩
  · rcases hns with h | ⟨n, rfl, h⟩
    · exact .inl (h.sameN sn)
    · refine .inr ⟨n, rfl, fun hn => ?_⟩
      rw [nmok n hn] at h
      cases h
  intro G10 d' J8 s10 nd' hd' w10
  refine kE 3 A.UnknownColumn d' y G10 J8 rfl hd' w10 fun t G11 J9 s11 q11 w => ?_
  walk_at "go"
  have dq11 := ((hd.sameN sn).mono s10).mono s11
  refine g_reprS w (.tup (SqT.of q11) (.cons (.str _) (.cons dq11 .nil))) ho.1 ho.2.1 ho.2.2 ?_
  walk_at "go"
  refine g_newA w (by walk_at "sz") fun t2 G12 J12 m12 s12 q12 w => ?_
  walk_at "go"
  refine g_reprS w (.tup (SqT.of q12) (.cons (.str _) (.cons (dq11.mono s12) .nil))) ho.1 ho.2.1 ho.2.2 ?_
  refine g_eqS rfl ?_
  rw [decide_eq_true (by rfl)]
  have S12 : Same GL G12 := Same.trans s10 (Same.trans s11 s12)
  exact k G12 _ ((SameN.of SG).trans (sn.trans (SameN.of S12))) (T9.ext S12) w
end
end Sv


set_option Elab.async false
set_option linter.all false
set_option maxRecDepth 100000
set_option maxHeartbeats 4000000
namespace Sw
open PySem PySem.Spec PyProof.Rows L2
/-! ### tuples of flat values of one length: != -/
def rNeT (K : PySem.W.Frag) : R2 := fun x y H Q => ∃ a b xs ys, x = .ref a ∧ y = .ref b ∧ SqT K H a xs ∧ SqT K H b ys ∧ xs.all flatV = true ∧ ys.all flatV = true ∧ xs.length = ys.length ∧ Q (.bl (!eqVs xs ys)) H
theorem op_neT {X : Cx} (hu : X.A.units + 64 < cLine) : OpR X (compareOp .NotEq) (rNeT X.K) := by
  intro pins s σ H x y v u Q I rx ry h
  obtain ⟨a, b, xs, ys, rfl, rfl, ha, hb, fa, fb, hl, q⟩ := h
  cases rx
  cases ry
  obtain ⟨i1, r1, p1, z1⟩ := I.tuple ha
  obtain ⟨i2, r2, p2, z2⟩ := I.tuple hb
  have l1 := r1.length
  have l2 := r2.length
  have := SeqAt.RcNeAt.tuples (A := X.A) (e := fun j => eqV (xs.getD j .non) (ys.getD j .non)) p1 p2 (by omega) (fun j h1 h2 => by
      obtain ⟨a1, a2⟩ := flat_at r1 fa h1
      obtain ⟨b1, b2⟩ := flat_at r2 fb h2
      exact eqAt_V a1 b1 a2 b2) X.prog X.w
  refine this _ _ ?_
  have e1 : i1.toArray.size = xs.length := by simp; omega
  have e2 : i2.toArray.size = xs.length := by simp; omega
  rw [e1, e2, Nat.min_self, eqVs_all hl, beq_self_eq_true, Bool.and_true]
  exact ⟨.bl _, H, I, rfl, q⟩
theorem ka_neT {X : Cx} (K : PySem.W.Frag) (hu : X.A.units + 64 < cLine) (hK : X.K = K := by rfl) : OpR X (compareOp .NotEq) (rNeT K) := by subst hK; exact op_neT hu
theorem g_neT {G H : Hp} {R : Res} {K : PySem.W.Frag} {Q : VK} {a b : Addr} {xs ys : List V} (w : Wd G R H) (h1 : SqT K G a xs) (h2 : SqT K G b ys) (f1 : xs.all flatV = true) (f2 : ys.all flatV = true) (hl : xs.length = ys.length) (k : Q (.bl (!eqVs xs ys)) H) : rNeT K (.ref a) (.ref b) H Q := ⟨a, b, xs, ys, rfl, rfl, Evl.ex_t w.sub h1, Evl.ex_t w.sub h2, f1, f2, hl, k⟩
end Sw

set_option Elab.async false
set_option linter.all false
set_option maxRecDepth 100000
set_option maxHeartbeats 4000000
namespace Sv
open PySem PySem.Spec PyProof.Rows L2 Sw
theorem Wd.newX {G H : Hp} {R : Res} {p : Addr} (o : HO) (w : Wd G R H) (hp : H p = none) : ∃ G', G p = none ∧ Same G G' ∧ G' p = some o ∧ Wd G' R (upd H p o) := ⟨upd G p o, w.free hp, Same.newG (w.free hp), upd_same, w.new hp⟩
/-! ### what _law_tried gives of _law_table -/
theorem Wd.takeA {G H : Hp} {R : Res} {l : Addr} {o : HO} (w : Wd G R H) (h : G l = some o) : ∃ Gm, Gm l = none ∧ (∀ b, b ≠ l → Gm b = G b) ∧ Wd (upd Gm l o) R H := by
  refine ⟨fun b => if b = l then none else G b, if_pos rfl, fun b hb => if_neg hb, ?_⟩
  have : upd (fun b => if b = l then none else G b) l o = G := by
    funext b
    by_cases hb : b = l
    · rw [hb, upd_same, h]
    · rw [upd_ne hb]
      exact if_neg hb
  rw [this]
  exact w
theorem tabs_but {T : List (Addr × Str)} {G Gm : Hp} {p : Addr} {xs : List V} (h : LamX.Tabs T G) (hp : G p = some (.lst xs)) (m : ∀ b, b ≠ p → Gm b = G b) : LamX.Tabs T Gm := fun q hq => by
  obtain ⟨ps, h1, h2, h3⟩ := h q hq
  have n1 : q.1 ≠ p := fun e => by rw [e, hp] at h1; cases h1
  refine ⟨ps, by rw [m _ n1]; exact h1, h2, fun pos cv hc => ?_⟩
  obtain ⟨c, e1, e2⟩ := h3 pos cv hc
  have n2 : c ≠ p := fun e => by
    rw [e, hp] at e2
    exact absurd (Option.some.inj e2) (fun z => nomatch z)
  exact ⟨c, e1, by rw [m _ n2]; exact e2⟩
theorem TabW.but {A : Ad} {G G' Gm : Hp} {a : Addr} {nm : V} {cs : List Col} {us zs : List V} {p : Addr} {o : HO} (h : TabW A G G' a nm cs us) (h1 : G p = some o) (h2 : G' p = some (.lst zs)) (m : ∀ b, b ≠ p → Gm b = G' b) : TabU A Gm a nm cs us := by
  obtain ⟨dx, d, gl, as, a1, a2, a3, a4, a5⟩ := h
  have n1 : a ≠ p := fun e => by rw [e, h2] at a1; cases a1
  have n2 : d ≠ p := fun e => by rw [e, h2] at a2; cases a2
  have n3 : gl ≠ p := fun e => by rw [e, h1] at a5; cases a5
  refine ⟨dx, d, gl, as, by rw [m _ n1]; exact a1, by rw [m _ n2]; exact a2, Sw.Paired.imp (fun _ _ ⟨x, hx⟩ => ⟨x, by rw [m _ (fun e => by rw [e, h2] at hx; cases hx)]; exact hx⟩) a3, by rw [m _ n3]; exact a4⟩
theorem TabW.u {A : Ad} {G G' : Hp} {a : Addr} {nm : V} {cs : List Col} {us : List V} (h : TabW A G G' a nm cs us) : TabU A G' a nm cs us := by
  obtain ⟨dx, d, gl, as, a1, a2, a3, a4, _⟩ := h
  exact ⟨dx, d, gl, as, a1, a2, a3, a4⟩
theorem TabU.sameN {A : Ad} {G G' : Hp} {a : Addr} {nm : V} {cs : List Col} {us : List V} (h : TabU A G a nm cs us) (e : SameN G G') : TabU A G' a nm cs us := by
  obtain ⟨dx, d, gl, as, a1, a2, a3, a4⟩ := h
  exact ⟨dx, d, gl, as, e _ _ a1 (fun _ z => nomatch z), e _ _ a2 (fun _ z => nomatch z), Sw.Paired.imp (fun _ _ ⟨x, hx⟩ => ⟨x, e _ _ hx (fun _ z => nomatch z)⟩) a3, e _ _ a4 (fun _ z => nomatch z)⟩
def FndW (A : Ad) (G G3 : Hp) (r v : V) (e : TRes) (cs : List Col) (us : List V) : Prop := (∃ i u t, errD v e = some (i, u) ∧ r = .ref t ∧ G3 t = some (.tup [.str (trW i), u])) ∨ (errD v e = none ∧ ∃ p x, r = .ref p ∧ G3 p = some (.lst [.ref x]) ∧ G p = none ∧ TabW A G G3 x v cs us)
def FndV (A : Ad) (G : Hp) (r v : V) (e : TRes) (cs : List Col) (us : List V) : Prop := (∃ i u t, errD v e = some (i, u) ∧ r = .ref t ∧ G t = some (.tup [.str (trW i), u])) ∨ (errD v e = none ∧ ∃ p x, r = .ref p ∧ G p = some (.lst [.ref x]) ∧ TabU A G x v cs us)
theorem FndW.u {A : Ad} {G G3 : Hp} {r v : V} {e : TRes} {cs : List Col} {us : List V} (h : FndW A G G3 r v e cs us) : FndV A G3 r v e cs us := by
  rcases h with h | ⟨h, p, x, h1, h2, _, h3⟩
  · exact .inl h
  · exact .inr ⟨h, p, x, h1, h2, h3.u⟩
theorem FndW.but {A : Ad} {G G3 Gm : Hp} {r v : V} {e : TRes} {cs : List Col} {us zs : List V} {q : Addr} {o : HO} (h : FndW A G G3 r v e cs us) (h1 : G q = some o) (h2 : G3 q = some (.lst zs)) (m : ∀ b, b ≠ q → Gm b = G3 b) : FndV A Gm r v e cs us := by
  rcases h with ⟨i, u, t, a1, a2, a3⟩ | ⟨h, p, x, a1, a2, a3, a4⟩
  · exact .inl ⟨i, u, t, a1, a2, by rw [m _ (fun z => by rw [z, h2] at a3; cases a3)]; exact a3⟩
  · exact .inr ⟨h, p, x, a1, by rw [m _ (fun z => by rw [z, h1] at a3; cases a3)]; exact a2, a4.but h1 h2 m⟩
theorem FndV.sameN {A : Ad} {G G' : Hp} {r v : V} {e : TRes} {cs : List Col} {us : List V} (h : FndV A G r v e cs us) (s : SameN G G') : FndV A G' r v e cs us := by
  rcases h with ⟨i, u, t, a1, a2, a3⟩ | ⟨h, p, x, a1, a2, a3⟩
  · exact .inl ⟨i, u, t, a1, a2, s _ _ a3 (fun _ z => nomatch z)⟩
  · exact .inr ⟨h, p, x, a1, s _ _ a2 (fun _ z => nomatch z), a3.sameN s⟩
theorem ResV.sameN {G G' : Hp} {r : V} {e : Option (Nat × V)} (h : ResV G r e) (s : SameN G G') : ResV G' r e := by
  rcases h with h | ⟨i, u, t, a1, a2, a3⟩
  · exact .inl h
  · exact .inr ⟨i, u, t, a1, a2, s _ _ a3 (fun _ z => nomatch z)⟩
theorem CTs.sameN {K : PySem.W.Frag} {G G' : Hp} {cs : List Col} {as : List Addr} (h : CTs K G cs as) (e : SameN G G') : CTs K G' cs as := Sw.Paired.imp (fun _ _ x => e.t x) h
theorem GrpV.sameN {K : PySem.W.Frag} {G G' : Hp} {v : V} {o : Option (List Str)} (h : GrpV K G v o) (e : SameN G G') : GrpV K G' v o := by
  rcases h with ⟨p, g, h1, h2, h3, h4⟩ | ⟨t, h1, h2, h3⟩ | ⟨p, xs, h1, h2, h3, h4, h5, x, h6, h7⟩
  · exact .inl ⟨p, g, h1, h2, e.t h3, h4⟩
  · exact .inr (.inl ⟨t, h1, tyX_sameN e h2, h3⟩)
  · exact .inr (.inr ⟨p, xs, h1, h2, e.t h3, h4, fun x hx => (h5 x hx).imp id fun z => z.sameN e, x, h6, h7.sameN e⟩)
theorem Nmb.sameN {K : PySem.W.Frag} {G H : Hp} {v : V} {b : Bool} (h : Nmb K G v b) (e : SameN G H) : Nmb K H v b := by
  rcases h with ⟨s, h⟩ | ⟨h1, h3⟩
  · exact .inl ⟨s, h⟩
  · exact .inr ⟨h1.sameN e, h3⟩
theorem tbr_tried {A : Ad} {G : Hp} {R : Res} {Q Q' : VK} {E' : XK} {v : V} {b : Bool} {cs : List Col} {os : List (Option (List Str))} {us : List V}
    (kE : ∀ i C d v' G' H2, (trCs A)[i]? = some C → G' d = some (.xd [(trF i, v')]) → Wd G' R H2 → (∀ t G3 H3, Same G' G3 → G3 t = some (.tup [.str (trW i), v']) → Wd G3 R H3 → Q (.ref t) H3) → E' (.ref C) (some d) H2)
    (kQ : ∀ v H2, (∀ p, H2 p = none → Q (.ref p) (upd H2 p (.lst [v]))) → Q' v H2)
    (k : ∀ r G3 H3, Same G G3 → FndW A G G3 r v (tabRes b cs os) cs us → Wd G3 R H3 → Q r H3) : TbR A G R Q' E' v b cs os us := by
  unfold TbR
  cases e : tabRes b cs os with
  | name => exact fun G' d H' s n h w => kE 0 A.InvalidName d v G' H' rfl h w fun t G3 H3 s3 h3 w3 => k _ G3 H3 (Same.trans s s3) (.inl ⟨0, v, t, by rw [e]; rfl, rfl, h3⟩) w3
  | col o => exact fun G' d H' s n h w => kE 1 A.InvalidColumn d (optV o) G' H' rfl h w fun t G3 H3 s3 h3 w3 => k _ G3 H3 (Same.trans s s3) (.inl ⟨1, _, t, by rw [e]; rfl, rfl, h3⟩) w3
  | grp i => exact fun G' d H' s n h w => kE 2 A.InvalidGroup d _ G' H' rfl h w fun t G3 H3 s3 h3 w3 => k _ G3 H3 (Same.trans s s3) (.inl ⟨2, _, t, by rw [e]; rfl, rfl, h3⟩) w3
  | ok =>
    refine fun x G' H' s n h w => kQ _ H' fun p hp => k _ _ _ (Same.trans s (Same.newG (w.free hp))) (.inr ⟨by rw [e]; rfl, p, x, rfl, upd_same, Same.free s (w.free hp), ?_⟩) (w.new hp)
    obtain ⟨dx, d, gl, as, a1, a2, a3, a4, a5⟩ := h
    have S := Same.newG (w.free hp) (o := .lst [.ref x])
    exact ⟨dx, d, gl, as, S _ _ a1, S _ _ a2, a3.same S, S _ _ a4, a5⟩
theorem Paired.dropQ {α β : Type} {F : α → β → Prop} : ∀ {cs : List α} {as : List β}, Paired F cs as → ∀ i, Paired F (cs.drop i) (as.drop i)
  | _, _, .nil, i => by rw [List.drop_nil, List.drop_nil]; exact .nil
  | _, _, .cons r t, 0 => .cons r t
  | _, _, .cons _ t, i + 1 => Paired.dropQ t i
theorem grpsV {K : PySem.W.Frag} {G : Hp} : ∀ {gs : List (List Str)} {us : List V}, GrpsAt K G gs us → Gok gs → Paired (fun u o => GrpV K G u o) us (gs.map some)
  | _, _, .nil, _ => .nil
  | g :: gs, _, .cons ⟨p, e, h⟩ t, ok => .cons (.inl ⟨p, g, e, rfl, h, by have := (ok g List.mem_cons_self).1; omega⟩) (grpsV t fun g' hg' => ok g' (List.mem_cons_of_mem _ hg'))
theorem FndW.up {A : Ad} {G0 G G3 : Hp} {r v : V} {e : TRes} {cs : List Col} {us : List V} (h : FndW A G G3 r v e cs us) (s : Same G0 G) : FndW A G0 G3 r v e cs us := by
  rcases h with h | ⟨h, p, x, h1, h2, h3, h4⟩
  · exact .inl h
  · exact .inr ⟨h, p, x, h1, h2, Same.free s h3, h4.up s⟩
theorem pair_sameN {K : PySem.W.Frag} {G G' : Hp} {us : List V} {os : List (Option (List Str))} (h : Paired (fun u o => GrpV K G u o) us os) (e : SameN G G') : Paired (fun u o => GrpV K G' u o) us os := Sw.Paired.imp (fun _ _ x => x.sameN e) h
theorem tried_tab {K : PySem.W.Frag} {A : Ad} {G H : Hp} {R : Res} {Q : VK} {tl : XK → Hp → VK → Prop} {v : V} {b : Bool} {cl : Addr} {cs : List Col} {as : List Addr} {os : List (Option (List Str))} {us : List V} (w : Wd G R H)
    (hcl : G cl = some (.lst (as.map V.ref))) (hct : CTs K G cs as) (hus : Paired (fun u o => GrpV K G u o) us os) (hn : Nmb K G v b) (hcs : ∀ c ∈ cs, c.ok) (la1 : 1 ≤ as.length) (la6 : as.length ≤ 6) (lus : us.length ≤ 3)
    (htl : ∀ H' E' Q', Wd G R H' → (∀ G1 H1 q t, Same G G1 → SqB t K G1 q us → Wd G1 R H1 → spLTab K A [v, .ref cl, .ref q] H1 Q' E') → tl E' H' Q')
    (k : ∀ r G3 H3, Same G G3 → FndW A G G3 r v (tabRes b cs os) cs us → Wd G3 R H3 → Q r H3) : TTried A tl H Q :=
  ⟨G, R, w, fun H' E' Q' w' kE kQ => htl H' E' Q' w' fun G1 H1 q t s1 hq w1 => ⟨G1, R, v, b, cl, q, t, cs, as, us, os, rfl, w1, s1 _ _ hcl, hct.same s1, hq, pair_same hus s1, hn.same s1, hcs, la1, la6, lus, tbr_tried (Q := Q) kE kQ fun r G3 H3 s3 hf w3 => k r G3 H3 (Same.trans s1 s3) (hf.up s1) w3⟩⟩
theorem tried_tab0 {K : PySem.W.Frag} {A : Ad} {G H : Hp} {R : Res} {Q : VK} {tl : XK → Hp → VK → Prop} {v : V} {b : Bool} {q : Addr} (w : Wd G R H) (hn : Nmb K G v b) (hq : ∀ G, SqT K G q [])
    (htl : ∀ H' E' Q', Wd G R H' → MkI (spTabV0 K A q) A.Table [v] [] H' Q' E' → tl E' H' Q')
    (k : ∀ r G3 H3, Same G G3 → FndW A G G3 r v (tabRes b [] []) [] [] → Wd G3 R H3 → Q r H3) : TTried A tl H Q :=
  ⟨G, R, w, fun H' E' Q' w' kE kQ => htl H' E' Q' w' (mk_tab0 w' hn hq (tbr_tried (Q := Q) kE kQ k))⟩
/-! ### the errors, shown -/
def OdW (i : Nat) (d : PyData) : Prop := (PyData.tuple [.str (trW i), d]).showable = true ∧ (PyData.tuple [.str (trW i), d]).depth ≤ 100 ∧ (PyData.tuple [.str (trW i), d]).shown.length ≤ sizeLine
theorem odw_nm {n : Str} (h : isNm n = true) : OdW 1 (.str n) := by
  have h1 := lay_nm h
  have h8 := isNm_len h
  refine ⟨rfl, (show max 0 (max 0 0) + 1 ≤ 100 by decide), ?_⟩
  refine Nat.le_trans (shown_le13 (d := .tuple [.str (trW 1), .str n]) ?_ rfl) (by rw [sizeLine_eq]; decide)
  have e1 : (PyData.tuple [.str (trW 1), .str n]).canLay0 = true := by
    show ((PyData.str (trW 1)).canLay0 && ((PyData.str n).canLay0 && true)) = true
    rw [h1]
    decide +kernel
  have hw : n.cps.size = n.length := rfl
  have e3 : (PyData.tuple [.str (trW 1), .str n]).weight ≤ 2 ^ 20 := by
    show 6 + 1 + (n.cps.size + 1 + 0) ≤ 2 ^ 20
    omega
  unfold PyData.layable0
  rw [e1, decide_eq_true (show (PyData.tuple [.str (trW 1), .str n]).depth ≤ 64 from (show max 0 (max 0 0) + 1 ≤ 64 by decide)), decide_eq_true e3]
  rfl
theorem firstDup_mem : ∀ (l seen : List Str) {n : Str}, firstDup seen l = some n → n ∈ l
  | [], _, _, h => by cases h
  | x :: r, seen, n, h => by
    unfold firstDup at h
    split at h
    · cases h
      exact List.mem_cons_self
    · exact List.mem_cons_of_mem _ (firstDup_mem r _ h)
theorem due_shown {K : PySem.W.Frag} {G : Hp} {v u : V} {dq : PyData} {b : Bool} {cs : List Col} {os : List (Option (List Str))} {i : Nat} (hd : Dq K G v dq) (ho : OdW 0 dq) (hc : ∀ c ∈ cs, c.ok) (hn : cs ≠ []) (lo : os.length ≤ 3) (h : errD v (tabRes b cs os) = some (i, u)) : ∃ du, Dq K G u du ∧ OdW i du := by
  unfold tabRes at h
  split at h
  · cases h
    exact ⟨dq, hd, ho⟩
  · split at h
    · rename_i n hf
      cases h
      obtain ⟨c, hcm, rfl⟩ := List.mem_map.mp (firstDup_mem _ _ hf)
      exact ⟨_, .str _, odw_nm (hc c hcm).1⟩
    · split at h
      · rename_i j hj
        cases h
        have hlt : j < os.length := (List.findIdx?_eq_some_iff_findIdx_eq.mp hj).1
        refine ⟨_, .int _, ?_⟩
        rcases (show j = 0 ∨ j = 1 ∨ j = 2 by omega) with rfl | rfl | rfl <;> exact ⟨by decide +kernel, by decide +kernel, by rw [sizeLine_eq]; decide +kernel⟩
      · cases h
theorem tab_ok {v : V} {b : Bool} {cs : List Col} {os : List (Option (List Str))} (h : errD v (tabRes b cs os) = none) : b = true ∧ firstDup [] (cs.map Col.name) = none ∧ ∀ o ∈ os, grpB cs o = true := by
  unfold tabRes at h
  split at h
  · cases h
  · rename_i hb
    split at h
    · cases h
    · rename_i hf
      split at h
      · cases h
      · split at h
        · cases h
        · rename_i hj
          refine ⟨by simpa using hb, hf, fun o ho => ?_⟩
          have := List.findIdx?_eq_none_iff.mp hj o ho
          simpa using this
theorem grps_of {K : PySem.W.Frag} {G : Hp} {cs : List Col} (hc : ∀ c ∈ cs, c.ok) : ∀ {us : List V} {os : List (Option (List Str))}, Paired (fun u o => GrpV K G u o) us os → (∀ o ∈ os, grpB cs o = true) → ∃ gs, GrpsAt K G gs us ∧ Gok gs ∧ gs.length = us.length
  | _, _, .nil, _ => ⟨[], .nil, fun _ z => absurd z List.not_mem_nil, rfl⟩
  | u :: us, o :: os, .cons r t, h => by
    obtain ⟨gs, h1, h2, h3⟩ := grps_of hc t fun o' ho' => h o' (List.mem_cons_of_mem _ ho')
    have hb := h o List.mem_cons_self
    rcases r with ⟨p, g, rfl, rfl, hg, _⟩ | ⟨t, rfl, _⟩ | ⟨p, xs, _, rfl, _⟩
    · refine ⟨g :: gs, .cons ⟨p, rfl, hg⟩ h1, fun g' hg' => ?_, by rw [List.length_cons, List.length_cons, h3]⟩
      rcases List.mem_cons.mp hg' with rfl | hg'
      · exact isGrp_names hc hb
      · exact h2 g' hg'
    · cases hb
    · cases hb
end Sv


set_option Elab.async false
set_option linter.all false
set_option maxRecDepth 100000
set_option maxHeartbeats 4000000
namespace Sv
open PySem PySem.Spec PyProof.Rows L2 Sw
local macro_rules | `(tactic| walk_at "go1") => `(tactic| first
  | ((with_reducible refine' g_var ?hv ?_); (case hv => rfl))
  | with_reducible refine g_c ?_
  | with_reducible refine g_op ?_
  | with_reducible refine g_un ?_
  | with_reducible refine g_seq ?_
  | with_reducible refine g_next ?_
  | with_reducible refine g_asg ?_
  | with_reducible refine g_name ?_
  | with_reducible refine g_drop ?_
  | with_reducible refine g_sub ?_
  | with_reducible refine g_ret ?_
  | with_reducible refine g_retN ?_
  | with_reducible refine g_ifS ?_
  | with_reducible refine g_if ?_
  | with_reducible refine g_test ?_
  | with_reducible refine g_bl ?_
  | with_reducible refine g_cons ?_
  | with_reducible refine g_nil ?_
  | with_reducible refine g_and ?_
  | with_reducible refine g_or ?_
  | with_reducible refine g_not ?_
  | with_reducible refine g_callB ?_
  | with_reducible refine g_addI ?_
  | with_reducible refine g_I0 ?_
  | with_reducible refine g_calG ?_
  | with_reducible refine g_mkG ?_
  | with_reducible refine g_tup ?_
  | with_reducible refine g_pairs1 ?_
  | with_reducible refine g_pairs0 ?_
  | with_reducible refine g_dget ?_
  | with_reducible refine g_lvals ?_
  | with_reducible refine g_forT ?_
  | with_reducible refine g_lcT ?_
  | with_reducible refine g_dput ?_
  | with_reducible refine g_lc2L ?_
  | with_reducible refine g_iList ?_
  | with_reducible refine g_lcX ?_
  | with_reducible refine g_js1 ?_
  | with_reducible refine g_js0 ?_
  | with_reducible refine g_fmt ?_
  | with_reducible refine g_tLenSet ?_
  | with_reducible refine g_mkV ?_
  | with_reducible refine g_mkV1 ?_
  | with_reducible refine g_lst ?_
  | with_reducible refine g_forL ?_
  | with_reducible refine g_forR ?_
  | with_reducible refine g_forR2 ?_
  | with_reducible refine g_forS ?_
  | with_reducible refine g_forE ?_
  | with_reducible refine g_forEB ?_
  | with_reducible refine g_lcL ?_
  | with_reducible refine g_lcR ?_
  | with_reducible refine g_lcS ?_
  | with_reducible refine g_lcE ?_
  | with_reducible refine g_lcEB ?_
  | with_reducible refine g_orT ?_
  | with_reducible refine g_slc ?_
  | with_reducible refine g_noPart ?_
  | with_reducible refine g_part ?_
  | with_reducible refine g_bm ?_
  | with_reducible refine g_par ?_
  | with_reducible refine g_yes ?_
  | with_reducible refine g_tupG ?_
  | with_reducible refine g_lstG ?_
  | with_reducible refine g_gcons ?_
  | with_reducible refine g_gnil ?_
  | with_reducible refine g_chain ?_
  | with_reducible refine g_truB ?_
  | with_reducible refine g_truN ?_
  | with_reducible refine g_truI ?_
  | with_reducible refine g_m1 ?_
  | with_reducible refine g_fld ?_
  | with_reducible refine g_con ?_
  | with_reducible refine g_tru ?_
  | with_reducible refine g_U ?_
  | with_reducible refine g_xg ?_
  | with_reducible refine g_andT ?_
  | with_reducible refine g_exI ?_
  | with_reducible refine g_dnew ?_
  | with_reducible refine g_intB ?_
  | with_reducible refine g_meth ?_
  | with_reducible refine g_prop ?_
  | with_reducible refine g_exc1 ?_
  | with_reducible refine g_setF ?_
  | with_reducible refine g_star ?_
  | with_reducible refine g_strM ?_
  | with_reducible refine iteT ?_
  | with_reducible refine iteF ?_
  | with_reducible refine iteNT ?_
  | with_reducible refine iteNF ?_)
local macro_rules | `(tactic| walk_at "go") => `(tactic| repeat (walk_at "go1"))
local macro_rules | `(tactic| walk_at "sz") => `(tactic| (first | (rw [sizeLine_eq]; simp only [List.length_cons, List.length_nil, List.length_map, List.length_append, List.length_take]; omega) | (rw [sizeLine_eq]; omega)))
section
variable {P : Program} {wo : World} {A : Ad} {K : PySem.W.Frag} {mg : Str → Option Value} {base : Heap}
theorem upd2 {G H : Hp} (s : Same G H) {p : Addr} {o : HO} : Same (upd G p o) (upd H p o) := fun b u z => by
  by_cases e : b = p
  · subst e
    rw [upd_same] at z ⊢
    exact z
  · rw [upd_ne e] at z ⊢
    exact s _ _ z
theorem Paired.takeQ {α β : Type} {F : α → β → Prop} : ∀ {cs : List α} {as : List β}, Paired F cs as → ∀ i, Paired F (cs.take i) (as.take i)
  | _, _, .nil, i => by rw [List.take_nil, List.take_nil]; exact .nil
  | _, _, .cons _ _, 0 => .nil
  | _, _, .cons r t, i + 1 => .cons r (Paired.takeQ t i)
def spLaw (K : PySem.W.Frag) (TL : List (Addr × Str)) : Sp := fun vs H Q _ => ∃ (s : Addr) (ns : List Int), vs = [.ref s] ∧ SqL K H s (ns.map V.int) ∧ LamX.Tabs TL H ∧ ∀ H', Q (.bl true) H'
theorem sc_law : FnScope (["_law_script", "_law_state", "_law_turn", "_law_names_here", "_law_name", "_law_odd", "_law_due_here", "_law_found", "_law_twin", "_law_columns", "_law_groups_here", "_law_handed"] : List Str) (["_law_script"] : List Str) (defScope s_law) := ⟨rfl, rfl, rfl, by decide +kernel, rfl, by decide +kernel, by decide +kernel⟩
theorem ok_law {f : Addr} {fd : FuncData} {cL PL : Addr} {TL : List (Addr × Str)} (F : Fun K "law" "law" s_law f fd) (hcL : fd.code = .ref cL) (TB : LamX.TabB base mg cL PL) (hTL : (PL, (("law" : Str) ++ ".<locals>.") ++ "<lambda>") ∈ TL) (huL : ∀ p ∈ TL, p.1 = PL → p.2 = (("law" : Str) ++ ".<locals>.") ++ "<lambda>")
    (T : Txt K mg A) (NF : NsF K) (TF : TabF K A) (Gb : GFn P wo K mg base 1 "_law_begun" 1 [] (fun vs _ => spBegun K vs)) (Gd : GFn P wo K mg base 1 "_law_draw" 2 [] (fun vs _ => spDraw vs)) (Gp : GFn P wo K mg base 2 "_law_pick" 2 [] (fun vs _ => spPick K vs))
    (Gns : GFn P wo K mg base 3 "_law_names" 2 [] (fun vs _ => spNames vs)) (Glc : GFn P wo K mg base 3 "_law_column" 3 [] (fun vs _ => spColumn K vs)) (Glg : GFn P wo K mg base 3 "_law_groups" 2 [] (fun vs _ => spLGroups K vs)) (Gldu : GFn P wo K mg base 2 "_law_due" 3 [] (fun vs _ => spLDue3 K vs)) (Gltb : GFn P wo K mg base 7 "_law_table" 3 [] (fun vs _ => spLTab K A vs))
    (GG : GPr P wo K mg base 1 A.Table "groups" (fun vs _ => spGroups A vs)) {q0 : Addr} (hq0 : ∀ G, SqT K G q0 []) (MTb0 : GMkV P wo K mg base 4 "Table" A.Table 1 [] (spTabV0 K A q0))
    (Gll : GFg P wo K mg base 11 "_law_looked" 4 [] (fun vs _ => spLooked3 K A TL vs)) (Gtr : GLam P wo K mg base "_law_tried" (TTried A)) : FnG P wo K mg base (L2.CX P wo) 12 f fd (["_law_script"] : List Str) (spLaw K TL) := by
  refine okGL F hcL sc_law (fun vs H Q E h => ?_) (fun Ar outer s H vs Q E hr hgd tk po h => ?_)
  · obtain ⟨_, _, rfl, _⟩ := h
    rfl
  obtain ⟨l, ns, rfl, hl, hTb, k⟩ := h
  have LA : LamAt (cxOf (L2.CX P wo) P wo K mg base (["_law_script", "_law_state", "_law_turn", "_law_names_here", "_law_name", "_law_odd", "_law_due_here", "_law_found", "_law_twin", "_law_columns", "_law_groups_here", "_law_handed"] : List Str) "law" (defScope s_law) f (.ref cL) Ar outer s H E) TL := ⟨cL, PL, TB, rfl, hTL, huL⟩
  refine ⟨_, (pss_cons (ps_set (i := 1) sc_law.nd rfl (by first | exact Or.inl rfl | exact Or.inr rfl) (pe_callG Gb (hr.mono (by decide)) tk (pa_cons (pv 0) pa_nil) pk_nil))
      (pss_cons (ps_for po rfl (pi_range1 (by rfl) T.nb_range (pa_cons pe_int pa_nil)) (pg_name (i := 2) sc_law.nd rfl (by first | exact Or.inl rfl | exact Or.inr rfl)) (pss_cons (ps_set (i := 3) sc_law.nd rfl (by first | exact Or.inl rfl | exact Or.inr rfl) (pe_callG Gns (hr.mono (by decide)) tk (pa_cons (pv 1) (pa_cons (pe_op (ka_add K) pe_int (pe_callG Gd (hr.mono (by decide)) tk (pa_cons (pv 1) (pa_cons pe_int pa_nil)) pk_nil)) pa_nil)) pk_nil))
      (pss_cons (ps_set (i := 9) sc_law.nd rfl (by first | exact Or.inl rfl | exact Or.inr rfl) (pe_lc (own := [("_law_name", 4)]) (g := (gName 4)) (tt := tYes) rfl sc_law.nd (ki_list K (pv 3)) (blkOk_by (N := (["_law_script", "_law_state", "_law_turn", "_law_names_here", "_law_name", "_law_odd", "_law_due_here", "_law_found", "_law_twin", "_law_columns", "_law_groups_here", "_law_handed"] : List Str)) (sc := defScope s_law) (by decide +kernel)) (fun _ _ _ _ _ => (pg_name (i := 4) sc_law.nd rfl (by first | exact Or.inl rfl | exact Or.inr rfl))) (fun _ _ _ _ _ => pts_nil) (fun _ _ _ _ _ => (pe_callG Glc (hr.mono (by decide)) takes0 (pa_cons (pv 1) (pa_cons (pe_lst (pa_cons pe_str (pa_cons pe_str pa_nil))) (pa_cons (pv 4) pa_nil))) pk_nil))))
      (pss_cons (ps_if (PW.pt (pw_and (pt_cmpR (ka_eq K hr.units) (pe_callG Gd (hr.mono (by decide)) tk (pa_cons (pv 1) (pa_cons pe_int pa_nil)) pk_nil) pe_int (nomark _)) (pw_and1 (pt_cmpR op_lt (pe_callB (ka_len K) (by rfl) T.nb_len (by decide +kernel) (pa_cons (pv 9) pa_nil)) pe_int (nomark _))))) (pss_one (ps_expr (pe_bm PySem.F.plainAttrs_list PySem.F.slot_list_append PySem.F.type_list_append mt_append (pv 9) (pa_cons (pe_callG Glc (hr.mono (by decide)) tk (pa_cons (pv 1) (pa_cons (pe_lst (pa_cons pe_str pa_nil)) (pa_cons (pe_callG Gp (hr.mono (by decide)) tk (pa_cons (pv 1) (pa_cons (pv 3) pa_nil)) pk_nil) pa_nil))) pk_nil) pa_nil)))) pss_nil)
      (pss_cons (ps_set (i := 10) sc_law.nd rfl (by first | exact Or.inl rfl | exact Or.inr rfl) (pe_slice (ka_sl K) (pe_callG Glg (hr.mono (by decide)) tk (pa_cons (pv 1) (pa_cons (pv 9) pa_nil)) pk_nil) po_none (po_some pe_int)))
      (pss_cons (ps_set (i := 5) sc_law.nd rfl (by first | exact Or.inl rfl | exact Or.inr rfl) (pe_lst (pa_cons (pe_ix (ka_ix K) (pv 3) pe_int (fun _ _ => rfl)) (pa_cons (pe_lst (pa_cons (pe_ix (ka_ix K) (pv 3) pe_int (fun _ _ => rfl)) pa_nil)) (pa_cons (pe_tup pa_nil) (pa_cons (pe_op (ka_repT K) (pe_tup (pa_cons (pe_ix (ka_ix K) (pv 3) pe_int (fun _ _ => rfl)) pa_nil)) pe_int) (pa_cons (pe_callTy (ka_tupleN K) (by rfl) T.nb_tuple (by decide +kernel) (pa_cons (pe_slice (ka_sl K) (pv 3) po_none (po_some pe_int)) pa_nil)) (pa_cons (pe_tup (pa_cons (pe_op (ka_add K) (pe_ix (ka_ix K) (pv 3) pe_int (fun _ _ => rfl)) pe_str) pa_nil)) (pa_cons (pe_tup (pa_cons (pe_ix (ka_ix K) (pv 3) pe_int (fun _ _ => rfl)) (pa_cons pe_int pa_nil))) (pa_cons pe_non pa_nil))))))))))
      (pss_cons (ps_expr (pe_bm PySem.F.plainAttrs_list PySem.F.slot_list_append PySem.F.type_list_append mt_append (pv 5) (pa_cons (pe_tup (pa_cons (pe_ix (ka_ix K) (pv 3) pe_int (fun _ _ => rfl)) pa_nil)) pa_nil)))
      (pss_cons (ps_if (pt_cmpR (ka_eq K hr.units) (pe_callG Gd (hr.mono (by decide)) tk (pa_cons (pv 1) (pa_cons pe_int pa_nil)) pk_nil) pe_int (nomark _)) (pss_one (ps_expr (pe_bm PySem.F.plainAttrs_list PySem.F.slot_list_insert PySem.F.type_list_insert mt_insert (pv 10) (pa_cons (pe_callG Gd (hr.mono (by decide)) tk (pa_cons (pv 1) (pa_cons (pe_op (ka_add K) (pe_callB (ka_len K) (by rfl) T.nb_len (by decide +kernel) (pa_cons (pv 10) pa_nil)) pe_int) pa_nil)) pk_nil) (pa_cons (pe_callG Gp (hr.mono (by decide)) tk (pa_cons (pv 1) (pa_cons (pv 5) pa_nil)) pk_nil) pa_nil))))) pss_nil)
      (pss_cons (ps_set (i := 4) sc_law.nd rfl (by first | exact Or.inl rfl | exact Or.inr rfl) (pe_callG Gp (hr.mono (by decide)) tk (pa_cons (pv 1) (pa_cons (pe_lst (pa_cons pe_str (pa_cons pe_str (pa_cons pe_str (pa_cons pe_str (pa_cons pe_str (pa_cons pe_str (pa_cons pe_str (pa_cons pe_non (pa_cons pe_int (pa_cons (pe_lst pa_nil) pa_nil))))))))))) pa_nil)) pk_nil))
      (pss_cons (ps_asg (pe_tup (pa_cons (pe_callG Gldu (hr.mono (by decide)) tk (pa_cons (pv 4) (pa_cons (pv 9) (pa_cons (pv 10) pa_nil))) pk_nil) (pa_cons (pe_callTy (ka_list K) (by rfl) T.nb_list (by decide +kernel) (pa_cons (pv 10) pa_nil)) pa_nil))) (kg_tup (n := 2) K rfl (pgs_cons (pg_name (i := 6) sc_law.nd rfl (by first | exact Or.inl rfl | exact Or.inr rfl)) (pgs_cons (pg_name (i := 11) sc_law.nd rfl (by first | exact Or.inl rfl | exact Or.inr rfl)) pgs_nil))))
      (pss_cons (ps_set (i := 7) sc_law.nd rfl (by first | exact Or.inl rfl | exact Or.inr rfl) (pe_lamR (k := 8) Gtr LA (hr.mono (by decide)) (LamX.lamS_by (sc := defScope s_law) (by decide +kernel)) (fun _ _ _ _ _ _ _ hrl => (pe_callG Gltb (hrl.mono (by decide)) (takes_of rfl rfl rfl rfl) (pa_cons (pv 4) (pa_cons (pv 9) (pa_cons (pv 11) pa_nil))) pk_nil))))
      (pss_cons (ps_expr (pe_bm0 PySem.F.plainAttrs_list PySem.F.slot_list_clear PySem.F.type_list_clear mt_clear (pv 11)))
      (pss_cons (ps_set (i := 8) sc_law.nd rfl (by first | exact Or.inl rfl | exact Or.inr rfl) (pe_lamR (k := 8) Gtr LA (hr.mono (by decide)) (LamX.lamS_by (sc := defScope s_law) (by decide +kernel)) (fun _ _ _ _ _ _ _ hrl => (pe_callG Gltb (hrl.mono (by decide)) (takes_of rfl rfl rfl rfl) (pa_cons (pv 4) (pa_cons (pv 9) (pa_cons (pe_callTy (ka_tupleN K) (by rfl) T.nb_tuple (by decide +kernel) (pa_cons (pv 10) pa_nil)) pa_nil))) pk_nil))))
      (pss_cons (ps_if (PW.pt (pw_and (pt_cmpR op_notN (pv 6) pe_non (nomark _)) (pw_and1 (pt_cmpR (ka_neT K hr.units) (pe_tup (pa_cons (pe_callB (ka_reprQ K hgd (hu120 hr)) (by rfl) T.nb_repr (by decide +kernel) (pa_cons (pv 7) pa_nil)) (pa_cons (pe_callB (ka_reprQ K hgd (hu120 hr)) (by rfl) T.nb_repr (by decide +kernel) (pa_cons (pv 8) pa_nil)) pa_nil))) (pe_tup (pa_cons (pe_callB (ka_reprQ K hgd (hu120 hr)) (by rfl) T.nb_repr (by decide +kernel) (pa_cons (pv 6) pa_nil)) (pa_cons (pe_callB (ka_reprQ K hgd (hu120 hr)) (by rfl) T.nb_repr (by decide +kernel) (pa_cons (pv 6) pa_nil)) pa_nil))) (nomark _))))) (pss_one (ps_ret pe_bl)) pss_nil)
      (pss_cons (ps_if (PW.pt (pw_and (pt_cmpR op_isN (pv 6) pe_non (nomark _)) (pw_and1 (PW.pt (pw_or (pt_not (kt_truth K (pe_callB (ka_isi K) (by rfl) T.nb_isinstance (by decide +kernel) (pa_cons (pv 7) (pa_cons (pe_bltn (v := .ty "list") (u := .type "list") (by rfl) T.nb_list (by decide +kernel) rfl) pa_nil))) (by intro _; rfl))) (pw_or1 (pt_cmpR (ka_ne K hr.units) (ke_fld K (pe_ix (ka_ix K) (pv 7) pe_int (fun _ _ => rfl)) rfl) (pv 4) (nomark _)))))))) (pss_one (ps_ret pe_bl)) pss_nil)
      (pss_cons (ps_if (PW.pt (pw_and (pt_cmpR op_isN (pv 6) pe_non (nomark _)) (pw_and1 (PW.pt (pw_or (pt_not (kt_truth K (pe_callB (ka_isi K) (by rfl) T.nb_isinstance (by decide +kernel) (pa_cons (pv 8) (pa_cons (pe_bltn (v := .ty "list") (u := .type "list") (by rfl) T.nb_list (by decide +kernel) rfl) pa_nil))) (by intro _; rfl))) (pw_or1 (pt_cmpR (ka_ne K hr.units) (kp_prop (k := 1) P wo K mg base (pe_ix (ka_ix K) (pv 8) pe_int (fun _ _ => rfl)) (hr.mono (by decide))) (pv 10) (nomark _)))))))) (pss_one (ps_ret pe_bl)) pss_nil)
      (pss_one (ps_if (PW.pt (pw_and (pt_cmpR op_isN (pv 6) pe_non (nomark _)) (pw_and1 (pt_not (kt_truth K (pe_callGg Gll (hr.mono (by decide)) hgd tk (pa_cons (pv 1) (pa_cons (pv 9) (pa_cons (pv 10) (pa_cons (pe_ix (ka_ix K) (pv 7) pe_int (fun _ _ => rfl)) pa_nil)))) pk_nil) (by intro _; rfl)))))) (pss_one (ps_ret pe_bl)) pss_nil))))))))))))))))))
      (pss_cons (ps_if (pt_cmpR (ka_ne K hr.units) (pe_lamR (k := 8) Gtr LA (hr.mono (by decide)) (LamX.lamS_by (sc := defScope s_law) (by decide +kernel)) (fun _ _ _ _ _ _ _ hrl => (pe_makeG (GMkV.mk' MTb0 1 (by decide)) (hrl.mono (by decide)) (takes_of rfl rfl rfl rfl) (pa_cons pe_str pa_nil) pk_nil))) (pe_tup (pa_cons pe_str (pa_cons pe_str pa_nil))) (nomark _)) (pss_one (ps_ret pe_bl)) pss_nil)
      (pss_one (ps_ret (pe_cmpR (ka_eq K hr.units) (pe_lamR (k := 8) Gtr LA (hr.mono (by decide)) (LamX.lamS_by (sc := defScope s_law) (by decide +kernel)) (fun _ _ _ _ _ _ _ hrl => (pe_makeG (GMkV.mk' MTb0 1 (by decide)) (hrl.mono (by decide)) (takes_of rfl rfl rfl rfl) (pa_cons pe_str pa_nil) pk_nil))) (pe_tup (pa_cons pe_str (pa_cons pe_non pa_nil))) (nomark _))))))), ?_⟩
  walk_at "go"
  refine ⟨rfl, rfl, l, ns, rfl, hl, fun a c H1 w => ?_⟩
  walk_at "go"
  refine ⟨_, rfl, by decide, by decide, ?_⟩
  refine for_it itf_range (fun i σ' H' => ∃ y2 y3 y4 y5 y6 y7 y8 y9 y10 y11 G, σ' = [some (.ref l), some (.ref a), y2, y3, y4, y5, y6, y7, y8, y9, y10, y11] ∧ LamX.Tabs TL G ∧ Wd G (RD a c) H')
    ⟨_, _, _, _, _, _, _, _, _, _, H, rfl, hTb, w⟩ (fun _ _ _ _ _ => True.intro) ?_ ?_
  · clear w hTb
    rintro i x σ' H2 H3 hi ⟨y2, y3, y4, y5, y6, y7, y8, y9, y10, y11, G, rfl, TG, w⟩ ⟨rfl, rfl⟩
    walk_at "go"
    refine ⟨rfl, rfl, G, a, c, 6, rfl, w, by decide, by decide, fun r0 H4 r00 r01 w => ?_⟩
    walk_at "go"
    refine ⟨rfl, rfl, G, a, c, 1 + r0, rfl, by omega, by omega, w, fun nl H5 nms lnm hnm hnd nnl w => ?_⟩
    have TG1 := TG.ext (Same.newG nnl (o := .lst (nms.map V.str)))
    have hnl : upd G nl (.lst (nms.map V.str)) nl = some (.lst (nms.map V.str)) := upd_same
    generalize upd G nl (.lst (nms.map V.str)) = G1 at *
    have ln1 : 1 ≤ nms.length := by omega
    have ln6 : nms.length ≤ 6 := by omega
    walk_at "go"
    refine ⟨nl, rfl, ⟨_, SqL.of (w.get hnl)⟩, ?_⟩
    refine lc_it (itf_list (xs := nms.map V.str)) w (fun H e => SqL.of (e _ _ hnl)) (by rw [sizeLine_eq, List.length_map]; omega) (fun i Gi acc => ∃ cs as, acc = as.map V.ref ∧ CTs K Gi cs as ∧ cs.map Col.name = nms.take i ∧ ∀ c ∈ cs, c.ok ∧ c.nrm) ⟨[], [], rfl, .nil, rfl, fun _ z => absurd z List.not_mem_nil⟩ ?_ ?_
    · rintro j y Gi acc D Ha Hb hj ej nD ⟨cs, as, rfl, hct, lcs, hcok⟩ ha wj ⟨rfl, hy⟩
      rw [List.getElem?_map] at hy
      obtain ⟨cnm, hcnm, rfl⟩ := Option.map_eq_some_iff.mp hy
      walk_at "go"
      refine ⟨rfl, ?_⟩
      walk_at "go"
      refine g_newL wj (by walk_at "sz") fun tl Hc ntl wc => ?_
      walk_at "go"
      refine ⟨rfl, rfl, _, a, c, tl, cnm, ["a", "t"], rfl, wc, upd_same, by decide, by decide, fun co p2 Hd e2 enr e3 n2 w2 => ?_⟩
      obtain ⟨n2a, n2b⟩ := upd_nonne n2
      replace w2 := w2.drop (upd2 (Same.newG ntl))
      obtain ⟨n2c, n2d⟩ := upd_nonne n2a
      rw [upd_comm n2d] at w2
      refine lc_keep (Pv := fun i Gi acc => ∃ cs as, acc = as.map V.ref ∧ CTs K Gi cs as ∧ cs.map Col.name = nms.take i ∧ ∀ c ∈ cs, c.ok ∧ c.nrm) w2 (Same.trans ej (Same.newG n2c)) (by rw [upd_ne n2d.symm]; exact nD) ha hj (by rw [sizeLine_eq, List.length_map]; omega)
        ⟨cs ++ [co], as ++ [p2], by rw [List.map_append]; rfl, Sw.Paired.app (hct.same (Same.newG n2c)) (.cons (SqT.of upd_same) .nil), by rw [List.map_append, lcs, List.take_add_one, hcnm, List.map_cons, e2]; rfl, fun z hz => ?_⟩
      rcases List.mem_append.mp hz with hz | hz
      · exact hcok z hz
      · rw [List.mem_singleton.mp hz]
        refine ⟨⟨by rw [e2]; exact hnm cnm (List.mem_of_getElem? hcnm), fun z => ⟨?_, (e3 z).2⟩⟩, enr⟩
        have := (e3 z).1
        simp only [List.mem_cons, List.not_mem_nil, or_false] at this
        rcases this with e | e <;> rw [e] <;> decide +kernel
    rintro D Gn acc Ha ej nD ⟨cs, as, rfl, hct, lcs, hcok⟩ ha w
    rw [List.length_map, List.take_length] at lcs
    have lcl : as.length = nms.length := by
      rw [← Sw.Paired.len hct, ← lcs, List.length_map]
    have S2 : Same G1 Gn := ej
    with_reducible refine g_name ?_
    with_reducible refine joinSeq (C := fun σ' H' => σ' = [some (.ref l), some (.ref a), some (.int (0 + (i : Nat))), some (.ref nl), y4, y5, y6, y7, y8, some (.ref D), y10, y11] ∧ ∃ G2 cs as, Same G1 G2 ∧ G2 D = some (.lst (as.map V.ref)) ∧ CTs K G2 cs as ∧ (∀ c ∈ cs, c.ok ∧ c.nrm) ∧ 1 ≤ as.length ∧ as.length ≤ 6 ∧ Wd G2 (RD a c) H') (fun N hN => ?_) ?_
    · have hD : upd Gn D (.lst (as.map V.ref)) D = some (.lst (as.map V.ref)) := upd_same
      have sD : Same Gn (upd Gn D (.lst (as.map V.ref))) := Same.newG nD
      generalize upd Gn D (.lst (as.map V.ref)) = G2 at w hD sD
      walk_at "go"
      refine ⟨rfl, rfl, G2, a, c, 4, rfl, w, by decide, by decide, fun r1 H6 r10 r11 w => ?_⟩
      walk_at "go"
      refine g_eqS rfl ?_
      walk_at "go"
      refine iteD (fun h1 => ?_) (fun h1 => ?_)
      rotate_left
      · walk_at "go"
        exact hN _ _ ⟨rfl, G2, cs, as, Same.trans S2 sD, hD, hct.same sD, hcok, by omega, by omega, w⟩
      walk_at "go"
      refine g_lenL w (SqL.of hD) ?_
      rw [List.length_map]
      walk_at "go"
      refine iteD (fun h2 => ?_) (fun h2 => ?_)
      rotate_left
      · walk_at "go"
        exact hN _ _ ⟨rfl, G2, cs, as, Same.trans S2 sD, hD, hct.same sD, hcok, by omega, by omega, w⟩
      walk_at "go"
      refine g_tyL w hD ?_
      walk_at "go"
      refine g_newA w (by walk_at "sz") fun tl G3 H7 n3 s3 q3 w => ?_
      walk_at "go"
      refine ⟨rfl, rfl, G3, a, c, w, .inl ⟨nl, _, rfl, .inl (SqL.of (s3 _ _ (sD _ _ (S2 _ _ hnl)))), by rw [List.length_map]; omega, by rw [List.length_map]; omega, fun x H8 hx w => ?_⟩⟩
      obtain ⟨nm2, hnm2, rfl⟩ := List.mem_map.mp hx
      walk_at "go"
      refine ⟨rfl, rfl, G3, a, c, tl, nm2, ["t"], rfl, w, q3, by decide, by decide, fun co p2 H9 e2 enr e3 n2 w => ?_⟩
      have s4 : Same G3 (upd G3 p2 (.tup (colTup co))) := Same.newG n2
      have q4 : upd G3 p2 (.tup (colTup co)) p2 = some (.tup (colTup co)) := upd_same
      generalize upd G3 p2 (.tup (colTup co)) = G4 at *
      walk_at "go"
      refine g_app w (s4 _ _ (s3 _ _ hD)) (by rw [sizeLine_eq, List.length_map]; omega) fun H10 w => ?_
      walk_at "go"
      have s5 := Same.setL (o := .lst (as.map V.ref ++ [V.ref p2])) (Same.trans sD (Same.trans s3 s4)) nD
      have dp : p2 ≠ D := fun z => by rw [z, s3 _ _ hD] at n2; cases n2
      refine hN _ _ ⟨rfl, upd G4 D (.lst (as.map V.ref ++ [V.ref p2])), cs ++ [co], as ++ [p2], Same.trans S2 s5, by rw [List.map_append]; exact upd_same, Sw.Paired.app (hct.same s5) (.cons (SqT.of (by rw [upd_ne dp]; exact q4)) .nil), fun z hz => ?_, by rw [List.length_append]; omega, ?_, w⟩
      · rcases List.mem_append.mp hz with hz | hz
        · exact hcok z hz
        · rw [List.mem_singleton.mp hz]
          refine ⟨⟨by rw [e2]; exact hnm nm2 hnm2, fun z => ⟨?_, (e3 z).2⟩⟩, enr⟩
          have := (e3 z).1
          simp only [List.mem_cons, List.not_mem_nil, or_false] at this
          rw [this]
          decide +kernel
      · rw [List.length_append]
        show as.length + 1 ≤ 6
        omega
    rintro _ H5 ⟨rfl, G2, cs, as, S2, hD, hct, hcok, la1, la6, w⟩
    walk_at "go"
    refine ⟨rfl, rfl, G2, a, c, D, cs, as, rfl, w, hD, hct, by omega, fun z hz => (hcok z hz).1.1, fun p us0 gs0 G3 H6 n3 s3 q3 hg3 lg3 gok0 w => ?_⟩
    have S3 : Same G1 G3 := Same.trans S2 s3
    walk_at "go"
    refine g_slLA w (SqL.of q3) fun gp G4 H7 n4 s4 q4 w => ?_
    rw [show (2 : Int) = ((2 : Nat) : Int) from rfl, cut_hi] at q4
    obtain ⟨us, gs, hus, hgs, hg4, lg2, gok⟩ : ∃ us gs, us0.take 2 = us ∧ gs0.take 2 = gs ∧ GrpsAt K G3 gs us ∧ gs.length ≤ 2 ∧ Gok gs := ⟨_, _, rfl, rfl, Paired.takeQ hg3 2, by rw [List.length_take]; omega, fun g hg => gok0 g (List.mem_of_mem_take hg)⟩
    rw [hus] at q4
    clear hus hgs hg3 gok0 q3
    have S4 : Same G1 G4 := Same.trans S2 (Same.trans s3 s4)
    obtain ⟨n0, nr, hnr⟩ : ∃ n0 nr, nms = n0 :: nr := by
      cases nms with
      | nil => exact absurd ln1 (by decide)
      | cons x r => exact ⟨x, r, rfl⟩
    have i0 : atI (nms.map V.str) 0 = some (.str n0) := L2.atI_nat (j := 0) (by rw [hnr]; rfl)
    have hnl4 := S4 _ _ hnl
    walk_at "go"
    refine g_ixL w (SqL.of hnl4) i0 ?_
    walk_at "go"
    refine g_ixL w (SqL.of hnl4) i0 ?_
    walk_at "go"
    refine g_newA w (by walk_at "sz") fun o1 G5 H8 n5 s5 q5 w => ?_
    walk_at "go"
    refine g_newA w (by walk_at "sz") fun o2 G6 H9 n6 s6 q6 w => ?_
    walk_at "go"
    refine g_ixL w (SqL.of (s6 _ _ (s5 _ _ hnl4))) i0 ?_
    walk_at "go"
    refine g_newA w (by walk_at "sz") fun o3 G7 H10 n7 s7 q7 w => ?_
    walk_at "go"
    refine ⟨o3, 2, [V.str n0], rfl, rfl, Evl.ex_t w.sub (SqT.of q7), (fun z => nomatch z), by decide, by decide, (show 1 ≤ 1000 by decide), fun o4 h8 => ?_⟩
    obtain ⟨G8, n8, s8, q8, w⟩ := Wd.newX (.tup [V.str n0, V.str n0]) w h8
    walk_at "go"
    have S48 : Same G4 G8 := Same.trans s5 (Same.trans s6 (Same.trans s7 s8))
    refine g_slLA w (SqL.of (S48 _ _ hnl4)) fun o5 G9 H12 n9 s9 q9 w => ?_
    rw [show (4 : Int) = ((4 : Nat) : Int) from rfl, cut_hi, ← List.map_take] at q9
    walk_at "go"
    refine ⟨o5, _, rfl, .inl ⟨Evl.ex_l w.sub (SqL.of q9), fun o6 ha => ?_⟩⟩
    obtain ⟨Ga, na, sa, qa, w⟩ := Wd.newX (.tup ((nms.take 4).map V.str)) w ha
    walk_at "go"
    have S4a : Same G4 Ga := Same.trans S48 (Same.trans s9 sa)
    refine g_ixL w (SqL.of (S4a _ _ hnl4)) i0 ?_
    walk_at "go"
    have ln0 : n0.length ≤ 8 := isNm_len (hnm n0 (by rw [hnr]; exact List.mem_cons_self))
    refine g_addS (by rw [sizeLine_eq]; exact Nat.le_trans (Nat.add_le_add_right ln0 _) (by decide)) ?_
    walk_at "go"
    refine g_newA w (by walk_at "sz") fun o7 Gb H14 nb sb qb w => ?_
    walk_at "go"
    have S4b : Same G4 Gb := Same.trans S4a sb
    refine g_ixL w (SqL.of (S4b _ _ hnl4)) i0 ?_
    walk_at "go"
    refine g_newA w (by walk_at "sz") fun o8 Gc H15 nc sc qc w => ?_
    walk_at "go"
    refine g_newA w (by walk_at "sz") fun ol Gd H16 nd sd qd w => ?_
    walk_at "go"
    refine g_tyL w qd ?_
    walk_at "go"
    have S4c : Same G4 Gc := Same.trans S4b sc
    refine g_ixL w (SqL.of (sd _ _ (S4c _ _ hnl4))) i0 ?_
    walk_at "go"
    refine g_newA w (by walk_at "sz") fun o9 Ge H17 ne se qe w => ?_
    walk_at "go"
    have qde := se _ _ qd
    refine g_app w qde (by rw [sizeLine_eq]; exact (show 8 < 16777216 by decide)) fun H18 w => ?_
    have S4e : Same G4 Ge := Same.trans S4c (Same.trans sd se)
    have qgp : Ge gp = some (.lst us) := S4e _ _ q4
    have dol : ol ≠ gp := (ne_of_none (S4c _ _ q4) nd).symm
    obtain ⟨Gm, m1, m2, w⟩ := Wd.takeA (o := .lst us) w (by rw [upd_ne dol.symm]; exact qgp)
    have keep : ∀ b o, Ge b = some o → (∀ L, o ≠ .lst L) → Gm b = some o := fun b o h n => by
      have h1 : b ≠ gp := fun z => by rw [z, qgp] at h; exact n _ (Option.some.inj h).symm
      have h2 : b ≠ ol := fun z => by rw [z, qde] at h; exact n _ (Option.some.inj h).symm
      rw [m2 b h1, upd_ne h2]
      exact h
    have SM3 : Same G3 Gm := fun b u z => by
      have h1 : b ≠ gp := ne_of_none z n4
      have h2 : b ≠ ol := ne_of_none (S4c _ _ (s4 _ _ z)) nd
      rw [m2 b h1, upd_ne h2]
      exact S4e _ _ (s4 _ _ z)
    have hol := m2 ol dol
    rw [upd_same] at hol
    have ho1 : Gm o1 = some (.lst [V.str n0]) := by
      rw [m2 _ (ne_of_none q4 n5).symm, upd_ne (ne_of_none (sc _ _ (sb _ _ (sa _ _ (s9 _ _ (s8 _ _ (s7 _ _ (s6 _ _ q5))))))) nd)]
      exact se _ _ (sd _ _ (sc _ _ (sb _ _ (sa _ _ (s9 _ _ (s8 _ _ (s7 _ _ (s6 _ _ q5))))))))
    have ho2 : Gm o2 = some (.tup []) := keep _ _ (se _ _ (sd _ _ (sc _ _ (sb _ _ (sa _ _ (s9 _ _ (s8 _ _ (s7 _ _ q6)))))))) fun _ z => nomatch z
    have ho4 : Gm o4 = some (.tup [V.str n0, V.str n0]) := keep _ _ (se _ _ (sd _ _ (sc _ _ (sb _ _ (sa _ _ (s9 _ _ q8)))))) fun _ z => nomatch z
    have ho6 : Gm o6 = some (.tup ((nms.take 4).map V.str)) := keep _ _ (se _ _ (sd _ _ (sc _ _ (sb _ _ qa)))) fun _ z => nomatch z
    have ho7 := keep _ _ (se _ _ (sd _ _ (sc _ _ qb))) fun _ z => nomatch z
    have ho8 := keep _ _ (se _ _ (sd _ _ qc)) fun _ z => nomatch z
    have ho9 := keep _ _ qe fun _ z => nomatch z
    have hct1 := hct.same (Same.trans s3 SM3)
    have hDm : Gm D = some (.lst (as.map V.ref)) := SM3 _ _ (s3 _ _ hD)
    have hus := grpsV (GrpsAt.same hg4 SM3) gok
    have lus : us.length ≤ 2 := by rw [Sw.Paired.len hus, List.length_map]; exact lg2
    have hodd : ∀ x ∈ ([V.str n0, .ref o1, .ref o2, .ref o4, .ref o6, .ref o7, .ref o8, .non] ++ [V.ref o9]), ∃ o, GrpV K Gm x o := fun x hx => by
      simp only [List.mem_append, List.mem_cons, List.not_mem_nil, or_false] at hx
      rcases hx with (rfl | rfl | rfl | rfl | rfl | rfl | rfl | rfl) | rfl
      · exact ⟨none, .inr (.inl ⟨_, rfl, .base (.str _), kit_ty (by decide +kernel)⟩)⟩
      · exact ⟨none, .inr (.inl ⟨_, rfl, .base (.lst ho1), kit_ty (by decide +kernel)⟩)⟩
      · exact ⟨some [], .inl ⟨_, _, rfl, rfl, SqT.of ho2, by decide⟩⟩
      · exact ⟨some [n0, n0], .inl ⟨_, _, rfl, rfl, SqT.of ho4, (show 2 ≤ 1000 by decide)⟩⟩
      · exact ⟨some (nms.take 4), .inl ⟨_, _, rfl, rfl, SqT.of ho6, by rw [List.length_take]; omega⟩⟩
      · exact ⟨some [n0 ++ "z"], .inl ⟨_, _, rfl, rfl, SqT.of ho7, (show 1 ≤ 1000 by decide)⟩⟩
      · refine ⟨none, .inr (.inr ⟨_, _, rfl, rfl, SqT.of ho8, (show 2 ≤ 1000 by decide), fun y hy => ?_, .int 1, by simp, _, .base (.int _), NF.n2⟩)⟩
        simp only [List.mem_cons, List.not_mem_nil, or_false] at hy
        rcases hy with rfl | rfl
        · exact .inl ⟨_, rfl⟩
        · exact .inr ⟨_, .base (.int _), NF.n2⟩
      · exact ⟨none, .inr (.inl ⟨_, rfl, .base .non, kit_ty (by decide +kernel)⟩)⟩
      · exact ⟨some [n0], .inl ⟨_, _, rfl, rfl, SqT.of ho9, (show 1 ≤ 1000 by decide)⟩⟩
    have Sm : Same G1 Gm := Same.trans S3 SM3
    have TGm : LamX.Tabs TL Gm := TG1.ext Sm
    have hcs : ∀ c ∈ cs, c.ok := fun c hc => (hcok c hc).1
    clear keep ho1 ho2 ho4 ho6 ho7 ho8 ho9 S4e S4c S4b S4a S48 S4 s5 s6 s7 s8 s9 sa sb sc sd se q5 q6 q7 q8 q9 qa qb qc qd qe qde qgp m2 n5 n6 n7 n8 n9 na nb nc nd ne hnl4 q4 s4 s3 S3 hg4 hct hD SM3 S2 hcok TG1
    with_reducible refine joinSeq (C := fun σ' H' => σ' = [some (.ref l), some (.ref a), some (.int (0 + (i : Nat))), some (.ref nl), y4, some (.ref ol), y6, y7, y8, some (.ref D), some (.ref gp), y11] ∧ ∃ us os, us.length ≤ 3 ∧ Paired (fun u o => GrpV K Gm u o) us os ∧ Wd (upd Gm gp (.lst us)) (RD a c) H') (fun N hN => ?_) ?_
    · walk_at "go"
      refine ⟨rfl, rfl, _, a, c, 2, rfl, w, by decide, by decide, fun r H r0 r1 w => ?_⟩
      walk_at "go"
      refine g_eqS rfl ?_
      walk_at "go"
      refine iteD (fun h1 => ?_) (fun h1 => ?_)
      rotate_left
      · walk_at "go"
        exact hN _ _ ⟨rfl, us, _, by omega, hus, w⟩
      walk_at "go"
      refine g_tyL w upd_same ?_
      walk_at "go"
      refine g_lenL w (SqL.of upd_same) ?_
      walk_at "go"
      refine ⟨rfl, rfl, _, a, c, _, rfl, w, by omega, by omega, fun r2 H r20 r21 w => ?_⟩
      walk_at "go"
      refine ⟨rfl, rfl, _, a, c, w, .inl ⟨ol, _, rfl, .inl (SqL.of (upd_oth hol dol)), (show 0 < 9 by decide), (show 9 < 1000000 by decide), fun x H hx w => ?_⟩⟩
      obtain ⟨ox, hox⟩ := hodd x hx
      walk_at "go"
      refine ⟨gp, _, r2, x, rfl, rfl, w.get upd_same, by rw [sizeLine_eq]; omega, r20, by omega, ?_⟩
      have w8 := w.set (o' := .lst (us.take r2.toNat ++ [x] ++ us.drop r2.toNat)) upd_same
      rw [upd_upd] at w8
      walk_at "go"
      exact hN _ _ ⟨rfl, us.take r2.toNat ++ [x] ++ us.drop r2.toNat, (gs.map some).take r2.toNat ++ [ox] ++ (gs.map some).drop r2.toNat, by rw [List.length_append, List.length_append, List.length_take, List.length_drop]; simp only [List.length_cons, List.length_nil]; omega, Sw.Paired.app (Sw.Paired.app (Paired.takeQ hus _) (.cons hox .nil)) (Paired.dropQ hus _), w8⟩
    clear hodd hus lus w
    rintro _ H19 ⟨rfl, us, os, lus, hus, w⟩
    have hgp : upd Gm gp (.lst us) gp = some (.lst us) := upd_same
    have S5 : Same Gm (upd Gm gp (.lst us)) := Same.newG m1
    generalize upd Gm gp (.lst us) = G5 at *
    replace hus : Paired (fun u o => GrpV K G5 u o) us os := Sw.Paired.imp (fun _ _ x => x.same S5) hus
    replace hct1 := hct1.same S5
    replace hDm := S5 _ _ hDm
    replace TGm := TGm.ext S5
    clear hol dol S5 Sm m1
    walk_at "go"
    refine g_newA w (by walk_at "sz") fun le G6 H20 n6 s6 q6 w => ?_
    walk_at "go"
    refine g_newA w (by walk_at "sz") fun lk G7 H21 n7 s7 q7 w => ?_
    walk_at "go"
    refine ⟨rfl, rfl, G7, a, c, w, .inl ⟨lk, _, rfl, .inl (SqL.of q7), (show 0 < 10 by decide), (show 10 < 1000000 by decide), fun v H22 hv w => ?_⟩⟩
    have q6' := s7 _ _ q6
    obtain ⟨b, d, hNm, hDp, hsh, hob, hDq, hOd, hbt⟩ : ∃ b d, Nmb K G7 v b ∧ (∀ H', Same G7 H' → Dp K H' v d) ∧ SeqAt.shaped d = true ∧ (okNames.any fun z => PyData.eqv z d) = b ∧ Dq K G7 v d ∧ OdW 0 d ∧ (b = true → ∃ n, v = .str n) := by
      have st : ∀ (x : Str) (b : Bool), x.length ≤ 1000000 → b = isNm x → SeqAt.shaped (.str x) = true → (okNames.any fun z => PyData.eqv z (.str x)) = b → OdW 0 (.str x) → ∃ b d, Nmb K G7 (.str x) b ∧ (∀ H', Same G7 H' → Dp K H' (.str x) d) ∧ SeqAt.shaped d = true ∧ (okNames.any fun z => PyData.eqv z d) = b ∧ Dq K G7 (.str x) d ∧ OdW 0 d ∧ (b = true → ∃ n, V.str x = .str n) :=
        fun x b h1 h2 h3 h4 h5 => ⟨b, .str x, .inl ⟨x, rfl, h1, h2⟩, fun _ _ => .str x, h3, h4, .str x, h5, fun _ => ⟨x, rfl⟩⟩
      simp only [List.mem_cons, List.not_mem_nil, or_false] at hv
      rcases hv with rfl | rfl | rfl | rfl | rfl | rfl | rfl | rfl | rfl | rfl
      · exact st _ true (by decide) (by decide +kernel) (by decide +kernel) (by decide +kernel) ⟨rfl, by decide, by rw [sizeLine_eq]; decide +kernel⟩
      · exact st _ true (by decide) (by decide +kernel) (by decide +kernel) (by decide +kernel) ⟨rfl, by decide, by rw [sizeLine_eq]; decide +kernel⟩
      · exact st _ true (by decide) (by decide +kernel) (by decide +kernel) (by decide +kernel) ⟨rfl, by decide, by rw [sizeLine_eq]; decide +kernel⟩
      · exact st _ true (by decide) (by decide +kernel) (by decide +kernel) (by decide +kernel) ⟨rfl, by decide, by rw [sizeLine_eq]; decide +kernel⟩
      · exact st _ false (by decide) (by decide +kernel) (by decide +kernel) (by decide +kernel) ⟨rfl, by decide, by rw [sizeLine_eq]; decide +kernel⟩
      · exact st _ false (by decide) (by decide +kernel) (by decide +kernel) (by decide +kernel) ⟨rfl, by decide, by rw [sizeLine_eq]; decide +kernel⟩
      · exact st _ false (by decide) (by decide +kernel) (by decide +kernel) (by decide +kernel) ⟨rfl, by decide, by rw [sizeLine_eq]; decide +kernel⟩
      · exact ⟨false, .none, .inr ⟨⟨_, .base .non, NF.n1⟩, rfl⟩, fun _ _ => .non, by decide +kernel, by decide +kernel, .non, ⟨rfl, by decide, by rw [sizeLine_eq]; decide +kernel⟩, fun z => nomatch z⟩
      · exact ⟨false, .int 5, .inr ⟨⟨_, .base (.int _), NF.n2⟩, rfl⟩, fun _ _ => .int 5, by decide +kernel, by decide +kernel, .int 5, ⟨by decide +kernel, by decide, by rw [sizeLine_eq]; decide +kernel⟩, fun z => nomatch z⟩
      · exact ⟨false, .list [], .inr ⟨⟨_, .base (.lst q6'), NF.n5⟩, rfl⟩, fun _ e => .lst (SqL.of (e _ _ q6')) .nil, by decide +kernel, by decide +kernel, .lst (SqL.of q6') .nil, ⟨rfl, by decide, by rw [sizeLine_eq]; decide +kernel⟩, fun z => nomatch z⟩
    clear hv
    have SA := Same.trans s6 s7
    replace hus := pair_same hus SA
    replace hct1 := hct1.same SA
    replace hDm := SA _ _ hDm
    replace hgp := SA _ _ hgp
    replace TGm := TGm.ext SA
    clear SA q6' q6 q7 s6 s7 n6 n7
    walk_at "go"
    refine ⟨rfl, rfl, G7, RD a c, v, d, b, D, gp, cs, as, us, os, rfl, w, hDm, hct1, la1, by omega, hDp, hsh, hob, hgp, hus, by omega, fun rd G8 H23 s8 hrd w => ?_⟩
    walk_at "go"
    refine g_listL w (SqL.of (s8 _ _ hgp)) fun hl H24 nhl w => ?_
    walk_at "go"
    refine g_newA w (by walk_at "sz") fun tp G9 H25 n9 s9 q9 w => ?_
    refine ⟨tp, _, rfl, SqT.of (w.get q9), rfl, ?_⟩
    with_reducible refine g_gcons ?_
    with_reducible refine g_name ?_
    with_reducible refine g_gcons ?_
    with_reducible refine g_name ?_
    with_reducible refine g_gnil ?_
    replace hus := pair_same hus s8
    replace hct1 := hct1.same s8
    replace hDm := s8 _ _ hDm
    replace hgp := s8 _ _ hgp
    replace TGm := TGm.ext s8
    replace hDq := hDq.mono s8
    replace hNm := hNm.same s8
    have S89 : Same G8 G9 := Same.trans (Same.newG nhl) s9
    have hl9 := s9 _ _ (upd_same (H := G8) (a := hl) (o := HO.lst us))
    clear hDp hsh hob q9 n9 s9 s8
    with_reducible refine joinSeq (C := fun σ' H' => ∃ Gm r, σ' = [some (.ref l), some (.ref a), some (.int (0 + (i : Nat))), some (.ref nl), some v, some (.ref ol), some rd, some r, y8, some (.ref D), some (.ref gp), some (.ref hl)] ∧ SameN G8 Gm ∧ Gm hl = none ∧ LamX.Tabs TL Gm ∧ FndV A Gm r v (tabRes b cs os) cs us ∧ Wd (upd Gm hl (.lst us)) (RD a c) H') (fun N hN => ?_) ?_
    · walk_at "go"
      refine g_lam w (TGm.ext S89) (RD.lists w) fun GL H26 sn TL9 w => ?_
      have sn8 : SameN G8 GL := (SameN.of S89).trans sn
      have hlL := sn _ _ hl9 (fun _ z => nomatch z)
      refine tried_tab w (sn8 _ _ hDm (fun _ z => nomatch z)) (hct1.sameN sn8) (pair_sameN hus sn8) (hNm.sameN sn8) hcs la1 la6 lus (fun H' E' Q' w' sp => ?_) fun r G3 H3 s3 hf w3 => ?_
      · walk_at "go"
        exact ⟨rfl, rfl, sp GL _ hl false (Same.refl _) (SqL.of hlL) w'⟩
      · have h3 : G3 hl = some (.lst us) := s3 _ _ hlL
        obtain ⟨Gx, m1, m2, w4⟩ := Wd.takeA w3 h3
        walk_at "go"
        refine hN _ _ ⟨Gx, r, rfl, fun b o h n => ?_, m1, tabs_but (TL9.ext s3) h3 m2, hf.but hlL h3 m2, w4⟩
        have : b ≠ hl := ne_of_none h nhl
        rw [m2 b this]
        exact s3 _ _ (sn8 _ _ h n)
    clear hl9 S89 w
    rintro _ H30 ⟨Gm, rf, rfl, sn8, nh, TGm', hf, w⟩
    replace hrd := ResV.sameN hrd sn8
    replace hus := pair_sameN hus sn8
    replace hct1 := hct1.sameN sn8
    replace hDm := sn8 _ _ hDm (fun _ z => nomatch z)
    replace hgp := sn8 _ _ hgp (fun _ z => nomatch z)
    replace hDq := hDq.sameN sn8
    replace hNm := hNm.sameN sn8
    walk_at "go"
    refine g_bm0 ?_
    walk_at "go"
    refine g_tyL w upd_same ?_
    refine ⟨hl, _, rfl, rfl, w.get upd_same, ?_⟩
    have w2 := w.set (o' := .lst []) upd_same
    rw [upd_upd] at w2
    replace w := w2.drop (Same.newG nh)
    clear w2
    with_reducible refine joinSeq (C := fun σ' H' => ∃ G12 rt, σ' = [some (.ref l), some (.ref a), some (.int (0 + (i : Nat))), some (.ref nl), some v, some (.ref ol), some rd, some rf, some rt, some (.ref D), some (.ref gp), some (.ref hl)] ∧ SameN Gm G12 ∧ LamX.Tabs TL G12 ∧ FndV A G12 rt v (tabRes b cs os) cs us ∧ Wd G12 (RD a c) H') (fun N hN => ?_) ?_
    · walk_at "go"
      refine g_lam w TGm' (RD.lists w) fun GL H31 sn TL2 w => ?_
      refine tried_tab w (sn _ _ hDm (fun _ z => nomatch z)) (hct1.sameN sn) (pair_sameN hus sn) (hNm.sameN sn) hcs la1 la6 lus (fun H' E' Q' w' sp => ?_) fun r G3 H3 s3 hf w3 => ?_
      · walk_at "go"
        refine ⟨gp, us, rfl, .inl ⟨SqL.of (w'.get (sn _ _ hgp (fun _ z => nomatch z))), fun o ho => ?_⟩⟩
        obtain ⟨G1, n1, s1, q1, w1⟩ := Wd.newX (.tup us) w' ho
        walk_at "go"
        exact ⟨rfl, rfl, sp G1 _ o true s1 (SqT.of q1) w1⟩
      · walk_at "go"
        exact hN _ _ ⟨G3, r, rfl, sn.trans (SameN.of s3), TL2.ext s3, hf.u, w3⟩
    clear w TGm'
    rintro _ H32 ⟨G, rt, rfl, sn12, TG, hft, w⟩
    replace hrd := ResV.sameN hrd sn12
    replace hf := hf.sameN sn12
    replace hus := pair_sameN hus sn12
    replace hct1 := hct1.sameN sn12
    replace hDm := sn12 _ _ hDm (fun _ z => nomatch z)
    replace hgp := sn12 _ _ hgp (fun _ z => nomatch z)
    replace hDq := hDq.sameN sn12
    clear sn12 sn8 nh nhl
    have lo : os.length ≤ 3 := by rw [← Sw.Paired.len hus]; exact lus
    have ncs : cs ≠ [] := fun z => by
      have := Sw.Paired.len hct1
      rw [z] at this
      rw [← this] at la1
      exact absurd la1 (by decide)
    rcases hrd with ⟨he, rfl⟩ | ⟨ie, u, td, he, rfl, htd⟩
    · obtain ⟨pf, xf, rfl, hpf, htf⟩ : ∃ p x, rf = .ref p ∧ G p = some (.lst [.ref x]) ∧ TabU A G x v cs us := by
        rcases hf with ⟨_, _, _, z, _⟩ | ⟨_, h⟩
        · rw [he] at z; cases z
        · exact h
      obtain ⟨pt, xt, rfl, hpt, htt⟩ : ∃ p x, rt = .ref p ∧ G p = some (.lst [.ref x]) ∧ TabU A G x v cs us := by
        rcases hft with ⟨_, _, _, z, _⟩ | ⟨_, h⟩
        · rw [he] at z; cases z
        · exact h
      obtain ⟨hb, hfd, hgo⟩ := tab_ok he
      obtain ⟨nm, rfl⟩ := hbt hb
      obtain ⟨gs', hga, gok', lgs⟩ := grps_of hcs hus hgo
      have shg := grps_sh gok'
      have eqg : PyData.eqv (.list (gs'.map grpD)) (.list (gs'.map grpD)) = true := SeqAt.eqv_refl _ (SeqAt.canLay_of_shaped shg)
      walk_at "go"
      refine ⟨rfl, _, rfl, ?_⟩
      rw [decide_eq_true (rfl : V.non = V.non)]
      walk_at "go"
      refine ⟨rfl, _, rfl, ?_⟩
      rw [decide_eq_true (rfl : V.non = V.non)]
      walk_at "go"
      refine g_isi (.ty _) (tyX_same w.sub (.base (.lst hpf))) (show PySem.W.kitOne K (.type "list") (.type "list") = some true from kit_ty (by decide +kernel)) ?_
      walk_at "go"
      refine g_ixL w (SqL.of hpf) (v := .ref xf) rfl ?_
      obtain ⟨dx, dd, glx, mas, hm1, hm2⟩ := id htf
      refine g_gf w hm1 TF.cT TF.nn tf_nm ?_
      walk_at "go"
      refine g_neS (by rfl) ?_
      rw [decide_eq_true (rfl : V.str nm = V.str nm)]
      walk_at "go"
      refine ⟨rfl, _, rfl, ?_⟩
      rw [decide_eq_true (rfl : V.non = V.non)]
      walk_at "go"
      refine g_isi (.ty _) (tyX_same w.sub (.base (.lst hpt))) (show PySem.W.kitOne K (.type "list") (.type "list") = some true from kit_ty (by decide +kernel)) ?_
      walk_at "go"
      refine g_ixL w (SqL.of hpt) (v := .ref xt) rfl ?_
      refine prop_groups GG w htt fun p3 G3 H3 s3 n3 q3 w3 => ?_
      walk_at "go"
      refine g_neD (.lst (Evl.ex_l w3.sub (SqL.of q3)) (grps_dp ((hga.same s3).same w3.sub))) (.lst (Evl.ex_l w3.sub (SqL.of (s3 _ _ hgp))) (grps_dp ((hga.same s3).same w3.sub))) shg shg ?_
      rw [eqg]
      replace w := w3.drop s3
      walk_at "go"
      refine ⟨rfl, _, rfl, ?_⟩
      rw [decide_eq_true (rfl : V.non = V.non)]
      walk_at "go"
      refine g_ixL w (SqL.of hpf) (v := .ref xf) rfl ?_
      walk_at "go"
      refine ⟨rfl, rfl, G, a, c, D, gp, xf, cs, as, us, gs', _, rfl, w, TG, hDm, hct1, hcs, la1, la6, hfd, hgp, hga, by omega, gok', htf, fun G' H' sn' T' w' => ?_⟩
      walk_at "go"
      exact ⟨_, _, _, _, _, _, _, _, _, _, G', rfl, T', w'⟩
    · walk_at "go"
      refine ⟨rfl, _, rfl, ?_⟩
      rw [decide_eq_false (show ¬ (V.ref td = V.non) from fun z => nomatch z)]
      walk_at "go"
      obtain ⟨tf, rfl, htf⟩ : ∃ t, rf = .ref t ∧ G t = some (.tup [.str (trW ie), u]) := by
        rcases hf with ⟨i', u', t, z, h1, h2⟩ | ⟨z, _⟩
        · rw [he] at z
          cases z
          exact ⟨t, h1, h2⟩
        · rw [he] at z; cases z
      obtain ⟨tt, rfl, htt⟩ : ∃ t, rt = .ref t ∧ G t = some (.tup [.str (trW ie), u]) := by
        rcases hft with ⟨i', u', t, z, h1, h2⟩ | ⟨z, _⟩
        · rw [he] at z
          cases z
          exact ⟨t, h1, h2⟩
        · rw [he] at z; cases z
      obtain ⟨du, hdu, hou⟩ := due_shown hDq hOd hcs ncs lo he
      refine g_reprS w (.tup (SqT.of htf) (.cons (.str _) (.cons hdu .nil))) hou.1 hou.2.1 hou.2.2 ?_
      walk_at "go"
      refine g_reprS w (.tup (SqT.of htt) (.cons (.str _) (.cons hdu .nil))) hou.1 hou.2.1 hou.2.2 ?_
      walk_at "go"
      refine g_newA w (by walk_at "sz") fun p1 Ga Hx na sa qa w => ?_
      walk_at "go"
      refine g_reprS w (.tup (SqT.of (sa _ _ htd)) (.cons (.str _) (.cons (hdu.mono sa) .nil))) hou.1 hou.2.1 hou.2.2 ?_
      walk_at "go"
      refine g_reprS w (.tup (SqT.of (sa _ _ htd)) (.cons (.str _) (.cons (hdu.mono sa) .nil))) hou.1 hou.2.1 hou.2.2 ?_
      walk_at "go"
      refine g_newA w (by walk_at "sz") fun p2 Gb Hy nb sb qb w => ?_
      refine g_neT w (SqT.of (sb _ _ qa)) (SqT.of qb) rfl rfl rfl ?_
      rw [show eqVs [V.str (PyData.tuple [.str (trW ie), du]).shown, V.str (PyData.tuple [.str (trW ie), du]).shown] [V.str (PyData.tuple [.str (trW ie), du]).shown, V.str (PyData.tuple [.str (trW ie), du]).shown] = true from eqVs_refl [_, _]]
      walk_at "go"
      refine ⟨rfl, _, rfl, ?_⟩
      rw [decide_eq_false (show ¬ (V.ref td = V.non) from fun z => nomatch z)]
      walk_at "go"
      refine ⟨rfl, _, rfl, ?_⟩
      rw [decide_eq_false (show ¬ (V.ref td = V.non) from fun z => nomatch z)]
      walk_at "go"
      refine ⟨rfl, _, rfl, ?_⟩
      rw [decide_eq_false (show ¬ (V.ref td = V.non) from fun z => nomatch z)]
      walk_at "go"
      exact ⟨_, _, _, _, _, _, _, _, _, _, Gb, rfl, TG.ext (Same.trans sa sb), w⟩
  · rintro _ H2 ⟨y2, y3, y4, y5, y6, y7, y8, y9, y10, y11, G, rfl, TG, w⟩
    walk_at "go"
    refine g_lam w TG (RD.lists w) fun GL H3 sn TL1 w => ?_
    refine tried_tab0 w (b := false) (.inl ⟨"A", rfl, by decide, by decide +kernel⟩) hq0 (fun H' E' Q' w' sp => ?_) fun r G3 H3 s3 hf w => ?_
    · walk_at "go"
      exact ⟨rfl, rfl, sp⟩
    rcases hf with ⟨i, u, t, z, rfl, ht⟩ | ⟨z, _⟩
    rotate_left
    · cases z
    cases z
    walk_at "go"
    refine g_newA w (by walk_at "sz") fun p1 G4 H4 n4 s4 q4 w => ?_
    refine g_neD (.tup (Evl.ex_t w.sub (SqT.of (s4 _ _ ht))) (.cons (.str _) (.cons (.str _) .nil))) (.tup (Evl.ex_t w.sub (SqT.of q4)) (.cons (.str _) (.cons (.str _) .nil))) (by decide +kernel) (by decide +kernel) ?_
    rw [show PyData.eqv (.tuple [.str (trW 0), .str "A"]) (.tuple [.str "name", .str "A"]) = true by decide +kernel]
    walk_at "go"
    refine g_lam w (TL1.ext (Same.trans s3 s4)) (RD.lists w) fun GK H5 sn2 TL2 w => ?_
    refine tried_tab0 w (b := true) (.inl ⟨"a", rfl, by decide, by decide +kernel⟩) hq0 (fun H' E' Q' w' sp => ?_) fun r G5 H6 s5 hf w => ?_
    · walk_at "go"
      exact ⟨rfl, rfl, sp⟩
    rcases hf with ⟨i, u, t, z, rfl, ht⟩ | ⟨z, _⟩
    rotate_left
    · cases z
    cases z
    walk_at "go"
    refine g_newA w (by walk_at "sz") fun p2 G6 H7 n6 s6 q6 w => ?_
    refine g_eqD (.tup (Evl.ex_t w.sub (SqT.of (s6 _ _ ht))) (.cons (.str _) (.cons .non .nil))) (.tup (Evl.ex_t w.sub (SqT.of q6)) (.cons (.str _) (.cons .non .nil))) (by decide +kernel) (by decide +kernel) ?_
    rw [show PyData.eqv (.tuple [.str (trW 1), .none]) (.tuple [.str "column", .none]) = true by decide +kernel]
    exact k _
end
end Sv


set_option Elab.async false
set_option linter.all false
set_option maxRecDepth 100000
set_option maxHeartbeats 4000000
namespace Sv
open PySem PySem.Spec PyProof.Rows L2 Sw
theorem mk_tabV {P : Program} {wo : World} {A : Ad} {K : PySem.W.Frag} {mg : Str → Option Value} {base : Heap} {f : Addr} {oc kV dc pm cd ct : Value} {od an : Option Addr} {sl : Array (Option Value)}
    (lk : K.lookup f = some ⟨oc, od, .func (PySem.W.fnOf "__init__" "Table.__init__" (defArgs s_Table___init__) (defBody s_Table___init__) (defScope s_Table___init__) .none kV dc pm an cd ct), sl⟩) (hcd : PySem.W.codeIn K cd "Table.__init__" = true)
    (T : Txt K mg A) (CF : ColF K A) (TF : TabF K A) (Gn : GFn P wo K mg base 1 "is_name" 1 [] (fun vs _ => spIsName K vs)) (Gig : GFn P wo K mg base 3 "is_group" 2 [] (fun vs _ => spIsGroup K A vs))
    (XN : Exc1 P wo K mg base "InvalidName" A.InvalidName "name") (XC : Exc1 P wo K mg base "InvalidColumn" A.InvalidColumn "name") (XG : Exc1 P wo K mg base "InvalidGroup" A.InvalidGroup "index") : Sw.CalV P wo K mg base 4 f 2 ["unique"] (spTabV K A) :=
  Sw.fn_starK (P := P) (w := wo) (mg := mg) (base := base) (n := 2) (ks := ["unique"]) (sp := spTabInit K A) (fun us t ws => us ++ ws ++ [t]) (fun r rt rz => (r.append rz).append (.cons rt .nil)) (fun h1 h2 => by rw [List.length_append, List.length_append, h1, h2]; rfl) lk hcd sc_Table___init__
    (fun us rest ws l1 l2 => match us, ws, rest, l1, l2 with | [_, _], [_], [], _, _ => rfl | [_, _], [_], _ :: _, _, _ => rfl) (fun A0 outer s H vs Q E hr tk po h => tab_body T CF TF Gn Gig XN XC XG hr tk po h)
theorem mk_tabV0 {P : Program} {wo : World} {A : Ad} {K : PySem.W.Frag} {mg : Str → Option Value} {base : Heap} {f D q : Addr} {oc dc pm cd ct : Value} {od an : Option Addr} {sl : Array (Option Value)}
    (lk : K.lookup f = some ⟨oc, od, .func (PySem.W.fnOf "__init__" "Table.__init__" (defArgs s_Table___init__) (defBody s_Table___init__) (defScope s_Table___init__) .none (.ref D) dc pm an cd ct), sl⟩) (hcd : PySem.W.codeIn K cd "Table.__init__" = true)
    (hq : PySem.W.nsIn K D "unique" = some (some (.ref q)))
    (T : Txt K mg A) (CF : ColF K A) (TF : TabF K A) (Gn : GFn P wo K mg base 1 "is_name" 1 [] (fun vs _ => spIsName K vs)) (Gig : GFn P wo K mg base 3 "is_group" 2 [] (fun vs _ => spIsGroup K A vs))
    (XN : Exc1 P wo K mg base "InvalidName" A.InvalidName "name") (XC : Exc1 P wo K mg base "InvalidColumn" A.InvalidColumn "name") (XG : Exc1 P wo K mg base "InvalidGroup" A.InvalidGroup "index") : Sw.CalV P wo K mg base 4 f 2 [] (spTabV0 K A q) :=
  Sw.fn_starD (P := P) (w := wo) (mg := mg) (base := base) (n := 2) (D := D) (mz := [.ref q]) (mv := [.ref q]) (l := [("unique", .ref q)]) (sp := spTabInit K A) (fun us t ws => us ++ ws ++ [t]) (fun r rt rz => (r.append rz).append (.cons rt .nil)) (fun h1 => by rw [List.length_append, List.length_append, h1]; rfl) lk hcd sc_Table___init__
    (.cons rfl .nil) (fun p hp => by rw [List.mem_singleton] at hp; subst hp; exact hq)
    (fun us rest l1 => by
      match us, l1 with
      | [a, b], _ =>
        cases rest with
        | nil => exact ⟨_, _, _, _, _, _, rfl, rfl, rfl⟩
        | cons c r => exact ⟨_, _, _, _, _, _, rfl, rfl, rfl⟩) (fun A0 outer s H vs Q E hr tk po h => tab_body T CF TF Gn Gig XN XC XG hr tk po h)
end Sv

set_option Elab.async false
set_option linter.all false
set_option maxRecDepth 100000
set_option maxHeartbeats 4000000
namespace Sv
open PySem PySem.Spec PyProof.Rows L2 Sw
theorem exm2 {K : PySem.W.Frag} {cls c d : Value} {b1 b2 : Bool} (h1 : PySem.W.exmOne K cls c = some b1) (h2 : PySem.W.exmOne K cls d = some b2) : PySem.W.exmAny K cls [c, d] = some (b1 || (b2 || false)) := by
  unfold PySem.W.exmAny
  rw [h1]
  unfold PySem.W.exmAny
  rw [h2]
  rfl
theorem kit_self {K : PySem.W.Frag} {c : Addr} : PySem.W.kitOne K (.ref c) (.ref c) = some true := by
  unfold PySem.W.kitOne
  rw [if_pos (by simp)]
theorem words_not {c : Col} (h : c.k ≠ .ref) : c.words = c.words0 := by
  unfold Col.words
  rw [if_neg h]
theorem bindsup1 {K : PySem.W.Frag} {fd : FuncData} {p1 : Str} (h : ∀ a, bindArgs fd ⟨[a], []⟩ = pure ([p1].zip [a])) : Binds K fd [p1] [] := fun s us X hl => by
  rw [List.append_nil] at hl ⊢
  match us, hl with
  | [a], _ => exact BindsTo.of_eq (h a)
theorem bindsup2 {K : PySem.W.Frag} {fd : FuncData} {p1 p2 : Str} (h : ∀ a b, bindArgs fd ⟨[a, b], []⟩ = pure ([p1, p2].zip [a, b])) : Binds K fd [p1, p2] [] := fun s us X hl => by
  rw [List.append_nil] at hl ⊢
  match us, hl with
  | [a, b], _ => exact BindsTo.of_eq (h a b)
def trB (K : PySem.W.Frag) (cs : List Addr) (sv : Addr) : Bool := (List.range 4).all fun i =>
  decide (PySem.W.exmOne K (.ref (cs.getD i 0)) (.ref sv) = some true) && (((List.range 4).all fun j => decide (PySem.W.kitOne K (.ref (cs.getD i 0)) (.ref (cs.getD j 0)) = some (decide (i = j)))) && decide (PySem.W.findIn K (.ref (cs.getD i 0)) (trF i) = some none))
theorem four4 {A : Ad} {P : Addr → Prop} (h1 : P A.InvalidName) (h2 : P A.InvalidColumn) (h3 : P A.InvalidGroup) (h4 : P A.UnknownColumn) : ∀ C ∈ trCs A, P C := fun C h => by
  unfold trCs at h
  simp only [List.mem_cons, List.not_mem_nil, or_false] at h
  rcases h with rfl | rfl | rfl | rfl
  · exact h1
  · exact h2
  · exact h3
  · exact h4
theorem trF_of {K : PySem.W.Frag} {A : Ad} (h : trB K (trCs A) A.SaveError = true) (he : ∀ C ∈ trCs A, ExcC K C) (hx : ∀ C ∈ trCs A, XfC K C) : TrF K A := by
  have k : ∀ (i : Nat) (C : Addr), (trCs A)[i]? = some C → i < 4 ∧ (trCs A).getD i 0 = C := fun i C hi => by
    refine ⟨(List.getElem?_eq_some_iff.mp hi).1, ?_⟩
    rw [List.getD_eq_getElem?_getD, hi]
    rfl
  have sp : ∀ {a b : Bool}, (a && b) = true → a = true ∧ b = true := fun h => Bool.and_eq_true_iff.mp h
  have m : ∀ i, i < 4 → _ := fun i hi => List.all_eq_true.mp h i (List.mem_range.mpr hi)
  refine ⟨fun C hC => ?_, he, hx, fun i j C D hi hj => ?_, fun i C hi => ?_⟩
  · obtain ⟨i, hi⟩ := List.getElem?_of_mem hC
    obtain ⟨i5, ei⟩ := k i C hi
    have := of_decide_eq_true (sp (m i i5)).1
    rw [ei] at this
    exact this
  · obtain ⟨i5, ei⟩ := k i C hi
    obtain ⟨j5, ej⟩ := k j D hj
    have := of_decide_eq_true (List.all_eq_true.mp (sp (sp (m i i5)).2).1 j (List.mem_range.mpr j5))
    rw [ei, ej] at this
    exact this
  · obtain ⟨i5, ei⟩ := k i C hi
    have := of_decide_eq_true (sp (sp (m i i5)).2).2
    rw [ei] at this
    exact this
def colB (K : PySem.W.Frag) (col : Addr) (cs : List Addr) : Bool := (List.range 3).all fun i => decide (PySem.W.kitOne K (.ref (cs.getD i 0)) (.ref col) = some true) && (List.range 3).all fun j => decide (PySem.W.kitOne K (.ref (cs.getD i 0)) (.ref (cs.getD j 0)) = some (decide (i = j))) && PySem.W.notFirst K (cs.getD i 0) (.ref (cs.getD j 0))
def kdI : Kd → Nat
  | .int => 0
  | .text => 1
  | .ref => 2
theorem colB_of {K : PySem.W.Frag} {A : Ad} (h : colB K A.Column [A.IntColumn, A.TextColumn, A.RefColumn] = true) : (∀ k, PySem.W.kitOne K (.ref (kcls A k)) (.ref A.Column) = some true) ∧ (∀ k j, PySem.W.kitOne K (.ref (kcls A k)) (.ref (kcls A j)) = some (decide (k = j)) ∧ PySem.W.notFirst K (kcls A k) (.ref (kcls A j)) = true) := by
  have e : ∀ k, kcls A k = ([A.IntColumn, A.TextColumn, A.RefColumn] : List Addr).getD (kdI k) 0 := fun k => by cases k <;> rfl
  have l : ∀ k, kdI k ∈ List.range 3 := fun k => by cases k <;> decide
  have d : ∀ k j, decide (kdI k = kdI j) = decide (k = j) := fun k j => by cases k <;> cases j <;> rfl
  refine ⟨fun k => ?_, fun k j => ⟨?_, ?_⟩⟩
  · have := of_decide_eq_true (Bool.and_eq_true_iff.mp (List.all_eq_true.mp h _ (l k))).1
    rw [e]
    exact this
  · have := of_decide_eq_true (Bool.and_eq_true_iff.mp (List.all_eq_true.mp (Bool.and_eq_true_iff.mp (List.all_eq_true.mp h _ (l k))).2 _ (l j))).1
    rw [d] at this
    rw [e, e]
    exact this
  · have := (Bool.and_eq_true_iff.mp (List.all_eq_true.mp (Bool.and_eq_true_iff.mp (List.all_eq_true.mp h _ (l k))).2 _ (l j))).2
    rw [e, e]
    exact this
theorem tabs_nil {H : Hp} {PL PK : Addr} {q1 q2 : Str} (h : ∀ p ∈ ([(PL, q1), (PK, q2)] : List (Addr × Str)), H p.1 = some (.tbl #[])) : LamX.Tabs [(PL, q1), (PK, q2)] H := fun p hp => LamX.TabS.nil (h p hp)

theorem tab_mk {K : PySem.W.Frag} {x : Str} {f c P : Addr} {o1 : Value} {o2 : Option Addr} {o3 : Array (Option Value)} {fd : FuncData} {k1 : Value} {k2 : Option Addr} {k3 : Array (Option Value)} {vs : Array Value} (h1 : PySem.W.nsIn K mainGlobals x = some (some (.ref f))) (h2 : K.lookup f = some ⟨o1, o2, .func fd, o3⟩) (hc : fd.code = .ref c) (h3 : K.lookup c = some ⟨k1, k2, .fields vs, k3⟩) (h4 : (vs[11]? : Option Value) = some (.ref P)) : PySem.W.tabIn K x = some (c, P) := by
  unfold PySem.W.tabIn
  simp only [h1, h2, hc, h3, h4]

theorem all_mk {P : Program} {wo : World} {K : PySem.W.Frag} {h : Heap} {mg : Str → Option Value} {fa : Addr} (X : K.In h) (G : h.Ns mainGlobals mg) (hfa : mg "law" = some (.ref fa)) {q : Program} (tabs : ∀ (y : Str) (c P : Addr), ((recsOf q).find? (fun e => e.name == y)).isSome = true → PySem.W.tabIn K y = some (c, P) → PySem.W.CodeHd h c P ∧ h.get? P = some { cls := .none, data := .fields #[] }) (r1 : ((recsOf q).find? (fun e => e.name == ("law" : Str))).isSome = true) (r2 : ((recsOf q).find? (fun e => e.name == ("_law_looked" : Str))).isSome = true) (hfile : ((P.main.file : Str) == "/claim/cut.py") = true) (htop : (P.main.scope.names.lookup ("super" : Str)).isSome = false)
    {c17 c19 c21 c23 c25 c27 c29 c31 c33 c35 a43 a54 N100 f119 cc130 ca131 N154 f173 cc184 ca185 N208 f227 cc238 ca239 N262 f281 cc292 ca293 f336 f350 D351 f368 cc379 ca380 f400 f416 cc427 ca428 p448 g449 p469 g470 f490 f513 D514 q529 p535 g536 p554 g555 f573 f595 f612 f626 f640 f654 f668 f682 f696 f710 f724 f738 f752 f766 f780 ca794 pt795 f803 ca817 pt818 : Addr}
    {t37 t39 t41 t45 t46 t47 t48 t49 t56 t57 t58 t71 t82 t93 tf138 tf192 tf246 tf300 tf387 tf435 : Tok}
    {od50 od59 dd107 od127 an128 od136 od142 dd161 od181 an182 od190 od196 dd215 od235 an236 od244 od250 dd269 od289 an290 od298 od304 od344 an345 od360 an361 od376 an377 od385 od391 od409 an410 od424 an425 od433 od439 od463 an464 od484 an485 od498 an499 od523 an524 od531 od548 an549 od567 an568 od582 an583 od606 an607 od620 an621 od634 an635 od648 an649 od662 an663 od676 an677 od690 an691 od704 an705 od718 an719 od732 an733 od746 an747 od760 an761 od774 an775 od788 an789 kd797 od811 an812 kd820 : Option Addr}
    {n51 n60 n532 : Nat}
    {sl52 sl61 sl129 sl137 sl143 sl183 sl191 sl197 sl237 sl245 sl251 sl291 sl299 sl305 sl346 sl362 sl378 sl386 sl392 sl411 sl426 sl434 sl440 sl465 sl486 sl500 sl525 sl533 sl550 sl569 sl584 sl608 sl622 sl636 sl650 sl664 sl678 sl692 sl706 sl720 sl734 sl748 sl762 sl776 sl790 ks798 sl813 ks821 : Array (Option Value)}
    {nm98 q99 nm152 q153 nm206 q207 nm260 q261 : Str}
    {bs101 bm102 sub104 bs155 bm156 sub158 bs209 bm210 sub212 bs263 bm264 sub266 rs455 rs476 rs540 rs559 : List Value}
    {sn103 sn157 sn211 sn265 : List Str}
    {ab105 ab159 ab213 ab267 : Bool}
    {col106 col160 col214 col268 : Option Bool}
    {m108 m109 m110 m111 m112 m162 m163 m164 m165 m166 m216 m217 m218 m219 m220 m270 m271 m272 m273 m274 : Option Value}
    {oc122 kV123 dc124 pm125 ct126 ol134 ol141 oc176 kV177 dc178 pm179 ct180 ol188 ol195 oc230 kV231 dc232 pm233 ct234 ol242 ol249 oc284 kV285 dc286 pm287 ct288 ol296 ol303 oc338 kV339 dc340 pm341 cd342 ct343 oc354 dc356 pm357 cd358 ct359 oc371 kV372 dc373 pm374 ct375 ol383 ol390 oc403 kV404 dc405 pm406 cd407 ct408 oc419 kV420 dc421 pm422 ct423 ol431 ol438 oc457 kV458 dc459 pm460 cd461 ct462 oc478 kV479 dc480 pm481 cd482 ct483 oc492 kV493 dc494 pm495 cd496 ct497 oc517 dc519 pm520 cd521 ct522 oc542 kV543 dc544 pm545 cd546 ct547 oc561 kV562 dc563 pm564 cd565 ct566 oc576 kV577 dc578 pm579 cd580 ct581 oc600 kV601 dc602 pm603 cd604 ct605 oc614 kV615 dc616 pm617 cd618 ct619 oc628 kV629 dc630 pm631 cd632 ct633 oc642 kV643 dc644 pm645 cd646 ct647 oc656 kV657 dc658 pm659 cd660 ct661 oc670 kV671 dc672 pm673 cd674 ct675 oc684 kV685 dc686 pm687 cd688 ct689 oc698 kV699 dc700 pm701 cd702 ct703 oc712 kV713 dc714 pm715 cd716 ct717 oc726 kV727 dc728 pm729 cd730 ct731 oc740 kV741 dc742 pm743 cd744 ct745 oc754 kV755 dc756 pm757 cd758 ct759 oc768 kV769 dc770 pm771 cd772 ct773 oc782 kV783 dc784 pm785 ct787 kc796 oc805 kV806 dc807 pm808 ct810 kc819 : Value}
    {va135 va189 va243 va297 va384 va432 vs799 vs822 : Array Value}
    (h1 : PySem.W.nsIn K PySem.cStatics "thirdparty.any" = some none)
    (h2 : PySem.W.nsIn K mainGlobals "super" = some none)
    (h3 : PySem.W.nsIn K mainGlobals "isinstance" = some none)
    (h4 : PySem.W.nsIn K mainGlobals "str" = some none)
    (h5 : PySem.W.nsIn K mainGlobals "len" = some none)
    (h6 : PySem.W.nsIn K mainGlobals "all" = some none)
    (h7 : PySem.W.nsIn K mainGlobals "enumerate" = some none)
    (h8 : PySem.W.nsIn K mainGlobals "list" = some none)
    (h9 : PySem.W.nsIn K mainGlobals "tuple" = some none)
    (h10 : PySem.W.nsIn K mainGlobals "set" = some none)
    (h11 : PySem.W.nsIn K mainGlobals "any" = some none)
    (h12 : PySem.W.nsIn K mainGlobals "abs" = some none)
    (h13 : PySem.W.nsIn K mainGlobals "range" = some none)
    (h14 : PySem.W.nsIn K mainGlobals "int" = some none)
    (h15 : PySem.W.nsIn K mainGlobals "dict" = some none)
    (h16 : PySem.W.nsIn K mainGlobals "repr" = some none)
    (h18 : PySem.W.nsIn K mainGlobals "SaveError" = some (some (.ref c17)))
    (h20 : PySem.W.nsIn K mainGlobals "InvalidName" = some (some (.ref c19)))
    (h22 : PySem.W.nsIn K mainGlobals "InvalidColumn" = some (some (.ref c21)))
    (h24 : PySem.W.nsIn K mainGlobals "InvalidGroup" = some (some (.ref c23)))
    (h26 : PySem.W.nsIn K mainGlobals "UnknownColumn" = some (some (.ref c25)))
    (h28 : PySem.W.nsIn K mainGlobals "Column" = some (some (.ref c27)))
    (h30 : PySem.W.nsIn K mainGlobals "IntColumn" = some (some (.ref c29)))
    (h32 : PySem.W.nsIn K mainGlobals "TextColumn" = some (some (.ref c31)))
    (h34 : PySem.W.nsIn K mainGlobals "RefColumn" = some (some (.ref c33)))
    (h36 : PySem.W.nsIn K mainGlobals "Table" = some (some (.ref c35)))
    (h38 : PySem.W.nsIn K mainGlobals "LETTERS" = some (some (.str "abcdefghijklmnopqrstuvwxyz" t37)))
    (h40 : PySem.W.nsIn K mainGlobals "LONGEST_NAME" = some (some (.int 8 t39)))
    (h42 : PySem.W.nsIn K mainGlobals "MOST_IN_GROUP" = some (some (.int 3 t41)))
    (h44 : PySem.W.nsIn K mainGlobals "RESERVED" = some (some (.ref a43)))
    (h53 : K.lookup a43 = some ⟨.type "tuple", od50, .seq #[.str "key" t45, .str "limit" t46, .str "order" t47, .str "self" t48, .str "table" t49] n51, sl52⟩)
    (h55 : PySem.W.nsIn K mainGlobals "RULES" = some (some (.ref a54)))
    (h62 : K.lookup a54 = some ⟨.type "tuple", od59, .seq #[.str "restrict" t56, .str "clear" t57, .str "cascade" t58] n60, sl61⟩)
    (h63 : PySem.W.plainGet K c29 Str.empty = true)
    (h64 : PySem.W.hasDictIn K c29 = true)
    (h65 : PySem.W.plainOver K c29 = true)
    (h66 : PySem.W.findIn K (.ref c29) "__setattr__" = some (some (.builtin "object.__setattr__")))
    (h67 : PySem.W.makesIn K c29 = true)
    (h68 : PySem.W.keepIn K (.ref c29) = true)
    (h69 : PySem.W.findIn K (.ref c29) "name" = some none)
    (h70 : PySem.W.findIn K (.ref c29) "optional" = some none)
    (h72 : PySem.W.findIn K (.ref c29) "KIND" = some (some (.str "int" t71)))
    (h73 : PySem.W.specialIn K (.str "int" t71) "__get__" = some none)
    (h74 : PySem.W.plainGet K c31 Str.empty = true)
    (h75 : PySem.W.hasDictIn K c31 = true)
    (h76 : PySem.W.plainOver K c31 = true)
    (h77 : PySem.W.findIn K (.ref c31) "__setattr__" = some (some (.builtin "object.__setattr__")))
    (h78 : PySem.W.makesIn K c31 = true)
    (h79 : PySem.W.keepIn K (.ref c31) = true)
    (h80 : PySem.W.findIn K (.ref c31) "name" = some none)
    (h81 : PySem.W.findIn K (.ref c31) "optional" = some none)
    (h83 : PySem.W.findIn K (.ref c31) "KIND" = some (some (.str "text" t82)))
    (h84 : PySem.W.specialIn K (.str "text" t82) "__get__" = some none)
    (h85 : PySem.W.plainGet K c33 Str.empty = true)
    (h86 : PySem.W.hasDictIn K c33 = true)
    (h87 : PySem.W.plainOver K c33 = true)
    (h88 : PySem.W.findIn K (.ref c33) "__setattr__" = some (some (.builtin "object.__setattr__")))
    (h89 : PySem.W.makesIn K c33 = true)
    (h90 : PySem.W.keepIn K (.ref c33) = true)
    (h91 : PySem.W.findIn K (.ref c33) "name" = some none)
    (h92 : PySem.W.findIn K (.ref c33) "optional" = some none)
    (h94 : PySem.W.findIn K (.ref c33) "KIND" = some (some (.str "ref" t93)))
    (h95 : PySem.W.specialIn K (.str "ref" t93) "__get__" = some none)
    (h96 : PySem.W.findIn K (.ref c33) "target" = some none)
    (h97 : PySem.W.findIn K (.ref c33) "rule" = some none)
    (h113 : K.lookup c19 = some (excClassObj nm98 q99 c19 N100 bs101 bm102 true sn103 sub104 ab105 col106 dd107 m108 m109 m110 m111 m112 "ValueError.__new__"))
    (h114 : PySem.HandSPX.refsVE bm102 = true)
    (h115 : PySem.W.findIn K (.ref c19) "__setattr__" = some (some (.builtin "object.__setattr__")))
    (h116 : PySem.W.subIn K (.ref c19) (.type "BaseException") = some true)
    (h117 : PySem.W.typeIn K (.ref c19) = some (.type "type"))
    (h118 : PySem.W.keepIn K (.ref c19) = true)
    (h120 : PySem.W.findIn K (.ref c19) "__init__" = some (some (.ref f119)))
    (h121 : PySem.W.typeIn K (.ref f119) = some (.type "function"))
    (h132 : K.lookup f119 = some ⟨oc122, od127, .func (PySem.W.ksFn "__init__" "InvalidName.__init__" (defArgs s_InvalidName___init__) (defBody s_InvalidName___init__) (defScope s_InvalidName___init__) .none kV123 dc124 pm125 an128 (.ref ca131) ct126 cc130), sl129⟩)
    (h133 : PySem.W.codeIn K (.ref ca131) "InvalidName.__init__" = true)
    (h139 : K.lookup ca131 = some ⟨ol134, od136, .fields va135, sl137⟩)
    (h140 : va135[2]? = some (.str "/claim/cut.py" tf138))
    (h144 : K.lookup cc130 = some ⟨ol141, od142, .cell (some (.ref c19)), sl143⟩)
    (h145 : PySem.W.isClsIn K c19 = true)
    (h146 : PySem.W.keepIn K (.ref f119) = true)
    (h147 : PySem.W.ks_superIn K c19 c19 "__init__" = some (some (.builtin "ValueError.__init__")))
    (h148 : PySem.W.mroIn K c19 (.ref c19) = some true)
    (h149 : PySem.W.subIn K (.ref c19) (.type "ValueError") = some true)
    (h150 : PySem.W.findIn K (.ref c19) "name" = some none)
    (h151 : PySem.W.hasDictIn K c19 = true)
    (h167 : K.lookup c21 = some (excClassObj nm152 q153 c21 N154 bs155 bm156 true sn157 sub158 ab159 col160 dd161 m162 m163 m164 m165 m166 "ValueError.__new__"))
    (h168 : PySem.HandSPX.refsVE bm156 = true)
    (h169 : PySem.W.findIn K (.ref c21) "__setattr__" = some (some (.builtin "object.__setattr__")))
    (h170 : PySem.W.subIn K (.ref c21) (.type "BaseException") = some true)
    (h171 : PySem.W.typeIn K (.ref c21) = some (.type "type"))
    (h172 : PySem.W.keepIn K (.ref c21) = true)
    (h174 : PySem.W.findIn K (.ref c21) "__init__" = some (some (.ref f173)))
    (h175 : PySem.W.typeIn K (.ref f173) = some (.type "function"))
    (h186 : K.lookup f173 = some ⟨oc176, od181, .func (PySem.W.ksFn "__init__" "InvalidColumn.__init__" (defArgs s_InvalidColumn___init__) (defBody s_InvalidColumn___init__) (defScope s_InvalidColumn___init__) .none kV177 dc178 pm179 an182 (.ref ca185) ct180 cc184), sl183⟩)
    (h187 : PySem.W.codeIn K (.ref ca185) "InvalidColumn.__init__" = true)
    (h193 : K.lookup ca185 = some ⟨ol188, od190, .fields va189, sl191⟩)
    (h194 : va189[2]? = some (.str "/claim/cut.py" tf192))
    (h198 : K.lookup cc184 = some ⟨ol195, od196, .cell (some (.ref c21)), sl197⟩)
    (h199 : PySem.W.isClsIn K c21 = true)
    (h200 : PySem.W.keepIn K (.ref f173) = true)
    (h201 : PySem.W.ks_superIn K c21 c21 "__init__" = some (some (.builtin "ValueError.__init__")))
    (h202 : PySem.W.mroIn K c21 (.ref c21) = some true)
    (h203 : PySem.W.subIn K (.ref c21) (.type "ValueError") = some true)
    (h204 : PySem.W.findIn K (.ref c21) "name" = some none)
    (h205 : PySem.W.hasDictIn K c21 = true)
    (h221 : K.lookup c23 = some (excClassObj nm206 q207 c23 N208 bs209 bm210 true sn211 sub212 ab213 col214 dd215 m216 m217 m218 m219 m220 "ValueError.__new__"))
    (h222 : PySem.HandSPX.refsVE bm210 = true)
    (h223 : PySem.W.findIn K (.ref c23) "__setattr__" = some (some (.builtin "object.__setattr__")))
    (h224 : PySem.W.subIn K (.ref c23) (.type "BaseException") = some true)
    (h225 : PySem.W.typeIn K (.ref c23) = some (.type "type"))
    (h226 : PySem.W.keepIn K (.ref c23) = true)
    (h228 : PySem.W.findIn K (.ref c23) "__init__" = some (some (.ref f227)))
    (h229 : PySem.W.typeIn K (.ref f227) = some (.type "function"))
    (h240 : K.lookup f227 = some ⟨oc230, od235, .func (PySem.W.ksFn "__init__" "InvalidGroup.__init__" (defArgs s_InvalidGroup___init__) (defBody s_InvalidGroup___init__) (defScope s_InvalidGroup___init__) .none kV231 dc232 pm233 an236 (.ref ca239) ct234 cc238), sl237⟩)
    (h241 : PySem.W.codeIn K (.ref ca239) "InvalidGroup.__init__" = true)
    (h247 : K.lookup ca239 = some ⟨ol242, od244, .fields va243, sl245⟩)
    (h248 : va243[2]? = some (.str "/claim/cut.py" tf246))
    (h252 : K.lookup cc238 = some ⟨ol249, od250, .cell (some (.ref c23)), sl251⟩)
    (h253 : PySem.W.isClsIn K c23 = true)
    (h254 : PySem.W.keepIn K (.ref f227) = true)
    (h255 : PySem.W.ks_superIn K c23 c23 "__init__" = some (some (.builtin "ValueError.__init__")))
    (h256 : PySem.W.mroIn K c23 (.ref c23) = some true)
    (h257 : PySem.W.subIn K (.ref c23) (.type "ValueError") = some true)
    (h258 : PySem.W.findIn K (.ref c23) "index" = some none)
    (h259 : PySem.W.hasDictIn K c23 = true)
    (h275 : K.lookup c25 = some (excClassObj nm260 q261 c25 N262 bs263 bm264 true sn265 sub266 ab267 col268 dd269 m270 m271 m272 m273 m274 "ValueError.__new__"))
    (h276 : PySem.HandSPX.refsVE bm264 = true)
    (h277 : PySem.W.findIn K (.ref c25) "__setattr__" = some (some (.builtin "object.__setattr__")))
    (h278 : PySem.W.subIn K (.ref c25) (.type "BaseException") = some true)
    (h279 : PySem.W.typeIn K (.ref c25) = some (.type "type"))
    (h280 : PySem.W.keepIn K (.ref c25) = true)
    (h282 : PySem.W.findIn K (.ref c25) "__init__" = some (some (.ref f281)))
    (h283 : PySem.W.typeIn K (.ref f281) = some (.type "function"))
    (h294 : K.lookup f281 = some ⟨oc284, od289, .func (PySem.W.ksFn "__init__" "UnknownColumn.__init__" (defArgs s_UnknownColumn___init__) (defBody s_UnknownColumn___init__) (defScope s_UnknownColumn___init__) .none kV285 dc286 pm287 an290 (.ref ca293) ct288 cc292), sl291⟩)
    (h295 : PySem.W.codeIn K (.ref ca293) "UnknownColumn.__init__" = true)
    (h301 : K.lookup ca293 = some ⟨ol296, od298, .fields va297, sl299⟩)
    (h302 : va297[2]? = some (.str "/claim/cut.py" tf300))
    (h306 : K.lookup cc292 = some ⟨ol303, od304, .cell (some (.ref c25)), sl305⟩)
    (h307 : PySem.W.isClsIn K c25 = true)
    (h308 : PySem.W.keepIn K (.ref f281) = true)
    (h309 : PySem.W.ks_superIn K c25 c25 "__init__" = some (some (.builtin "ValueError.__init__")))
    (h310 : PySem.W.mroIn K c25 (.ref c25) = some true)
    (h311 : PySem.W.subIn K (.ref c25) (.type "ValueError") = some true)
    (h312 : PySem.W.findIn K (.ref c25) "name" = some none)
    (h313 : PySem.W.hasDictIn K c25 = true)
    (h314 : PySem.W.subIn K (.ref c17) (.type "BaseException") = some true)
    (h315 : PySem.W.hasDictIn K c17 = true)
    (h316 : PySem.W.typeIn K (.ref c17) = some (.type "type"))
    (h317 : PySem.W.specialIn K (.builtin "object.__class__") "__get__" = some (some (.builtin "getset_descriptor.__get__")))
    (h318 : PySem.W.takesIn K (.builtin "object.__class__") = some true)
    (h319 : PySem.W.findIn K (.ref c19) "__getattribute__" = some (some (.builtin "BaseException.__getattribute__")))
    (h320 : PySem.W.findIn K (.ref c19) "__getattr__" = some none)
    (h321 : PySem.W.findIn K (.ref c19) "__class__" = some (some (.builtin "object.__class__")))
    (h322 : PySem.W.mroIn K c19 (.type "object") = some true)
    (h323 : PySem.W.findIn K (.ref c21) "__getattribute__" = some (some (.builtin "BaseException.__getattribute__")))
    (h324 : PySem.W.findIn K (.ref c21) "__getattr__" = some none)
    (h325 : PySem.W.findIn K (.ref c21) "__class__" = some (some (.builtin "object.__class__")))
    (h326 : PySem.W.mroIn K c21 (.type "object") = some true)
    (h327 : PySem.W.findIn K (.ref c23) "__getattribute__" = some (some (.builtin "BaseException.__getattribute__")))
    (h328 : PySem.W.findIn K (.ref c23) "__getattr__" = some none)
    (h329 : PySem.W.findIn K (.ref c23) "__class__" = some (some (.builtin "object.__class__")))
    (h330 : PySem.W.mroIn K c23 (.type "object") = some true)
    (h331 : PySem.W.findIn K (.ref c25) "__getattribute__" = some (some (.builtin "BaseException.__getattribute__")))
    (h332 : PySem.W.findIn K (.ref c25) "__getattr__" = some none)
    (h333 : PySem.W.findIn K (.ref c25) "__class__" = some (some (.builtin "object.__class__")))
    (h334 : PySem.W.mroIn K c25 (.type "object") = some true)
    (h335 : trB K [c19, c21, c23, c25] c17 = true)
    (h337 : PySem.W.nsIn K mainGlobals "is_name" = some (some (.ref f336)))
    (h347 : K.lookup f336 = some ⟨oc338, od344, .func (PySem.W.fnOf "is_name" "is_name" (defArgs s_is_name) (defBody s_is_name) (defScope s_is_name) .none kV339 dc340 pm341 an345 cd342 ct343), sl346⟩)
    (h348 : PySem.W.codeIn K cd342 "is_name" = true)
    (h349 : PySem.W.keepIn K (.ref f336) = true)
    (h352 : PySem.W.findIn K (.ref c29) "__init__" = some (some (.ref f350)))
    (h353 : PySem.W.findIn K (.ref c31) "__init__" = some (some (.ref f350)))
    (h363 : K.lookup f350 = some ⟨oc354, od360, .func (PySem.W.fnOf "__init__" "Column.__init__" (defArgs s_Column___init__) (defBody s_Column___init__) (defScope s_Column___init__) .none (.ref D351) dc356 pm357 an361 cd358 ct359), sl362⟩)
    (h364 : PySem.W.codeIn K cd358 "Column.__init__" = true)
    (h365 : PySem.W.keepIn K (.ref f350) = true)
    (h366 : PySem.W.nsIn K D351 "optional" = some (some (.bool false)))
    (h367 : PySem.W.isFn K (.ref f350) = true)
    (h369 : PySem.W.findIn K (.ref c33) "__init__" = some (some (.ref f368)))
    (h370 : PySem.W.isFn K (.ref f368) = true)
    (h381 : K.lookup f368 = some ⟨oc371, od376, .func (PySem.W.ksFn "__init__" "RefColumn.__init__" (defArgs s_RefColumn___init__) (defBody s_RefColumn___init__) (defScope s_RefColumn___init__) .none kV372 dc373 pm374 an377 (.ref ca380) ct375 cc379), sl378⟩)
    (h382 : PySem.W.codeIn K (.ref ca380) "RefColumn.__init__" = true)
    (h388 : K.lookup ca380 = some ⟨ol383, od385, .fields va384, sl386⟩)
    (h389 : va384[2]? = some (.str "/claim/cut.py" tf387))
    (h393 : K.lookup cc379 = some ⟨ol390, od391, .cell (some (.ref c33)), sl392⟩)
    (h394 : PySem.W.isClsIn K c33 = true)
    (h395 : PySem.W.keepIn K (.ref f368) = true)
    (h396 : PySem.W.ks_superIn K c33 c33 "__init__" = some (some (.ref f350)))
    (h397 : PySem.W.typeIn K (.ref f350) = some (.type "function"))
    (h398 : PySem.W.fnIn K f350 = true)
    (h399 : PySem.W.mroIn K c33 (.ref c33) = some true)
    (h401 : PySem.W.findIn K (.ref c29) "words" = some (some (.ref f400)))
    (h402 : PySem.W.findIn K (.ref c31) "words" = some (some (.ref f400)))
    (h412 : K.lookup f400 = some ⟨oc403, od409, .func (PySem.W.fnOf "words" "Column.words" (defArgs s_Column_words) (defBody s_Column_words) (defScope s_Column_words) .none kV404 dc405 pm406 an410 cd407 ct408), sl411⟩)
    (h413 : PySem.W.codeIn K cd407 "Column.words" = true)
    (h414 : PySem.W.keepIn K (.ref f400) = true)
    (h415 : PySem.W.isFn K (.ref f400) = true)
    (h417 : PySem.W.findIn K (.ref c33) "words" = some (some (.ref f416)))
    (h418 : PySem.W.isFn K (.ref f416) = true)
    (h429 : K.lookup f416 = some ⟨oc419, od424, .func (PySem.W.ksFn "words" "RefColumn.words" (defArgs s_RefColumn_words) (defBody s_RefColumn_words) (defScope s_RefColumn_words) .none kV420 dc421 pm422 an425 (.ref ca428) ct423 cc427), sl426⟩)
    (h430 : PySem.W.codeIn K (.ref ca428) "RefColumn.words" = true)
    (h436 : K.lookup ca428 = some ⟨ol431, od433, .fields va432, sl434⟩)
    (h437 : va432[2]? = some (.str "/claim/cut.py" tf435))
    (h441 : K.lookup cc427 = some ⟨ol438, od439, .cell (some (.ref c33)), sl440⟩)
    (h442 : PySem.W.isClsIn K c33 = true)
    (h443 : PySem.W.keepIn K (.ref f416) = true)
    (h444 : PySem.W.ks_superIn K c33 c33 "words" = some (some (.ref f400)))
    (h445 : PySem.W.typeIn K (.ref f400) = some (.type "function"))
    (h446 : PySem.W.fnIn K f400 = true)
    (h447 : PySem.W.mroIn K c33 (.ref c33) = some true)
    (h450 : PySem.W.findIn K (.ref c29) "text" = some (some (.ref p448)))
    (h451 : PySem.W.findIn K (.ref c31) "text" = some (some (.ref p448)))
    (h452 : PySem.W.findIn K (.ref c33) "text" = some (some (.ref p448)))
    (h453 : PySem.W.specialIn K (.ref p448) "__get__" = some (some (.builtin "property.__get__")))
    (h454 : PySem.W.takesIn K (.ref p448) = some true)
    (h456 : PySem.W.recIn K p448 "property" = some (.ref g449 :: rs455))
    (h466 : K.lookup g449 = some ⟨oc457, od463, .func (PySem.W.fnOf "text" "Column.text" (defArgs s_Column_text) (defBody s_Column_text) (defScope s_Column_text) .none kV458 dc459 pm460 an464 cd461 ct462), sl465⟩)
    (h467 : PySem.W.codeIn K cd461 "Column.text" = true)
    (h468 : PySem.W.keepIn K (.ref g449) = true)
    (h471 : PySem.W.findIn K (.ref c29) "kind" = some (some (.ref p469)))
    (h472 : PySem.W.findIn K (.ref c31) "kind" = some (some (.ref p469)))
    (h473 : PySem.W.findIn K (.ref c33) "kind" = some (some (.ref p469)))
    (h474 : PySem.W.specialIn K (.ref p469) "__get__" = some (some (.builtin "property.__get__")))
    (h475 : PySem.W.takesIn K (.ref p469) = some true)
    (h477 : PySem.W.recIn K p469 "property" = some (.ref g470 :: rs476))
    (h487 : K.lookup g470 = some ⟨oc478, od484, .func (PySem.W.fnOf "kind" "Column.kind" (defArgs s_Column_kind) (defBody s_Column_kind) (defScope s_Column_kind) .none kV479 dc480 pm481 an485 cd482 ct483), sl486⟩)
    (h488 : PySem.W.codeIn K cd482 "Column.kind" = true)
    (h489 : PySem.W.keepIn K (.ref g470) = true)
    (h491 : PySem.W.nsIn K mainGlobals "is_group" = some (some (.ref f490)))
    (h501 : K.lookup f490 = some ⟨oc492, od498, .func (PySem.W.fnOf "is_group" "is_group" (defArgs s_is_group) (defBody s_is_group) (defScope s_is_group) .none kV493 dc494 pm495 an499 cd496 ct497), sl500⟩)
    (h502 : PySem.W.codeIn K cd496 "is_group" = true)
    (h503 : PySem.W.keepIn K (.ref f490) = true)
    (h504 : PySem.W.plainGet K c35 Str.empty = true)
    (h505 : PySem.W.hasDictIn K c35 = true)
    (h506 : PySem.W.plainOver K c35 = true)
    (h507 : PySem.W.findIn K (.ref c35) "__setattr__" = some (some (.builtin "object.__setattr__")))
    (h508 : PySem.W.makesIn K c35 = true)
    (h509 : PySem.W.keepIn K (.ref c35) = true)
    (h510 : PySem.W.findIn K (.ref c35) "name" = some none)
    (h511 : PySem.W.findIn K (.ref c35) "by_name" = some none)
    (h512 : PySem.W.findIn K (.ref c35) "own_groups" = some none)
    (h515 : PySem.W.findIn K (.ref c35) "__init__" = some (some (.ref f513)))
    (h516 : PySem.W.isFn K (.ref f513) = true)
    (h526 : K.lookup f513 = some ⟨oc517, od523, .func (PySem.W.fnOf "__init__" "Table.__init__" (defArgs s_Table___init__) (defBody s_Table___init__) (defScope s_Table___init__) .none (.ref D514) dc519 pm520 an524 cd521 ct522), sl525⟩)
    (h527 : PySem.W.codeIn K cd521 "Table.__init__" = true)
    (h528 : PySem.W.keepIn K (.ref f513) = true)
    (h530 : PySem.W.nsIn K D514 "unique" = some (some (.ref q529)))
    (h534 : K.lookup q529 = some ⟨.type "tuple", od531, .seq #[] n532, sl533⟩)
    (h537 : PySem.W.findIn K (.ref c35) "columns" = some (some (.ref p535)))
    (h538 : PySem.W.specialIn K (.ref p535) "__get__" = some (some (.builtin "property.__get__")))
    (h539 : PySem.W.takesIn K (.ref p535) = some true)
    (h541 : PySem.W.recIn K p535 "property" = some (.ref g536 :: rs540))
    (h551 : K.lookup g536 = some ⟨oc542, od548, .func (PySem.W.fnOf "columns" "Table.columns" (defArgs s_Table_columns) (defBody s_Table_columns) (defScope s_Table_columns) .none kV543 dc544 pm545 an549 cd546 ct547), sl550⟩)
    (h552 : PySem.W.codeIn K cd546 "Table.columns" = true)
    (h553 : PySem.W.keepIn K (.ref g536) = true)
    (h556 : PySem.W.findIn K (.ref c35) "groups" = some (some (.ref p554)))
    (h557 : PySem.W.specialIn K (.ref p554) "__get__" = some (some (.builtin "property.__get__")))
    (h558 : PySem.W.takesIn K (.ref p554) = some true)
    (h560 : PySem.W.recIn K p554 "property" = some (.ref g555 :: rs559))
    (h570 : K.lookup g555 = some ⟨oc561, od567, .func (PySem.W.fnOf "groups" "Table.groups" (defArgs s_Table_groups) (defBody s_Table_groups) (defScope s_Table_groups) .none kV562 dc563 pm564 an568 cd565 ct566), sl569⟩)
    (h571 : PySem.W.codeIn K cd565 "Table.groups" = true)
    (h572 : PySem.W.keepIn K (.ref g555) = true)
    (h574 : PySem.W.findIn K (.ref c35) "find_column" = some (some (.ref f573)))
    (h575 : PySem.W.isFn K (.ref f573) = true)
    (h585 : K.lookup f573 = some ⟨oc576, od582, .func (PySem.W.fnOf "find_column" "Table.find_column" (defArgs s_Table_find_column) (defBody s_Table_find_column) (defScope s_Table_find_column) .none kV577 dc578 pm579 an583 cd580 ct581), sl584⟩)
    (h586 : PySem.W.codeIn K cd580 "Table.find_column" = true)
    (h587 : PySem.W.keepIn K (.ref f573) = true)
    (h588 : PySem.W.findIn K (.ref c29) "__class__" = some (some (.builtin "object.__class__")))
    (h589 : PySem.W.mroIn K c29 (.type "object") = some true)
    (h590 : PySem.W.findIn K (.ref c31) "__class__" = some (some (.builtin "object.__class__")))
    (h591 : PySem.W.mroIn K c31 (.type "object") = some true)
    (h592 : PySem.W.findIn K (.ref c33) "__class__" = some (some (.builtin "object.__class__")))
    (h593 : PySem.W.mroIn K c33 (.type "object") = some true)
    (h594 : colB K c27 [c29, c31, c33] = true)
    (h596 : PySem.W.findIn K (.ref c29) "__eq__" = some (some (.ref f595)))
    (h597 : PySem.W.findIn K (.ref c31) "__eq__" = some (some (.ref f595)))
    (h598 : PySem.W.findIn K (.ref c33) "__eq__" = some (some (.ref f595)))
    (h599 : PySem.W.isFn K (.ref f595) = true)
    (h609 : K.lookup f595 = some ⟨oc600, od606, .func (PySem.W.fnOf "__eq__" "Column.__eq__" (defArgs s_Column___eq__) (defBody s_Column___eq__) (defScope s_Column___eq__) .none kV601 dc602 pm603 an607 cd604 ct605), sl608⟩)
    (h610 : PySem.W.codeIn K cd604 "Column.__eq__" = true)
    (h611 : PySem.W.keepIn K (.ref f595) = true)
    (h613 : PySem.W.nsIn K mainGlobals "_law_begun" = some (some (.ref f612)))
    (h623 : K.lookup f612 = some ⟨oc614, od620, .func (PySem.W.fnOf "_law_begun" "_law_begun" (defArgs s__law_begun) (defBody s__law_begun) (defScope s__law_begun) .none kV615 dc616 pm617 an621 cd618 ct619), sl622⟩)
    (h624 : PySem.W.codeIn K cd618 "_law_begun" = true)
    (h625 : PySem.W.keepIn K (.ref f612) = true)
    (h627 : PySem.W.nsIn K mainGlobals "_law_draw" = some (some (.ref f626)))
    (h637 : K.lookup f626 = some ⟨oc628, od634, .func (PySem.W.fnOf "_law_draw" "_law_draw" (defArgs s__law_draw) (defBody s__law_draw) (defScope s__law_draw) .none kV629 dc630 pm631 an635 cd632 ct633), sl636⟩)
    (h638 : PySem.W.codeIn K cd632 "_law_draw" = true)
    (h639 : PySem.W.keepIn K (.ref f626) = true)
    (h641 : PySem.W.nsIn K mainGlobals "_law_pick" = some (some (.ref f640)))
    (h651 : K.lookup f640 = some ⟨oc642, od648, .func (PySem.W.fnOf "_law_pick" "_law_pick" (defArgs s__law_pick) (defBody s__law_pick) (defScope s__law_pick) .none kV643 dc644 pm645 an649 cd646 ct647), sl650⟩)
    (h652 : PySem.W.codeIn K cd646 "_law_pick" = true)
    (h653 : PySem.W.keepIn K (.ref f640) = true)
    (h655 : PySem.W.nsIn K mainGlobals "_law_mixed" = some (some (.ref f654)))
    (h665 : K.lookup f654 = some ⟨oc656, od662, .func (PySem.W.fnOf "_law_mixed" "_law_mixed" (defArgs s__law_mixed) (defBody s__law_mixed) (defScope s__law_mixed) .none kV657 dc658 pm659 an663 cd660 ct661), sl664⟩)
    (h666 : PySem.W.codeIn K cd660 "_law_mixed" = true)
    (h667 : PySem.W.keepIn K (.ref f654) = true)
    (h669 : PySem.W.nsIn K mainGlobals "_law_names" = some (some (.ref f668)))
    (h679 : K.lookup f668 = some ⟨oc670, od676, .func (PySem.W.fnOf "_law_names" "_law_names" (defArgs s__law_names) (defBody s__law_names) (defScope s__law_names) .none kV671 dc672 pm673 an677 cd674 ct675), sl678⟩)
    (h680 : PySem.W.codeIn K cd674 "_law_names" = true)
    (h681 : PySem.W.keepIn K (.ref f668) = true)
    (h683 : PySem.W.nsIn K mainGlobals "_law_column" = some (some (.ref f682)))
    (h693 : K.lookup f682 = some ⟨oc684, od690, .func (PySem.W.fnOf "_law_column" "_law_column" (defArgs s__law_column) (defBody s__law_column) (defScope s__law_column) .none kV685 dc686 pm687 an691 cd688 ct689), sl692⟩)
    (h694 : PySem.W.codeIn K cd688 "_law_column" = true)
    (h695 : PySem.W.keepIn K (.ref f682) = true)
    (h697 : PySem.W.nsIn K mainGlobals "_law_groups" = some (some (.ref f696)))
    (h707 : K.lookup f696 = some ⟨oc698, od704, .func (PySem.W.fnOf "_law_groups" "_law_groups" (defArgs s__law_groups) (defBody s__law_groups) (defScope s__law_groups) .none kV699 dc700 pm701 an705 cd702 ct703), sl706⟩)
    (h708 : PySem.W.codeIn K cd702 "_law_groups" = true)
    (h709 : PySem.W.keepIn K (.ref f696) = true)
    (h711 : PySem.W.nsIn K mainGlobals "_law_made" = some (some (.ref f710)))
    (h721 : K.lookup f710 = some ⟨oc712, od718, .func (PySem.W.fnOf "_law_made" "_law_made" (defArgs s__law_made) (defBody s__law_made) (defScope s__law_made) .none kV713 dc714 pm715 an719 cd716 ct717), sl720⟩)
    (h722 : PySem.W.codeIn K cd716 "_law_made" = true)
    (h723 : PySem.W.keepIn K (.ref f710) = true)
    (h725 : PySem.W.nsIn K mainGlobals "_law_table" = some (some (.ref f724)))
    (h735 : K.lookup f724 = some ⟨oc726, od732, .func (PySem.W.fnOf "_law_table" "_law_table" (defArgs s__law_table) (defBody s__law_table) (defScope s__law_table) .none kV727 dc728 pm729 an733 cd730 ct731), sl734⟩)
    (h736 : PySem.W.codeIn K cd730 "_law_table" = true)
    (h737 : PySem.W.keepIn K (.ref f724) = true)
    (h739 : PySem.W.nsIn K mainGlobals "_law_is_group" = some (some (.ref f738)))
    (h749 : K.lookup f738 = some ⟨oc740, od746, .func (PySem.W.fnOf "_law_is_group" "_law_is_group" (defArgs s__law_is_group) (defBody s__law_is_group) (defScope s__law_is_group) .none kV741 dc742 pm743 an747 cd744 ct745), sl748⟩)
    (h750 : PySem.W.codeIn K cd744 "_law_is_group" = true)
    (h751 : PySem.W.keepIn K (.ref f738) = true)
    (h753 : PySem.W.nsIn K mainGlobals "_law_due" = some (some (.ref f752)))
    (h763 : K.lookup f752 = some ⟨oc754, od760, .func (PySem.W.fnOf "_law_due" "_law_due" (defArgs s__law_due) (defBody s__law_due) (defScope s__law_due) .none kV755 dc756 pm757 an761 cd758 ct759), sl762⟩)
    (h764 : PySem.W.codeIn K cd758 "_law_due" = true)
    (h765 : PySem.W.keepIn K (.ref f752) = true)
    (h767 : PySem.W.nsIn K mainGlobals "_law_tried" = some (some (.ref f766)))
    (h777 : K.lookup f766 = some ⟨oc768, od774, .func (PySem.W.fnOf "_law_tried" "_law_tried" (defArgs s__law_tried) (defBody s__law_tried) (defScope s__law_tried) .none kV769 dc770 pm771 an775 cd772 ct773), sl776⟩)
    (h778 : PySem.W.codeIn K cd772 "_law_tried" = true)
    (h779 : PySem.W.keepIn K (.ref f766) = true)
    (h781 : PySem.W.nsIn K mainGlobals "_law_looked" = some (some (.ref f780)))
    (h791 : K.lookup f780 = some ⟨oc782, od788, .func (PySem.W.fnOf "_law_looked" "_law_looked" (defArgs s__law_looked) (defBody s__law_looked) (defScope s__law_looked) .none kV783 dc784 pm785 an789 (.ref ca794) ct787), sl790⟩)
    (h792 : PySem.W.codeIn K (.ref ca794) "_law_looked" = true)
    (h793 : PySem.W.keepIn K (.ref f780) = true)
    (h800 : K.lookup ca794 = some ⟨kc796, kd797, .fields vs799, ks798⟩)
    (h801 : (vs799[11]? : Option Value) = some (.ref pt795))
    (h802 : K.lookup pt795 = none)
    (h804 : PySem.W.nsIn K mainGlobals "law" = some (some (.ref f803)))
    (h814 : K.lookup f803 = some ⟨oc805, od811, .func (PySem.W.fnOf "law" "law" (defArgs s_law) (defBody s_law) (defScope s_law) .none kV806 dc807 pm808 an812 (.ref ca817) ct810), sl813⟩)
    (h815 : PySem.W.codeIn K (.ref ca817) "law" = true)
    (h816 : PySem.W.keepIn K (.ref f803) = true)
    (h823 : K.lookup ca817 = some ⟨kc819, kd820, .fields vs822, ks821⟩)
    (h824 : (vs822[11]? : Option Value) = some (.ref pt818))
    (h825 : K.lookup pt818 = none)
    (h826 : pt818 ≠ pt795) :
    ∃ (fd : FuncData) (cds : List (Addr × Addr)) (sp : Sp), (∀ p ∈ cds, PySem.W.CodeHd h p.1 p.2 ∧ h.get? p.2 = some { cls := .none, data := .fields #[] }) ∧ (∀ p ∈ cds, K.lookup p.2 = none) ∧ (∀ (s : Shared) (v : Value), BindsTo s fd ⟨[v], []⟩ [("_law_script", v)]) ∧ (∀ (H : Hp) (a : Addr) (ns : List Int), ns.length ≤ 63 → (∀ p ∈ cds, H p.2 = some (.tbl #[])) → SqL K H a (ns.map V.int) → sp [.ref a] H (fun v _ => v = .bl true) fun _ _ _ => False) ∧ ∀ base : Heap, K.In base → base.Ns mainGlobals mg → (∀ p ∈ cds, LamX.TabB base mg p.1 p.2) → FnG P wo K mg base (L2.CX P wo) 12 fa fd ["_law_script"] sp := by
  have e := hfa.symm.trans (PySem.W.mg_of X G h804)
  cases e
  refine ⟨(PySem.W.fnOf "law" "law" (defArgs s_law) (defBody s_law) (defScope s_law) .none kV806 dc807 pm808 an812 (.ref ca817) ct810), ([(ca817, pt818), (ca794, pt795)] : List (Addr × Addr)), spLaw K ([(pt818, (("law" : Str) ++ ".<locals>.") ++ "<lambda>"), (pt795, (("_law_looked" : Str) ++ ".<locals>.") ++ "<lambda>")] : List (Addr × Str)), fun p hp => ?_, fun p hp => ?_, fun s v => .of_eq rfl, fun H a ns _ hH hS => ⟨a, ns, rfl, hS, tabs_nil fun p hp => ?_, fun _ => rfl⟩, fun base _ _ htb => ?_⟩
  · simp only [List.mem_cons, List.not_mem_nil, or_false] at hp
    rcases hp with rfl | rfl
    · exact tabs _ _ _ r1 (tab_mk h804 h814 rfl h823 h824)
    · exact tabs _ _ _ r2 (tab_mk h781 h791 rfl h800 h801)
  · simp only [List.mem_cons, List.not_mem_nil, or_false] at hp
    rcases hp with rfl | rfl
    · exact h825
    · exact h802
  · simp only [List.mem_cons, List.not_mem_nil, or_false] at hp
    rcases hp with rfl | rfl
    · exact hH (ca817, pt818) (by simp)
    · exact hH (ca794, pt795) (by simp)
  have hany := h1
  let A : Ad := ⟨c17, c19, c21, c23, c25, c27, c29, c31, c33, c35, a43, a54⟩
  have T : Txt K mg A := ⟨PySem.W.mg_none_of X G h2, PySem.W.mg_none_of X G h3, PySem.W.mg_none_of X G h4, PySem.W.mg_none_of X G h5, PySem.W.mg_none_of X G h6, PySem.W.mg_none_of X G h7, PySem.W.mg_none_of X G h8, PySem.W.mg_none_of X G h9, PySem.W.mg_none_of X G h10, PySem.W.mg_none_of X G h11, PySem.W.mg_none_of X G h12, PySem.W.mg_none_of X G h13, PySem.W.mg_none_of X G h14, PySem.W.mg_none_of X G h15, PySem.W.mg_none_of X G h16, ⟨_, PySem.W.mg_of X G h18, rfl⟩, ⟨_, PySem.W.mg_of X G h20, rfl⟩, ⟨_, PySem.W.mg_of X G h22, rfl⟩, ⟨_, PySem.W.mg_of X G h24, rfl⟩, ⟨_, PySem.W.mg_of X G h26, rfl⟩, ⟨_, PySem.W.mg_of X G h28, rfl⟩, ⟨_, PySem.W.mg_of X G h30, rfl⟩, ⟨_, PySem.W.mg_of X G h32, rfl⟩, ⟨_, PySem.W.mg_of X G h34, rfl⟩, ⟨_, PySem.W.mg_of X G h36, rfl⟩, ⟨_, PySem.W.mg_of X G h38, ⟨_, rfl⟩⟩, ⟨_, PySem.W.mg_of X G h40, ⟨_, rfl⟩⟩, ⟨_, PySem.W.mg_of X G h44, rfl⟩, (fun H => Or.inr ⟨_, _, _, h53, rfl, rfl, by rw [sizeLine_eq]; show 5 ≤ 16777216; decide, .cons ⟨_, rfl⟩ (.cons ⟨_, rfl⟩ (.cons ⟨_, rfl⟩ (.cons ⟨_, rfl⟩ (.cons ⟨_, rfl⟩ (.nil)))))⟩), ⟨_, PySem.W.mg_of X G h55, rfl⟩, (fun H => Or.inr ⟨_, _, _, h62, rfl, rfl, by rw [sizeLine_eq]; show 3 ≤ 16777216; decide, .cons ⟨_, rfl⟩ (.cons ⟨_, rfl⟩ (.cons ⟨_, rfl⟩ (.nil)))⟩), ⟨_, PySem.W.mg_of X G h42, ⟨_, rfl⟩⟩⟩
  have U : SupTop P mg := ⟨T.nb_super, htop⟩
  have CF : ColF K A := ⟨(fun k => match k with | .int => ⟨h63, h64, h65, h66⟩ | .text => ⟨h74, h75, h76, h77⟩ | .ref => ⟨h85, h86, h87, h88⟩), (fun k => match k with | .int => h69 | .text => h80 | .ref => h91), (fun k => match k with | .int => h70 | .text => h81 | .ref => h92), h96, h97, (fun k => match k with | .int => ⟨_, h72, ⟨_, rfl⟩, h73, by decide +kernel⟩ | .text => ⟨_, h83, ⟨_, rfl⟩, h84, by decide +kernel⟩ | .ref => ⟨_, h94, ⟨_, rfl⟩, h95, by decide +kernel⟩)⟩
  have O_InvalidName : OexC K c19 := ⟨⟨_, _, _, _, _, _, _, _, _, _, _, _, _, _, _, h113, h114⟩, h115, h116, h117, h118⟩
  have S_InvalidName___init__ : FunS P K "__init__" "InvalidName.__init__" s_InvalidName___init__ f119 cc130 c19 ca131 _ := ⟨⟨_, _, _, _, _, _, _, _, _, rfl, h132⟩, h133, ⟨_, _, _, _, _, _, h139, h140, hfile⟩, ⟨_, _, _, h144⟩, Option.isSome_iff_exists.mp h145, h146⟩
  have M_InvalidName : SupE K c19 c19 := ⟨O_InvalidName, hany, h147, h148, h149⟩
  have E_InvalidName := @ok_exc1 P wo K mg base _ _ "name" _ _ _ _ _ _ _ _ _ _ _ _ _ _ _ _ _ S_InvalidName___init__ U M_InvalidName h150 ⟨rfl, rfl, rfl, by decide +kernel, rfl, by decide +kernel, by decide +kernel, by decide +kernel⟩ rfl rfl ⟨_, rfl, rfl, rfl⟩ rfl (fun _ => ⟨_, rfl⟩)
  have X_InvalidName : Exc1 P wo K mg base "InvalidName" c19 "name" := ⟨O_InvalidName, PySem.W.mg_of X G h20, f119, h120, h121, (cal0 E_InvalidName (bindsup2 fun _ _ => rfl) rfl).imp fun _ _ _ _ _ h => h⟩
  have O_InvalidColumn : OexC K c21 := ⟨⟨_, _, _, _, _, _, _, _, _, _, _, _, _, _, _, h167, h168⟩, h169, h170, h171, h172⟩
  have S_InvalidColumn___init__ : FunS P K "__init__" "InvalidColumn.__init__" s_InvalidColumn___init__ f173 cc184 c21 ca185 _ := ⟨⟨_, _, _, _, _, _, _, _, _, rfl, h186⟩, h187, ⟨_, _, _, _, _, _, h193, h194, hfile⟩, ⟨_, _, _, h198⟩, Option.isSome_iff_exists.mp h199, h200⟩
  have M_InvalidColumn : SupE K c21 c21 := ⟨O_InvalidColumn, hany, h201, h202, h203⟩
  have E_InvalidColumn := @ok_exc1 P wo K mg base _ _ "name" _ _ _ _ _ _ _ _ _ _ _ _ _ _ _ _ _ S_InvalidColumn___init__ U M_InvalidColumn h204 ⟨rfl, rfl, rfl, by decide +kernel, rfl, by decide +kernel, by decide +kernel, by decide +kernel⟩ rfl rfl ⟨_, rfl, rfl, rfl⟩ rfl (fun _ => ⟨_, rfl⟩)
  have X_InvalidColumn : Exc1 P wo K mg base "InvalidColumn" c21 "name" := ⟨O_InvalidColumn, PySem.W.mg_of X G h22, f173, h174, h175, (cal0 E_InvalidColumn (bindsup2 fun _ _ => rfl) rfl).imp fun _ _ _ _ _ h => h⟩
  have O_InvalidGroup : OexC K c23 := ⟨⟨_, _, _, _, _, _, _, _, _, _, _, _, _, _, _, h221, h222⟩, h223, h224, h225, h226⟩
  have S_InvalidGroup___init__ : FunS P K "__init__" "InvalidGroup.__init__" s_InvalidGroup___init__ f227 cc238 c23 ca239 _ := ⟨⟨_, _, _, _, _, _, _, _, _, rfl, h240⟩, h241, ⟨_, _, _, _, _, _, h247, h248, hfile⟩, ⟨_, _, _, h252⟩, Option.isSome_iff_exists.mp h253, h254⟩
  have M_InvalidGroup : SupE K c23 c23 := ⟨O_InvalidGroup, hany, h255, h256, h257⟩
  have E_InvalidGroup := @ok_exc1 P wo K mg base _ _ "index" _ _ _ _ _ _ _ _ _ _ _ _ _ _ _ _ _ S_InvalidGroup___init__ U M_InvalidGroup h258 ⟨rfl, rfl, rfl, by decide +kernel, rfl, by decide +kernel, by decide +kernel, by decide +kernel⟩ rfl rfl ⟨_, rfl, rfl, rfl⟩ rfl (fun _ => ⟨_, rfl⟩)
  have X_InvalidGroup : Exc1 P wo K mg base "InvalidGroup" c23 "index" := ⟨O_InvalidGroup, PySem.W.mg_of X G h24, f227, h228, h229, (cal0 E_InvalidGroup (bindsup2 fun _ _ => rfl) rfl).imp fun _ _ _ _ _ h => h⟩
  have O_UnknownColumn : OexC K c25 := ⟨⟨_, _, _, _, _, _, _, _, _, _, _, _, _, _, _, h275, h276⟩, h277, h278, h279, h280⟩
  have S_UnknownColumn___init__ : FunS P K "__init__" "UnknownColumn.__init__" s_UnknownColumn___init__ f281 cc292 c25 ca293 _ := ⟨⟨_, _, _, _, _, _, _, _, _, rfl, h294⟩, h295, ⟨_, _, _, _, _, _, h301, h302, hfile⟩, ⟨_, _, _, h306⟩, Option.isSome_iff_exists.mp h307, h308⟩
  have M_UnknownColumn : SupE K c25 c25 := ⟨O_UnknownColumn, hany, h309, h310, h311⟩
  have E_UnknownColumn := @ok_exc1 P wo K mg base _ _ "name" _ _ _ _ _ _ _ _ _ _ _ _ _ _ _ _ _ S_UnknownColumn___init__ U M_UnknownColumn h312 ⟨rfl, rfl, rfl, by decide +kernel, rfl, by decide +kernel, by decide +kernel, by decide +kernel⟩ rfl rfl ⟨_, rfl, rfl, rfl⟩ rfl (fun _ => ⟨_, rfl⟩)
  have X_UnknownColumn : Exc1 P wo K mg base "UnknownColumn" c25 "name" := ⟨O_UnknownColumn, PySem.W.mg_of X G h26, f281, h282, h283, (cal0 E_UnknownColumn (bindsup2 fun _ _ => rfl) rfl).imp fun _ _ _ _ _ h => h⟩
  have TR : TrF K A := trF_of (A := A) h335 (four4 (⟨h319, h320, h116, h151, h321, h317, h318, h322⟩) (⟨h323, h324, h170, h205, h325, h317, h318, h326⟩) (⟨h327, h328, h224, h259, h329, h317, h318, h330⟩) (⟨h331, h332, h278, h313, h333, h317, h318, h334⟩)) (four4 (⟨h319, h320, h116, h151⟩) (⟨h323, h324, h170, h205⟩) (⟨h327, h328, h224, h259⟩) (⟨h331, h332, h278, h313⟩))
  have NF : NsF K := ⟨kit_ty (by decide +kernel), kit_ty (by decide +kernel), kit_ty (by decide +kernel), kit_ty (by decide +kernel), kit_ty (by decide +kernel), kit_ty (by decide +kernel)⟩
  have F_is_name := fun_mk (st := s_is_name) h347 h348 h349
  have O_is_name := ok_is_name (P := P) (wo := wo) (base := base) F_is_name T
  have Gn : GFn P wo K mg base _ "is_name" _ _ _ := ⟨f336, PySem.W.mg_of X G h337, h349, cal0 O_is_name (F_is_name.binds (ps := ["value"]) fun _ _ _ _ _ _ us hl => match us, hl with | [_], _ => rfl) rfl⟩
  have F_ci : FunD K "__init__" "Column.__init__" (defArgs s_Column___init__) (defBody s_Column___init__) (defScope s_Column___init__) [] [("optional", .bl false)] f350 _ := ⟨⟨_, _, _, _, _, _, _, _, _, _, rfl, h363, h364, .inl ⟨rfl, rfl⟩, .inr ⟨_, rfl, fun q hq => by rw [List.mem_singleton] at hq; subst hq; exact ⟨_, h366, rfl⟩⟩⟩, h365⟩
  have O_ci := ok_col_init (P := P) (wo := wo) (base := base) F_ci T Gn X_InvalidName
  obtain ⟨mv, hb⟩ := F_ci.kbinds0 (ps := ["self", "name", "optional"]) 2 ["optional"] [] (fun us _ ws => us ++ ws) (by simp) (by simp) (fun r _ rz => r.append rz) (fun _ _ _ _ _ _ us mv ws l1 l2 l3 => match us, ws, mv, l1, l2, l3 with | [_, _], [_], [], _, _, _ => rfl)
  have C_init : Cal P wo K mg base 3 f350 2 ["optional"] (fun vs zs => spColInit K A (vs ++ zs)) := calK O_ci hb
  have S_RefColumn___init__ : FunS P K "__init__" "RefColumn.__init__" s_RefColumn___init__ f368 cc379 c33 ca380 _ := ⟨⟨_, _, _, _, _, _, _, _, _, rfl, h381⟩, h382, ⟨_, _, _, _, _, _, h388, h389, hfile⟩, ⟨_, _, _, h393⟩, Option.isSome_iff_exists.mp h394, h395⟩
  have O_ri := ok_ref_init S_RefColumn___init__ U T CF Gn X_InvalidName X_InvalidColumn (⟨hany, h396, h397, h398, h399, by decide +kernel⟩ : SupM K c33 c33 "__init__" f350) C_init
  have C_ri : Cal P wo K mg base 4 f368 3 ["optional", "rule"] (fun vs zs => spRefInit K A (vs ++ zs)) := calK O_ri ⟨fun s us ws X l1 l2 => BindsTo.of_looks fun M => PySem.W.Looks.of_pure (match us, ws, l1, l2 with | [_, _, _], [_, _], _, _ => rfl), fun r rz => r.append rz⟩
  have MR : GMk P wo K mg base 4 "RefColumn" A.RefColumn 2 ["optional", "rule"] (fun vs zs => spRefInit K A (vs ++ zs)) := ⟨PySem.W.mg_of X G h34, f368, ⟨h89, h369, h370, h90⟩, C_ri⟩
  have MI : GMk P wo K mg base 4 "IntColumn" A.IntColumn 1 ["optional"] (fun vs zs => spColInit K A (vs ++ zs)) := ⟨PySem.W.mg_of X G h30, f350, ⟨h67, h352, h367, h68⟩, C_init.mono (by decide)⟩
  have MT : GMk P wo K mg base 4 "TextColumn" A.TextColumn 1 ["optional"] (fun vs zs => spColInit K A (vs ++ zs)) := ⟨PySem.W.mg_of X G h32, f350, ⟨h78, h353, h367, h79⟩, C_init.mono (by decide)⟩
  have F_w := fun_mk (st := s_Column_words) h412 h413 h414
  have O_w := ok_words0 (P := P) (wo := wo) (base := base) F_w T CF
  have C_words : Cal P wo K mg base 1 f400 1 [] (fun vs _ => spWords0 A vs) := cal0 O_w (F_w.binds (ps := ["self"]) fun _ _ _ _ _ _ us hl => match us, hl with | [_], _ => rfl) rfl
  have S_RefColumn_words : FunS P K "words" "RefColumn.words" s_RefColumn_words f416 cc427 c33 ca428 _ := ⟨⟨_, _, _, _, _, _, _, _, _, rfl, h429⟩, h430, ⟨_, _, _, _, _, _, h436, h437, hfile⟩, ⟨_, _, _, h441⟩, Option.isSome_iff_exists.mp h442, h443⟩
  have O_rw := ok_ref_words S_RefColumn_words U T CF (⟨hany, h444, h445, h446, h447, by decide +kernel⟩ : SupM K c33 c33 "words" f400) C_words
  have C_rw := cal0 O_rw (bindsup1 fun _ => rfl) rfl
  have MW : ∀ k, GMt P wo K mg base 2 (kcls A k) "words" 0 [] (fun vs _ H Q E => ∃ G R x c, vs = [.ref x] ∧ Wd G R H ∧ ColAt A G x c ∧ c.k = k ∧ ∀ p H', G p = none → Wd (upd G p (.lst (c.words.map V.str))) R H' → Q (.ref p) H') := fun k => by
    cases k with
    | ref => exact ⟨CF.cls .ref, f416, ⟨h417, h418, h443⟩, C_rw⟩
    | int => exact ⟨CF.cls .int, f400, ⟨h401, h415, h414⟩, (C_words.mono (by decide)).imp fun _ _ _ _ _ h => by
        obtain ⟨G, R, x, c, e, w, hc, ck, q⟩ := h
        exact ⟨G, R, x, c, e, w, hc, by rw [words_not (by rw [ck]; exact fun z => nomatch z)] at q; exact q⟩⟩
    | text => exact ⟨CF.cls .text, f400, ⟨h402, h415, h414⟩, (C_words.mono (by decide)).imp fun _ _ _ _ _ h => by
        obtain ⟨G, R, x, c, e, w, hc, ck, q⟩ := h
        exact ⟨G, R, x, c, e, w, hc, by rw [words_not (by rw [ck]; exact fun z => nomatch z)] at q; exact q⟩⟩
  have F_t := fun_mk (st := s_Column_text) h466 h467 h468
  have O_t := ok_text F_t T MW
  have GT : ∀ k, GPr P wo K mg base 3 (kcls A k) "text" (fun vs _ => spText A vs) := fun k => ⟨CF.cls k, p448, g449, ⟨(match k with | .int => h450 | .text => h451 | .ref => h452), h453, h454, ⟨_, h456⟩⟩, cal0 O_t (F_t.binds (ps := ["self"]) fun _ _ _ _ _ _ us hl => match us, hl with | [_], _ => rfl) rfl⟩
  have F_kind := fun_mk (st := s_Column_kind) h487 h488 h489
  have O_kind := ok_kind (P := P) (wo := wo) (base := base) (mg := mg) F_kind CF
  have GK : ∀ k, GPr P wo K mg base 1 (kcls A k) "kind" (fun vs _ => spKind A vs) := fun k => ⟨CF.cls k, p469, g470, ⟨(match k with | .int => h471 | .text => h472 | .ref => h473), h474, h475, ⟨_, h477⟩⟩, cal0 O_kind (F_kind.binds (ps := ["self"]) fun _ _ _ _ _ _ us hl => match us, hl with | [_], _ => rfl) rfl⟩
  have F_is_group := fun_mk (st := s_is_group) h501 h502 h503
  have O_is_group := ok_is_group F_is_group T CF GK
  have Gig : GFn P wo K mg base _ "is_group" _ _ _ := ⟨f490, PySem.W.mg_of X G h491, h503, cal0 O_is_group (F_is_group.binds (ps := ["by_name", "value"]) fun _ _ _ _ _ _ us hl => match us, hl with | [_, _], _ => rfl) rfl⟩
  have TF : TabF K A := ⟨⟨h504, h505, h506, h507⟩, h510, h511, h512⟩
  have hq0 : ∀ G, SqT K G q529 [] := fun H => Or.inr ⟨_, _, _, h534, rfl, rfl, by rw [sizeLine_eq]; show 0 ≤ 16777216; decide, .nil⟩
  have V_Table := mk_tabV (P := P) (wo := wo) (base := base) h526 h527 T CF TF Gn Gig X_InvalidName X_InvalidColumn X_InvalidGroup
  have MTb : GMkV P wo K mg base 4 "Table" A.Table 1 ["unique"] (spTabV K A) := ⟨PySem.W.mg_of X G h36, f513, ⟨h508, h515, h516, h509⟩, V_Table⟩
  have V_Table0 := mk_tabV0 (P := P) (wo := wo) (base := base) h526 h527 h530 T CF TF Gn Gig X_InvalidName X_InvalidColumn X_InvalidGroup
  have MTb0 : GMkV P wo K mg base 4 "Table" A.Table 1 [] (spTabV0 K A q529) := ⟨PySem.W.mg_of X G h36, f513, ⟨h508, h515, h516, h509⟩, V_Table0⟩
  have F_cols := fun_mk (st := s_Table_columns) h551 h552 h553
  have O_cols := ok_cols (P := P) (wo := wo) (base := base) F_cols T TF
  have GC : GPr P wo K mg base 1 A.Table "columns" (fun vs _ => spCols A vs) := ⟨TF.cT, p535, g536, ⟨h537, h538, h539, ⟨_, h541⟩⟩, cal0 O_cols (F_cols.binds (ps := ["self"]) fun _ _ _ _ _ _ us hl => match us, hl with | [_], _ => rfl) rfl⟩
  have F_grps := fun_mk (st := s_Table_groups) h570 h571 h572
  have O_grps := ok_groups (P := P) (wo := wo) (base := base) F_grps T TF
  have GG : GPr P wo K mg base 1 A.Table "groups" (fun vs _ => spGroups A vs) := ⟨TF.cT, p554, g555, ⟨h556, h557, h558, ⟨_, h560⟩⟩, cal0 O_grps (F_grps.binds (ps := ["self"]) fun _ _ _ _ _ _ us hl => match us, hl with | [_], _ => rfl) rfl⟩
  have F_find := fun_mk (st := s_Table_find_column) h585 h586 h587
  have O_find := ok_findc F_find T TF X_UnknownColumn
  have MF : GMt P wo K mg base 3 A.Table "find_column" 1 [] (fun vs _ => spFindC K A vs) := ⟨TF.cT, f573, ⟨h574, h575, h587⟩, cal0 O_find (F_find.binds (ps := ["self", "name"]) fun _ _ _ _ _ _ us hl => match us, hl with | [_, _], _ => rfl) rfl⟩
  have CB := colB_of (A := A) h594
  have CG : ColI K A := ⟨(fun k => match k with | .int => h588 | .text => h590 | .ref => h592), h317, h318, (fun k => match k with | .int => h589 | .text => h591 | .ref => h593), CB.1, fun k j => (CB.2 k j).2⟩
  have F_eq := fun_mk (st := s_Column___eq__) h609 h610 h611
  have O_eq := ok_ceq F_eq T CF CG GT
  have GE : ∀ k, GMt P wo K mg base 5 (kcls A k) "__eq__" 1 [] (fun vs _ => spCEq K A vs) := fun k => ⟨CF.cls k, f595, ⟨(match k with | .int => h596 | .text => h597 | .ref => h598), h599, h611⟩, cal0 O_eq (F_eq.binds (ps := ["self", "other"]) fun _ _ _ _ _ _ us hl => match us, hl with | [_, _], _ => rfl) rfl⟩
  have F__law_begun := fun_mk (st := s__law_begun) h623 h624 h625
  have O__law_begun := ok_begun (P := P) (wo := wo) (base := base) F__law_begun T
  have Gb : GFn P wo K mg base _ "_law_begun" _ _ _ := ⟨f612, PySem.W.mg_of X G h613, h625, cal0 O__law_begun (F__law_begun.binds (ps := ["_law_script"]) fun _ _ _ _ _ _ us hl => match us, hl with | [_], _ => rfl) rfl⟩
  have F__law_draw := fun_mk (st := s__law_draw) h637 h638 h639
  have O__law_draw := ok_draw (P := P) (wo := wo) (base := base) F__law_draw T
  have Gd : GFn P wo K mg base _ "_law_draw" _ _ _ := ⟨f626, PySem.W.mg_of X G h627, h639, cal0 O__law_draw (F__law_draw.binds (ps := ["_law_state", "_law_bound"]) fun _ _ _ _ _ _ us hl => match us, hl with | [_, _], _ => rfl) rfl⟩
  have F__law_pick := fun_mk (st := s__law_pick) h651 h652 h653
  have O__law_pick := ok_pick F__law_pick T Gd
  have Gp : GFn P wo K mg base _ "_law_pick" _ _ _ := ⟨f640, PySem.W.mg_of X G h641, h653, cal0 O__law_pick (F__law_pick.binds (ps := ["_law_state", "_law_some"]) fun _ _ _ _ _ _ us hl => match us, hl with | [_, _], _ => rfl) rfl⟩
  have F__law_mixed := fun_mk (st := s__law_mixed) h665 h666 h667
  have O__law_mixed := ok_mixed F__law_mixed T Gd
  have Gm : GFn P wo K mg base _ "_law_mixed" _ _ _ := ⟨f654, PySem.W.mg_of X G h655, h667, cal0 O__law_mixed (F__law_mixed.binds (ps := ["_law_state", "_law_some"]) fun _ _ _ _ _ _ us hl => match us, hl with | [_, _], _ => rfl) rfl⟩
  have F__law_names := fun_mk (st := s__law_names) h679 h680 h681
  have O__law_names := ok_names F__law_names T Gd Gp
  have Gns : GFn P wo K mg base _ "_law_names" _ _ _ := ⟨f668, PySem.W.mg_of X G h669, h681, cal0 O__law_names (F__law_names.binds (ps := ["_law_state", "_law_count"]) fun _ _ _ _ _ _ us hl => match us, hl with | [_, _], _ => rfl) rfl⟩
  have F__law_column := fun_mk (st := s__law_column) h693 h694 h695
  have O__law_column := ok_column F__law_column T Gd Gp
  have Glc : GFn P wo K mg base _ "_law_column" _ _ _ := ⟨f682, PySem.W.mg_of X G h683, h695, cal0 O__law_column (F__law_column.binds (ps := ["_law_state", "_law_tables", "_law_name"]) fun _ _ _ _ _ _ us hl => match us, hl with | [_, _, _], _ => rfl) rfl⟩
  have F__law_groups := fun_mk (st := s__law_groups) h707 h708 h709
  have O__law_groups := ok_lgroups F__law_groups T Gd Gm
  have Glg : GFn P wo K mg base _ "_law_groups" _ _ _ := ⟨f696, PySem.W.mg_of X G h697, h709, cal0 O__law_groups (F__law_groups.binds (ps := ["_law_state", "_law_columns"]) fun _ _ _ _ _ _ us hl => match us, hl with | [_, _], _ => rfl) rfl⟩
  have F__law_made := fun_mk (st := s__law_made) h721 h722 h723
  have O__law_made := ok_made F__law_made T CF MR MI MT
  have Glm : GFn P wo K mg base _ "_law_made" _ _ _ := ⟨f710, PySem.W.mg_of X G h711, h723, cal0 O__law_made (F__law_made.binds (ps := ["_law_column_here"]) fun _ _ _ _ _ _ us hl => match us, hl with | [_], _ => rfl) rfl⟩
  have F__law_table := fun_mk (st := s__law_table) h735 h736 h737
  have O__law_table := ok_ltab F__law_table T Glm MTb
  have Gltb : GFn P wo K mg base _ "_law_table" _ _ _ := ⟨f724, PySem.W.mg_of X G h725, h737, cal0 O__law_table (F__law_table.binds (ps := ["_law_name", "_law_columns", "_law_groups_here"]) fun _ _ _ _ _ _ us hl => match us, hl with | [_, _, _], _ => rfl) rfl⟩
  have F__law_is_group := fun_mk (st := s__law_is_group) h749 h750 h751
  have O__law_is_group := ok_lisg (P := P) (wo := wo) (base := base) F__law_is_group T
  have Glig : GFn P wo K mg base _ "_law_is_group" _ _ _ := ⟨f738, PySem.W.mg_of X G h739, h751, cal0 O__law_is_group (F__law_is_group.binds (ps := ["_law_columns", "_law_value"]) fun _ _ _ _ _ _ us hl => match us, hl with | [_, _], _ => rfl) rfl⟩
  have F__law_due := fun_mk (st := s__law_due) h763 h764 h765
  have O__law_due := ok_ldue3 F__law_due T Glig
  have Gldu : GFn P wo K mg base _ "_law_due" _ _ _ := ⟨f752, PySem.W.mg_of X G h753, h765, cal0 O__law_due (F__law_due.binds (ps := ["_law_name", "_law_columns", "_law_groups_here"]) fun _ _ _ _ _ _ us hl => match us, hl with | [_, _, _], _ => rfl) rfl⟩
  have F__law_tried := fun_mk (st := s__law_tried) h777 h778 h779
  have Gtr : GLam P wo K mg base "_law_tried" (TTried A) := ⟨⟨f766, "_law_work", _, _, _, _, _, _, _, _, _, _, _, _, _, PySem.W.mg_of X G h767, h779, h777, h778, (F__law_tried.binds (ps := ["_law_work"]) fun _ _ _ _ _ _ us hl => match us, hl with | [_], _ => rfl), sc__law_tried, rfl, (by first | exact .inl rfl | exact .inr (.inl rfl)), by decide +kernel, by decide +kernel, gives_tried T TR⟩⟩
  have F__law_looked := fun_mk (st := s__law_looked) h791 h792 h793
  have F_law := fun_mk (st := s_law) h814 h815 h816
  have huD : ∀ p ∈ ([(pt818, (("law" : Str) ++ ".<locals>.") ++ "<lambda>"), (pt795, (("_law_looked" : Str) ++ ".<locals>.") ++ "<lambda>")] : List (Addr × Str)), p.1 = pt818 → p.2 = (("law" : Str) ++ ".<locals>.") ++ "<lambda>" := fun p hp e => by simp only [List.mem_cons, List.not_mem_nil, or_false] at hp; rcases hp with rfl | rfl; exact rfl; exact absurd e.symm h826
  have huL : ∀ p ∈ ([(pt818, (("law" : Str) ++ ".<locals>.") ++ "<lambda>"), (pt795, (("_law_looked" : Str) ++ ".<locals>.") ++ "<lambda>")] : List (Addr × Str)), p.1 = pt795 → p.2 = (("_law_looked" : Str) ++ ".<locals>.") ++ "<lambda>" := fun p hp e => by simp only [List.mem_cons, List.not_mem_nil, or_false] at hp; rcases hp with rfl | rfl; exact absurd e h826; exact rfl
  have O_looked := ok_looked (TL := ([(pt818, (("law" : Str) ++ ".<locals>.") ++ "<lambda>"), (pt795, (("_law_looked" : Str) ++ ".<locals>.") ++ "<lambda>")] : List (Addr × Str))) F__law_looked rfl (htb (ca794, pt795) (by simp)) (by simp) huL T CF CG TF NF Gp Glm GT GC GG MF GE Gtr
  have Gll : GFg P wo K mg base 11 "_law_looked" 4 [] (fun vs _ => spLooked3 K A ([(pt818, (("law" : Str) ++ ".<locals>.") ++ "<lambda>"), (pt795, (("_law_looked" : Str) ++ ".<locals>.") ++ "<lambda>")] : List (Addr × Str)) vs) := ⟨⟨f780, PySem.W.mg_of X G h781, h793, calG0 O_looked (F__law_looked.binds (ps := ["_law_state", "_law_columns", "_law_groups_here", "_law_made_here"]) fun _ _ _ _ _ _ us hl => match us, hl with | [_, _, _, _], _ => rfl) rfl⟩⟩
  exact ok_law (TL := ([(pt818, (("law" : Str) ++ ".<locals>.") ++ "<lambda>"), (pt795, (("_law_looked" : Str) ++ ".<locals>.") ++ "<lambda>")] : List (Addr × Str))) F_law rfl (htb (ca817, pt818) (by simp)) (by simp) huD T NF TF Gb Gd Gp Gns Glc Glg Gldu Gltb GG hq0 MTb0 Gll Gtr

theorem walk {l : PySem.W.OpenLaw} {q : Program} {loose : List Str} {XP : (Str → Option Value) → Heap → Prop} {YP : World → Heap → Prop} {d : DefRec} {K : Params → PySem.W.Frag} (hn : l.most = some 63) (hdf : d.params.defaults = [])
    (hY : ∀ (w : World) (h : Heap), YP w h → (K w.params).In h)
    (F : ∀ (w : World) (mg : Str → Option Value) (fa : Addr) (h : Heap), (K w.params).In h → h.Ns mainGlobals mg → mg d.name = some (.ref fa) →
      (∀ (y : Str) (c P : Addr), ((recsOf q).find? (fun e => e.name == y)).isSome = true → PySem.W.tabIn (K w.params) y = some (c, P) → PySem.W.CodeHd h c P ∧ h.get? P = some { cls := .none, data := .fields #[] }) → LawAtG l w (K w.params) (L2.CX l.prog w) 12 63 "_law_script" mg fa h) :
    PySem.W.WalkO q loose XP YP l.row.toRowW d [] (fun f vs => PySem.call f vs) :=
  walk_ofTG (n := 63) (k := 12) (x := "_law_script") (CX := fun w => L2.CX l.prog w) hn (by rw [sizeLine_eq]; decide) hdf ⟨rfl, by decide, by decide⟩ hY F fun _ _ _ _ _ ⟨_, _, _, _, _, _, _, _, _, _, _, _, z⟩ => z
end Sv

open PySem PySem.W PyProof.Rows in
set_option maxRecDepth 100000 in
set_option maxHeartbeats 0 in
theorem PySem.Challenge.cw_savewise_k03_tables_checked_holds : PySem.Challenge.rw_savewise_k03_tables_checked.Holds := by
  w_on; o_law; k_head; (case hw => w_witness2)
  k_fill
  refine Sv.walk (l := PySem.Challenge.rw_savewise_k03_tables_checked) rfl rfl (fun w h Y => PySem.W.km_in_of Y) ?F
  case F =>
    intro w mg fa h KX G hmg tabs
    refine' Sv.all_mk KX G hmg tabs (by decide +kernel) (by decide +kernel) (by decide +kernel) (by decide +kernel) ?h1 ?h2 ?h3 ?h4 ?h5 ?h6 ?h7 ?h8 ?h9 ?h10 ?h11 ?h12 ?h13 ?h14 ?h15 ?h16 ?h18 ?h20 ?h22 ?h24 ?h26 ?h28 ?h30 ?h32 ?h34 ?h36 ?h38 ?h40 ?h42 ?h44 ?h53 ?h55 ?h62 ?h63 ?h64 ?h65 ?h66 ?h67 ?h68 ?h69 ?h70 ?h72 ?h73 ?h74 ?h75 ?h76 ?h77 ?h78 ?h79 ?h80 ?h81 ?h83 ?h84 ?h85 ?h86 ?h87 ?h88 ?h89 ?h90 ?h91 ?h92 ?h94 ?h95 ?h96 ?h97 ?h113 ?h114 ?h115 ?h116 ?h117 ?h118 ?h120 ?h121 ?h132 ?h133 ?h139 ?h140 ?h144 ?h145 ?h146 ?h147 ?h148 ?h149 ?h150 ?h151 ?h167 ?h168 ?h169 ?h170 ?h171 ?h172 ?h174 ?h175 ?h186 ?h187 ?h193 ?h194 ?h198 ?h199 ?h200 ?h201 ?h202 ?h203 ?h204 ?h205 ?h221 ?h222 ?h223 ?h224 ?h225 ?h226 ?h228 ?h229 ?h240 ?h241 ?h247 ?h248 ?h252 ?h253 ?h254 ?h255 ?h256 ?h257 ?h258 ?h259 ?h275 ?h276 ?h277 ?h278 ?h279 ?h280 ?h282 ?h283 ?h294 ?h295 ?h301 ?h302 ?h306 ?h307 ?h308 ?h309 ?h310 ?h311 ?h312 ?h313 ?h314 ?h315 ?h316 ?h317 ?h318 ?h319 ?h320 ?h321 ?h322 ?h323 ?h324 ?h325 ?h326 ?h327 ?h328 ?h329 ?h330 ?h331 ?h332 ?h333 ?h334 ?h335 ?h337 ?h347 ?h348 ?h349 ?h352 ?h353 ?h363 ?h364 ?h365 ?h366 ?h367 ?h369 ?h370 ?h381 ?h382 ?h388 ?h389 ?h393 ?h394 ?h395 ?h396 ?h397 ?h398 ?h399 ?h401 ?h402 ?h412 ?h413 ?h414 ?h415 ?h417 ?h418 ?h429 ?h430 ?h436 ?h437 ?h441 ?h442 ?h443 ?h444 ?h445 ?h446 ?h447 ?h450 ?h451 ?h452 ?h453 ?h454 ?h456 ?h466 ?h467 ?h468 ?h471 ?h472 ?h473 ?h474 ?h475 ?h477 ?h487 ?h488 ?h489 ?h491 ?h501 ?h502 ?h503 ?h504 ?h505 ?h506 ?h507 ?h508 ?h509 ?h510 ?h511 ?h512 ?h515 ?h516 ?h526 ?h527 ?h528 ?h530 ?h534 ?h537 ?h538 ?h539 ?h541 ?h551 ?h552 ?h553 ?h556 ?h557 ?h558 ?h560 ?h570 ?h571 ?h572 ?h574 ?h575 ?h585 ?h586 ?h587 ?h588 ?h589 ?h590 ?h591 ?h592 ?h593 ?h594 ?h596 ?h597 ?h598 ?h599 ?h609 ?h610 ?h611 ?h613 ?h623 ?h624 ?h625 ?h627 ?h637 ?h638 ?h639 ?h641 ?h651 ?h652 ?h653 ?h655 ?h665 ?h666 ?h667 ?h669 ?h679 ?h680 ?h681 ?h683 ?h693 ?h694 ?h695 ?h697 ?h707 ?h708 ?h709 ?h711 ?h721 ?h722 ?h723 ?h725 ?h735 ?h736 ?h737 ?h739 ?h749 ?h750 ?h751 ?h753 ?h763 ?h764 ?h765 ?h767 ?h777 ?h778 ?h779 ?h781 ?h791 ?h792 ?h793 ?h800 ?h801 ?h802 ?h804 ?h814 ?h815 ?h816 ?h823 ?h824 ?h825 ?h826
    (case h1 => k_is)
    (case h2 => k_is)
    (case h3 => k_is)
    (case h4 => k_is)
    (case h5 => k_is)
    (case h6 => k_is)
    (case h7 => k_is)
    (case h8 => k_is)
    (case h9 => k_is)
    (case h10 => k_is)
    (case h11 => k_is)
    (case h12 => k_is)
    (case h13 => k_is)
    (case h14 => k_is)
    (case h15 => k_is)
    (case h16 => k_is)
    (case h18 => k_is)
    (case h20 => k_is)
    (case h22 => k_is)
    (case h24 => k_is)
    (case h26 => k_is)
    (case h28 => k_is)
    (case h30 => k_is)
    (case h32 => k_is)
    (case h34 => k_is)
    (case h36 => k_is)
    (case h38 => k_is)
    (case h40 => k_is)
    (case h42 => k_is)
    (case h44 => k_is)
    (case h53 => k_is)
    (case h55 => k_is)
    (case h62 => k_is)
    (case h63 => k_is)
    (case h64 => k_is)
    (case h65 => k_is)
    (case h66 => k_is)
    (case h67 => k_is)
    (case h68 => k_is)
    (case h69 => k_is)
    (case h70 => k_is)
    (case h72 => k_is)
    (case h73 => k_is)
    (case h74 => k_is)
    (case h75 => k_is)
    (case h76 => k_is)
    (case h77 => k_is)
    (case h78 => k_is)
    (case h79 => k_is)
    (case h80 => k_is)
    (case h81 => k_is)
    (case h83 => k_is)
    (case h84 => k_is)
    (case h85 => k_is)
    (case h86 => k_is)
    (case h87 => k_is)
    (case h88 => k_is)
    (case h89 => k_is)
    (case h90 => k_is)
    (case h91 => k_is)
    (case h92 => k_is)
    (case h94 => k_is)
    (case h95 => k_is)
    (case h96 => k_is)
    (case h97 => k_is)
    (case h113 => k_is)
    (case h114 => decide +kernel)
    (case h115 => k_is)
    (case h116 => k_is)
    (case h117 => k_is)
    (case h118 => k_is)
    (case h120 => k_is)
    (case h121 => k_is)
    (case h132 => k_is)
    (case h133 => k_is)
    (case h139 => k_is)
    (case h140 => rfl)
    (case h144 => k_is)
    (case h145 => k_is)
    (case h146 => k_is)
    (case h147 => ks_is)
    (case h148 => k_is)
    (case h149 => k_is)
    (case h150 => k_is)
    (case h151 => k_is)
    (case h167 => k_is)
    (case h168 => decide +kernel)
    (case h169 => k_is)
    (case h170 => k_is)
    (case h171 => k_is)
    (case h172 => k_is)
    (case h174 => k_is)
    (case h175 => k_is)
    (case h186 => k_is)
    (case h187 => k_is)
    (case h193 => k_is)
    (case h194 => rfl)
    (case h198 => k_is)
    (case h199 => k_is)
    (case h200 => k_is)
    (case h201 => ks_is)
    (case h202 => k_is)
    (case h203 => k_is)
    (case h204 => k_is)
    (case h205 => k_is)
    (case h221 => k_is)
    (case h222 => decide +kernel)
    (case h223 => k_is)
    (case h224 => k_is)
    (case h225 => k_is)
    (case h226 => k_is)
    (case h228 => k_is)
    (case h229 => k_is)
    (case h240 => k_is)
    (case h241 => k_is)
    (case h247 => k_is)
    (case h248 => rfl)
    (case h252 => k_is)
    (case h253 => k_is)
    (case h254 => k_is)
    (case h255 => ks_is)
    (case h256 => k_is)
    (case h257 => k_is)
    (case h258 => k_is)
    (case h259 => k_is)
    (case h275 => k_is)
    (case h276 => decide +kernel)
    (case h277 => k_is)
    (case h278 => k_is)
    (case h279 => k_is)
    (case h280 => k_is)
    (case h282 => k_is)
    (case h283 => k_is)
    (case h294 => k_is)
    (case h295 => k_is)
    (case h301 => k_is)
    (case h302 => rfl)
    (case h306 => k_is)
    (case h307 => k_is)
    (case h308 => k_is)
    (case h309 => ks_is)
    (case h310 => k_is)
    (case h311 => k_is)
    (case h312 => k_is)
    (case h313 => k_is)
    (case h314 => k_is)
    (case h315 => k_is)
    (case h316 => k_is)
    (case h317 => k_is)
    (case h318 => k_is)
    (case h319 => k_is)
    (case h320 => k_is)
    (case h321 => k_is)
    (case h322 => k_is)
    (case h323 => k_is)
    (case h324 => k_is)
    (case h325 => k_is)
    (case h326 => k_is)
    (case h327 => k_is)
    (case h328 => k_is)
    (case h329 => k_is)
    (case h330 => k_is)
    (case h331 => k_is)
    (case h332 => k_is)
    (case h333 => k_is)
    (case h334 => k_is)
    (case h335 => kernel_rfl)
    (case h337 => k_is)
    (case h347 => k_is)
    (case h348 => k_is)
    (case h349 => k_is)
    (case h352 => k_is)
    (case h353 => k_is)
    (case h363 => k_is)
    (case h364 => k_is)
    (case h365 => k_is)
    (case h366 => k_is)
    (case h367 => k_is)
    (case h369 => k_is)
    (case h370 => k_is)
    (case h381 => k_is)
    (case h382 => k_is)
    (case h388 => k_is)
    (case h389 => rfl)
    (case h393 => k_is)
    (case h394 => k_is)
    (case h395 => k_is)
    (case h396 => ks_is)
    (case h397 => k_is)
    (case h398 => k_is)
    (case h399 => k_is)
    (case h401 => k_is)
    (case h402 => k_is)
    (case h412 => k_is)
    (case h413 => k_is)
    (case h414 => k_is)
    (case h415 => k_is)
    (case h417 => k_is)
    (case h418 => k_is)
    (case h429 => k_is)
    (case h430 => k_is)
    (case h436 => k_is)
    (case h437 => rfl)
    (case h441 => k_is)
    (case h442 => k_is)
    (case h443 => k_is)
    (case h444 => ks_is)
    (case h445 => k_is)
    (case h446 => k_is)
    (case h447 => k_is)
    (case h450 => k_is)
    (case h451 => k_is)
    (case h452 => k_is)
    (case h453 => k_is)
    (case h454 => k_is)
    (case h456 => k_is)
    (case h466 => k_is)
    (case h467 => k_is)
    (case h468 => k_is)
    (case h471 => k_is)
    (case h472 => k_is)
    (case h473 => k_is)
    (case h474 => k_is)
    (case h475 => k_is)
    (case h477 => k_is)
    (case h487 => k_is)
    (case h488 => k_is)
    (case h489 => k_is)
    (case h491 => k_is)
    (case h501 => k_is)
    (case h502 => k_is)
    (case h503 => k_is)
    (case h504 => k_is)
    (case h505 => k_is)
    (case h506 => k_is)
    (case h507 => k_is)
    (case h508 => k_is)
    (case h509 => k_is)
    (case h510 => k_is)
    (case h511 => k_is)
    (case h512 => k_is)
    (case h515 => k_is)
    (case h516 => k_is)
    (case h526 => k_is)
    (case h527 => k_is)
    (case h528 => k_is)
    (case h530 => k_is)
    (case h534 => k_is)
    (case h537 => k_is)
    (case h538 => k_is)
    (case h539 => k_is)
    (case h541 => k_is)
    (case h551 => k_is)
    (case h552 => k_is)
    (case h553 => k_is)
    (case h556 => k_is)
    (case h557 => k_is)
    (case h558 => k_is)
    (case h560 => k_is)
    (case h570 => k_is)
    (case h571 => k_is)
    (case h572 => k_is)
    (case h574 => k_is)
    (case h575 => k_is)
    (case h585 => k_is)
    (case h586 => k_is)
    (case h587 => k_is)
    (case h588 => k_is)
    (case h589 => k_is)
    (case h590 => k_is)
    (case h591 => k_is)
    (case h592 => k_is)
    (case h593 => k_is)
    (case h594 => kernel_rfl)
    (case h596 => k_is)
    (case h597 => k_is)
    (case h598 => k_is)
    (case h599 => k_is)
    (case h609 => k_is)
    (case h610 => k_is)
    (case h611 => k_is)
    (case h613 => k_is)
    (case h623 => k_is)
    (case h624 => k_is)
    (case h625 => k_is)
    (case h627 => k_is)
    (case h637 => k_is)
    (case h638 => k_is)
    (case h639 => k_is)
    (case h641 => k_is)
    (case h651 => k_is)
    (case h652 => k_is)
    (case h653 => k_is)
    (case h655 => k_is)
    (case h665 => k_is)
    (case h666 => k_is)
    (case h667 => k_is)
    (case h669 => k_is)
    (case h679 => k_is)
    (case h680 => k_is)
    (case h681 => k_is)
    (case h683 => k_is)
    (case h693 => k_is)
    (case h694 => k_is)
    (case h695 => k_is)
    (case h697 => k_is)
    (case h707 => k_is)
    (case h708 => k_is)
    (case h709 => k_is)
    (case h711 => k_is)
    (case h721 => k_is)
    (case h722 => k_is)
    (case h723 => k_is)
    (case h725 => k_is)
    (case h735 => k_is)
    (case h736 => k_is)
    (case h737 => k_is)
    (case h739 => k_is)
    (case h749 => k_is)
    (case h750 => k_is)
    (case h751 => k_is)
    (case h753 => k_is)
    (case h763 => k_is)
    (case h764 => k_is)
    (case h765 => k_is)
    (case h767 => k_is)
    (case h777 => k_is)
    (case h778 => k_is)
    (case h779 => k_is)
    (case h781 => k_is)
    (case h791 => k_is)
    (case h792 => k_is)
    (case h793 => k_is)
    (case h800 => k_is)
    (case h801 => exact rfl)
    (case h802 => kernel_rfl)
    (case h804 => k_is)
    (case h814 => k_is)
    (case h815 => k_is)
    (case h816 => k_is)
    (case h823 => k_is)
    (case h824 => exact rfl)
    (case h825 => kernel_rfl)
    (case h826 => decide)
