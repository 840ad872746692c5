import PyProof.Rows.All
import Wide.All
import OpenK.AllK
import Wide.FinOn
import KE.KExcSuper
import HandS.ForMost
import HandS.Exc
import HandS.ExcOwn
import HandS.ExcInit
import HandS.WordsExc
import HandS.ClsMeth
import HandS.Defaults
import HandS.Property
import HandS.MakeKwOnly
import HandS.TryOnly
import HandS.TryMany
import HandS.ExcIs
import HandS.IsInst
import HandS.Flow
import HandS.Style
import HandS.Steps
import HandS.StrMore
import HandS.TupAny
import HandS.Evl
import KE.KUnpackStar
import KE.KTryMore
import HandS.Star
import HandS.ExcField
import HandS.Ends
import KE.KStateDown
import KE.RegKSuper
import HandS.Head0
import HandS.Head1
import HandS.Head2
import HandS.HeadHook1
import HandS.HeadHook2
import KE.KDictList
import HandS.Iter
import HandS.Dict
import HandS.More
import HandS.Strs
import HandS.ExcValue
import HandS.FStr
import HandS.Comp
import KE.GoesRaise
import HandS.Lambda
import HandS.EndTab
import KE.KNest
import HandS.List
import KE.KDictKeyed
import KE.KeyNested
import KE.KDictPairs
import KE.KDictSum
import KE.KDictWalk
import KE.SortData
import PyProof.Transfer
import KE.KDictDisplayH
import KE.KEqNest
import HandS.DeepEq
import HandS.Conv
import KE.KParD
import HandS.ListItems
import HandS.DictComp
import HandS.Finally
import HandS.Walk
import HandS.SetFor
import KE.GoesMore
import HandS.Deep
import HandS.TupSets
import KE.GoesZip
import HandS.Zip
import KE.KItemsList
import PyProof.Rows.IntBool
import HandS.GenList
import PySem.Challenge.RW_savewise_k28_shortest_cycles
import PyProof.ReprLen
import PyProof.FitsInt
set_option Elab.async false
set_option linter.all false
set_option maxRecDepth 100000
set_option maxHeartbeats 4000000
namespace Sw
open PySem PySem.Spec PyProof.Rows L2
structure SScope (N P : List Str) (sc : Scope) : Prop where
  kind : sc.kind = .function
  co : sc.isCoroutine = false
  gen : sc.isGenerator = false
  nd : N.Nodup
  pre : N.take P.length = P
  par : ∀ x ∈ P, sc.names.lookup x = some .local
  nocell : ∀ y ∈ sc.names, y.2 ≠ .cell
  free : ∀ y ∈ sc.names, y.2 = .free → y.1 = "__class__"
def cxS (CX : CXT) (P : Program) (w : World) (K : PySem.W.Frag) (mg : Str → Option Value) (base : Heap) (N : List Str) (qual : Str) (scope : Scope) (f : Addr) (cd : Value) (cc : Addr) (A : Around) (outer : List Env) (s : Shared) (H : Hp) (E : XK) : Cx where
  prog := P
  w := w
  K := K
  mg := mg
  base := base
  A := A.deeper (PySem.W.ksEnv qual scope s.heap.objs.size f cd cc)
  N := N
  s_0 := s
  H_0 := H
  env := PySem.W.ksEnv qual scope s.heap.objs.size f cd cc
  outer := outer
  stack := PySem.W.ksEnv qual scope s.heap.objs.size f cd cc :: outer
  ex := []
  calm := true
  fn := fun _ => false
  pn := []
  xe := fun e s' => wpAny (model P w) (A.deeper (PySem.W.ksEnv qual scope s.heap.objs.size f cd cc)) (leaving (PySem.W.ksEnv qual scope s.heap.objs.size f cd cc) e) (fun _ s'' => CX outer H s E e s'') (fun e' s'' => CX outer H s E e' s'') s'
theorem zip_fst_sub : ∀ (ps : List Str) (us : List Value), ((ps.zip us).map (·.1)).Sublist ps
  | [], _ => by simp
  | _ :: _, [] => by simp
  | p :: ps, u :: us => by
    rw [List.zip_cons_cons, List.map_cons]
    exact (zip_fst_sub ps us).cons_cons p
theorem zip_rev_look : ∀ {ps : List Str} {us : List Value} {i : Nat} {x : Str} {u : Value}, ps.Nodup → ps[i]? = some x → us[i]? = some u → (ps.zip us).reverse.lookup x = some u := by
  intro ps us i x u nd hp hu
  have hmem : (x, u) ∈ (ps.zip us).reverse := by
    rw [List.mem_reverse]
    refine List.mem_iff_getElem?.mpr ⟨i, ?_⟩
    rw [List.getElem?_zip_eq_some]
    exact ⟨hp, hu⟩
  have key : ∀ (l : List (Str × Value)), (l.map (·.1)).Nodup → (x, u) ∈ l → l.lookup x = some u := by
    intro l
    induction l with
    | nil => intro _ h; cases h
    | cons p l ih =>
      intro hn hm
      obtain ⟨y, v⟩ := p
      rw [List.map_cons, List.nodup_cons] at hn
      rcases List.mem_cons.mp hm with e | hm
      · injection e with e1 e2
        subst e1 e2
        simp [List.lookup]
      · have hne : x ≠ y := fun e => hn.1 (by rw [← e]; exact List.mem_map_of_mem (f := (·.1)) hm)
        have hb : (x == y) = false := by simpa using hne
        rw [List.lookup, hb]
        exact ih hn.2 hm
  refine key _ ?_ hmem
  rw [List.map_reverse]
  refine List.pairwise_reverse.mpr (List.Pairwise.imp (fun h => Ne.symm h) ?_)
  exact nd.sublist (zip_fst_sub ps us)
section
variable {CX : CXT} {P : Program} {w : World} {K : PySem.W.Frag} {mg : Str → Option Value} {base : Heap} {N ps : List Str} {qual : Str} {scope : Scope} {f cc D : Addr} {cd : Value} {A : Around} {outer : List Env} {s : Shared} {H : Hp} {E : XK} {us : List Value} {vs : List V}
theorem inv_startS {h₁ : Heap} {tk : Nat} {cl : Value} {cld : Option Addr} {csl : Array (Option Value)} (S : SScope N ps scope) (hd : A.handled = none) (e0 : Env0 P w K mg base A outer s H) (hl : vs.length = ps.length) (r : Vals vs us)
    (hcc : K.lookup cc = some ⟨cl, cld, .cell (some (.ref D)), csl⟩) (hns : h₁.Ns s.heap.objs.size fun y => (ps.zip us).reverse.lookup y) (hk : ∀ b o, s.heap.get? b = some o → h₁.get? b = some o) :
    Inv (cxS CX P w K mg base N qual scope f cd cc A outer s H E) [] (L2.start N vs) H { s with heap := h₁, toks := tk } := by
  have hpl : ps.length ≤ N.length := by have := congrArg List.length S.pre; rw [List.length_take] at this; omega
  have noA : ∀ b : Addr, b ∉ (cxS CX P w K mg base N qual scope f cd cc A outer s H E).ex := fun b z => absurd (show b ∈ ([] : List Addr) from z) (by simp)
  have hbc : base.get? cc = some ⟨cl, cld, .cell (some (.ref D)), csl⟩ := e0.mod.kin _ _ hcc
  have look1 : ∀ {x : Str} {c : Addr}, (cxS CX P w K mg base N qual scope f cd cc A outer s H E).env.cells.lookup x = some c → x = "__class__" ∧ c = cc := fun {x c} h => by
    have h' : List.lookup x [(("__class__" : Str), cc)] = some c := h
    by_cases e : x = "__class__"
    · subst e
      simp [List.lookup] at h'
      exact ⟨rfl, h'.symm⟩
    · have eb : (x == ("__class__" : Str)) = false := by simpa using e
      simp [List.lookup, eb] at h'
  refine ⟨⟨e0.mod, S.kind, rfl, rfl, Nat.le_refl _, fun y z c h1 h2 => (look1 h1).1.trans (look1 h2).1.symm, fun y hy => ?_, fun y c h => (Bool.noConfusion h), fun _ => hd, Around.frames_deeper e0.frames, .inr ⟨rfl, rfl⟩, fun b z => absurd z (noA b), e0.bs, e0.bsz, fun b _ _ => noA b, fun b z => absurd z (noA b), e0.funs, e0.frf⟩,
    rfl, e0.bare, Un.kept hk, ⟨_, hns, fun i y v h1 h2 h3 => ?_⟩, fun y c h => ?_, e0.hok.fresh (Nat.le_refl _), fun y c h => ?_, fun p hp => absurd (show p ∈ ([] : List (Addr × Obj)) from hp) (by simp), e0.hok.kept hk, ?_⟩
  · have hy : scope.names.lookup y = some .cell ∨ scope.names.lookup y = some .free := hy
    rcases hy with hy | hy
    · exact absurd rfl (S.nocell _ (PySem.mem_of_lookup hy))
    · have e := S.free _ (PySem.mem_of_lookup hy) rfl
      have e' : y = "__class__" := e
      exact ⟨cc, by subst e'; show List.lookup _ [_] = _; simp [List.lookup]⟩
  · have hi : i < vs.length := by
      unfold L2.start at h2
      by_cases hi : i < vs.length
      · exact hi
      · rw [List.getElem?_append_right (by simpa using hi)] at h2
        rw [List.getElem?_replicate] at h2
        split at h2 <;> cases h2
    have ha : vs[i]? = some v := by
      unfold L2.start at h2
      rw [List.getElem?_append_left (by simpa using hi), List.getElem?_map] at h2
      cases e : vs[i]? with
      | none => rw [e] at h2; cases h2
      | some a => rw [e] at h2; cases h2; rfl
    obtain ⟨u, hu, rv⟩ := r.get ha
    have hp : ps[i]? = some y := by
      rw [← S.pre, List.getElem?_take_of_lt (by omega)]; exact h1
    have ndP : ps.Nodup := by rw [← S.pre]; exact S.nd.sublist (List.take_sublist _ _)
    exact ⟨u, rv, .inl ⟨S.par y (List.mem_of_getElem? hp), zip_rev_look ndP hp hu⟩⟩
  · obtain ⟨_, rfl⟩ := look1 h
    exact ⟨_, _, hk _ _ (e0.bs _ _ hbc).1, rfl⟩
  · obtain ⟨_, rfl⟩ := look1 h
    exact (e0.bs _ _ hbc).2
  · unfold L2.start
    show _ = N.length
    rw [List.length_append, List.length_map, List.length_replicate]
    omega
end
structure PSt (X : Cx) (body : List Stmt) (st : Stmt) (t : TS) : Prop where
  run : ∀ (pins : List (Addr × Obj)) (s : Shared) (σ : L2.St) (H : Hp) (D : Ends), Inv X pins σ H s → t D σ H → _root_.PySem.wpAt (model X.prog X.w) X.A (.func body X.env) (exec st X.env) (SP X pins D) X.xe s
structure PSst (X : Cx) (body : List Stmt) (st : List Stmt) (t : TS) : Prop where
  run : ∀ (pins : List (Addr × Obj)) (s : Shared) (σ : L2.St) (H : Hp) (D : Ends), Inv X pins σ H s → t D σ H → _root_.PySem.wpAt (model X.prog X.w) X.A (.func body X.env) (execs st X.env) (SP X pins D) X.xe s
structure PEt (X : Cx) (body : List Stmt) (e : Expr) (t : TE) : Prop where
  run : ∀ (pins : List (Addr × Obj)) (s : Shared) (σ : L2.St) (H : Hp) (Q : VK), Inv X pins σ H s → t σ H Q → _root_.PySem.wpAt (model X.prog X.w) X.A (.func body X.env) (eval e X.env) (EP X pins σ Q) X.xe s
section
variable {X : Cx} {body : List Stmt} {st : Stmt} {rest : List Stmt} {t u : TS} {e : Expr} {te : TE} {pos : Pos}
theorem PSt.of (h : PS X st t) : PSt X body st t := ⟨fun pins s σ H D I hw => wpAt_of_wpAny (h.run pins s σ H D I hw)⟩
theorem PSst.of (h : PSs X rest t) : PSst X body rest t := ⟨fun pins s σ H D I hw => wpAt_of_wpAny (h.run pins s σ H D I hw)⟩
theorem PEt.of (h : PE X e te) : PEt X body e te := ⟨fun pins s σ H Q I hw => wpAt_of_wpAny (h.run pins s σ H Q I hw)⟩
theorem PSst.cons (h1 : PSt X body st t) (h2 : PSst X body rest u) : PSst X body (st :: rest) (tSeq t u) := by
  refine ⟨fun pins s σ H D I h => ?_⟩
  refine ks_wpAt_execs_cons (ks_wpAt_mono (h1.run pins s σ H { D with nx := u D } I h) (fun f s1 q => ?_) fun _ _ z => z)
  cases f with
  | next =>
    obtain ⟨σ', H', I', q⟩ := q
    exact h2.run pins s1 σ' H' D I' q
  | ret v => exact q
  | brk => exact q
  | cont => exact q
theorem PSst.one (h1 : PSt X body st t) : PSst X body [st] t := by
  refine ⟨fun pins s σ H D I h => ?_⟩
  refine ks_wpAt_execs_cons (ks_wpAt_mono (h1.run pins s σ H D I h) (fun f s1 q => ?_) fun _ _ z => z)
  cases f with
  | next => exact wpAt_of_wpAny (wpAny_execs_nil q)
  | ret v => exact q
  | brk => exact q
  | cont => exact q
end
section
variable {CX : CXT} {P : Program} {w : World} {K : PySem.W.Frag} {mg : Str → Option Value} {base : Heap} {k : Nat} {f cc D : Addr} {name qual : Str} {params : Arguments} {body : List Stmt} {scope : Scope} {dV kV doc pm cdv ct oc cl : Value} {an od cld : Option Addr}
    {osl csl : Array (Option Value)} {N ps : List Str} {sp : Sp}
theorem fn_sup (lk : K.lookup f = some ⟨oc, od, .func (PySem.W.ksFn name qual params body scope dV kV doc pm an cdv ct cc), osl⟩) (hcd : PySem.W.codeIn K cdv qual = true) (hcc : K.lookup cc = some ⟨cl, cld, .cell (some (.ref D)), csl⟩) (S : SScope N ps scope)
    (len : ∀ vs H Q E, sp vs H Q E → vs.length = ps.length)
    (hbody : ∀ (A : Around) (outer : List Env) (s : Shared) (H : Hp) (vs : List V) (Q : VK) (E : XK), Room k (A.deeper (PySem.W.ksEnv qual scope s.heap.objs.size f cdv cc)) → sp vs H Q E →
      ∃ t, PSst (cxS CX P w K mg base N qual scope f cdv cc A outer s H E) body body t ∧ t { nx := fun _ H' => Q .non H', rt := Q } (L2.start N vs) H) :
    FnOk P w K mg base CX (k + 1) f (PySem.W.ksFn name qual params body scope dV kV doc pm an cdv ct cc) ps sp := by
  refine ⟨len, fun A outer s H args us vs Q E hr e0 hb r hsp => ?_⟩
  have hl := len _ _ _ _ hsp
  have KX : K.In s.heap := e0.mod.kin.keeps fun b o e => (e0.bs b o e).1
  have lim : s.heap.NoLimit := e0.mod.nolimit.keeps fun b o e => (e0.bs b o e).1
  refine ks_codeAny_call_defAt (fd := PySem.W.ksFn name qual params body scope dV kV doc pm an cdv ct cc) (body := body) (binds := ps.zip us) hr.depth (KX _ _ lk) rfl lim (PySem.W.codeRec_of KX hcd) rfl hb S.nocell
    (fun x hx => S.par _ (List.of_mem_zip hx).1) (fun h₁ hns hk => ?_) S.co S.gen S.kind
  obtain ⟨t, ht, hq⟩ := hbody A outer s H vs Q E (hr.deeper _) hsp
  have I : Inv (cxS CX P w K mg base N qual scope f cdv cc A outer s H E) [] (L2.start N vs) H { s with heap := h₁, toks := s.toks + (ps.zip us).length } := inv_startS S hr.hd e0 hl r hcc hns hk
  refine ks_wpAt_mono (ht.run [] _ (L2.start N vs) H _ I hq) (fun fl s' hs => ?_) fun e s' hs => hs
  have fin : ∀ {σ' : L2.St} {H' : Hp} {v : V} {u : Value}, Inv (cxS CX P w K mg base N qual scope f cdv cc A outer s H E) [] σ' H' s' → RelV v u → Q v H' → CE outer P w H s Q u s' :=
    fun {σ' H' v u} J rv q => ⟨v, H', J.os, J.bare, J.base, J.hok, rv, q⟩
  cases fl with
  | ret u =>
    obtain ⟨v, σ', H', J, rv, q⟩ := hs
    exact fin J rv q
  | next =>
    obtain ⟨σ', H', J, q⟩ := hs
    exact fin (v := V.non) (u := Value.none) J rfl q
  | brk =>
    obtain ⟨_, _, _, q⟩ := hs
    exact False.elim q
  | cont =>
    obtain ⟨_, _, _, q⟩ := hs
    exact False.elim q
end
end Sw
namespace Sw
open PySem PySem.Spec PyProof.Rows L2
structure SupT (X : Cx) (f cda cc D : Addr) : Prop where
  fu : X.env.func = some f
  co : X.env.code = .ref cda
  fd : ∃ oc od fd osl ar, X.K.lookup f = some ⟨oc, od, .func fd, osl⟩ ∧ (fd.params.posonlyargs ++ fd.params.args).head? = some ar ∧ X.N[0]? = some ar.arg ∧ X.env.scope.names.lookup ar.arg = some .local
  cd : ∃ ccl cdd vs ccs file tf, X.K.lookup cda = some ⟨ccl, cdd, .fields vs, ccs⟩ ∧ vs[2]? = some (.str file tf) ∧ ((X.prog.main.file : Str) == file) = true
  ce : ∃ cl cld csl, X.K.lookup cc = some ⟨cl, cld, .cell (some (.ref D)), csl⟩
  cz : X.env.cells.lookup ("__class__" : Str) = some cc
  dc : ∃ cdD, PySem.W.clsIn X.K D = some cdD
  su : X.mg "super" = none
  ks : X.env.scope.names.lookup ("super" : Str) = some .globalImplicit
  kc : X.env.scope.names.lookup ("__class__" : Str) = some .free
  tp : (X.prog.main.scope.names.lookup ("super" : Str)).isSome = false
abbrev SpC := List V → List V → Hp → VK → XK → Prop
def Cal (P : Program) (w : World) (K : PySem.W.Frag) (mg : Str → Option Value) (base : Heap) (k : Nat) (f : Addr) (n : Nat) (ks : List Str) (sp : SpC) : Prop :=
  ∀ (A : Around) (outer : List Env) (s : Shared) (H : Hp) (us ws : List Value) (vs zs : List V) (Q : VK) (E : XK), Room k A → Env0 P w K mg base A outer s H → Vals vs us → Vals zs ws → vs.length = n → zs.length = ks.length → sp vs zs H Q E →
    codeAny (model P w) A (.call (.ref f) ⟨us, ks.zip ws⟩) (CR (L2.CX P w) outer P w H s Q E) s
section
variable {P : Program} {w : World} {K : PySem.W.Frag} {mg : Str → Option Value} {base : Heap} {j k : Nat} {f : Addr} {fd : FuncData} {ps ks : List Str} {n : Nat} {sp : Sp} {spc spc' : SpC}
theorem calK {g : List Value → List Value → List Value} {gV : List V → List V → List V} (F : FnOk P w K mg base (L2.CX P w) k f fd ps sp) (hb : KBn K fd ps n ks g gV) : Cal P w K mg base k f n ks (fun vs zs => sp (gV vs zs)) :=
  fun A outer s H us ws vs zs Q E hr e0 r rz l1 l2 h =>
    F.run A outer s H ⟨us, ks.zip ws⟩ (g us ws) (gV vs zs) Q E hr e0 (hb.to s us ws (e0.mod.kin.keeps fun b o e => (e0.bs b o e).1) (r.length.symm.trans l1) (rz.length.symm.trans l2)) (hb.rel r rz) h
theorem cal0 (F : FnOk P w K mg base (L2.CX P w) k f fd ps sp) (hb : Binds K fd ps []) (hn : n = ps.length) : Cal P w K mg base k f n [] (fun vs _ => sp vs) :=
  fun A outer s H us ws vs zs Q E hr e0 r rz l1 l2 h => by
    have e : (⟨us, ([] : List Str).zip ws⟩ : Args) = ⟨us, []⟩ := by rw [List.zip_nil_left]
    rw [e]
    have hl : (us ++ []).length = ps.length := by rw [List.append_nil, ← r.length, l1, hn]
    have hb' := hb s us (e0.mod.kin.keeps fun b o e => (e0.bs b o e).1) hl
    rw [List.append_nil] at hb'
    exact F.run A outer s H ⟨us, []⟩ us vs Q E hr e0 hb' r h
theorem Cal.mono (F : Cal P w K mg base j f n ks spc) (h : j ≤ k) : Cal P w K mg base k f n ks spc := fun A outer s H us ws vs zs Q E hr => F A outer s H us ws vs zs Q E (hr.mono h)
theorem Cal.imp (F : Cal P w K mg base k f n ks spc) (h : ∀ vs zs H Q E, spc' vs zs H Q E → spc vs zs H Q E) : Cal P w K mg base k f n ks spc' := fun A outer s H us ws vs zs Q E hr e0 r rz l1 l2 q => F A outer s H us ws vs zs Q E hr e0 r rz l1 l2 (h _ _ _ _ _ q)
structure GFn (P : Program) (w : World) (K : PySem.W.Frag) (mg : Str → Option Value) (base : Heap) (k : Nat) (x : Str) (n : Nat) (ks : List Str) (sp : SpC) : Prop where
  ex : ∃ f, mg x = some (.ref f) ∧ PySem.W.keepIn K (.ref f) = true ∧ Cal P w K mg base k f n ks sp
structure GMt (P : Program) (w : World) (K : PySem.W.Frag) (mg : Str → Option Value) (base : Heap) (k : Nat) (C : Addr) (m : Str) (n : Nat) (ks : List Str) (sp : SpC) : Prop where
  cl : Cls K C
  ex : ∃ f, Meth K C m f ∧ Cal P w K mg base k f (n + 1) ks sp
structure GPr (P : Program) (w : World) (K : PySem.W.Frag) (mg : Str → Option Value) (base : Heap) (k : Nat) (C : Addr) (m : Str) (sp : SpC) : Prop where
  cl : Cls K C
  ex : ∃ p g, PropOf K C m p g ∧ Cal P w K mg base k g 1 [] sp
end
section
variable {X : Cx} {k n : Nat} {f C : Addr} {ks : List Str} {sp : SpC} {W : WX} {x : Str}
theorem run_cal {pins : List (Addr × Obj)} {σ : L2.St} {H : Hp} {s : Shared} {Q : VK} {us ws : List Value} {vs zs : List V} (F : Cal X.prog X.w X.K X.mg X.base k f n ks sp) (hr : Room k X.A) (tw : Takes X W) (I : Inv X pins σ H s) (r : Vals vs us) (rz : Vals zs ws)
    (l1 : vs.length = n) (l2 : zs.length = ks.length) (h : sp vs zs H Q (WE W σ)) :
    codeAny (model X.prog X.w) X.A (.call (.ref f) ⟨us, ks.zip ws⟩) (fun r s' => match r with | .ok (.ret v) => EP X pins σ Q v s' | .ok _ => False | .error e => X.xe e s') s := by
  refine codeAny_mono (F X.A X.stack s H us ws vs zs Q (WE W σ) hr I.env0 r rz l1 l2 h) fun r s' hq => ?_
  cases r with
  | error e => exact passAt tw σ pins H s e s' I hq
  | ok fl =>
    cases fl with
    | ret u => exact I.after hq
    | next => exact False.elim hq
    | brk => exact False.elim hq
    | cont => exact False.elim hq
end
def tCalG (n m : Nat) (sp : SpC) (W : WX) (t tk : TA) : TE := fun σ H Q => t σ H fun vs H1 => tk σ H1 fun zs H2 => vs.length = n ∧ zs.length = m ∧ sp vs zs H2 Q (WE W σ)
def tMkG (C : Addr) (n m : Nat) (sp : SpC) (W : WX) (t tk : TA) : TE := fun σ H Q => t σ H fun vs H1 => tk σ H1 fun zs H2 => vs.length = n ∧ zs.length = m ∧ ∀ x dx, H2 x = none → H2 dx = none → dx ≠ x →
  sp (.ref x :: vs) zs (upd (upd H2 dx (.own x)) x (.ins C dx [])) (fun v H3 => v = .non ∧ Q (.ref x) H3) (WE W σ)
section
variable {X : Cx} {k n : Nat} {f C : Addr} {ks : List Str} {sp : SpC} {W : WX} {x m : Str} {p pos apos : Pos} {e o : Expr} {es : List Expr} {kws : List Keyword} {t tk : TA} {ta : TE}
theorem pe_callG (G : GFn X.prog X.w X.K X.mg X.base k x n ks sp) (hr : Room k X.A) (tw : Takes X W) (ha : PA X (e :: es) t) (hkw : PK X kws tk) (hg : Gl X x := by rfl)
    (hall : (backToKw pos (keywordEach kws X.env)).all (·.1.isSome) = true := by rfl) (hks : (backToKw pos (keywordEach kws X.env)).filterMap (·.1) = ks := by rfl) (hdb : (x == ("__debug__" : Str)) = false := by decide)
    (he : starEach (e :: es) X.env = (false, eval e X.env) :: starEach es X.env := by rfl)
    (hpl : ((backTo pos (starEach (e :: es) X.env)).any (·.1) || (backToKw pos (keywordEach kws X.env)).any (·.1.isNone)) = false := by rfl) :
    PE X (.Call (.Name x p) (e :: es) kws pos) (tCalG n ks.length sp W t tk) := by
  refine ⟨fun pins s σ H Q I h => ?_⟩
  obtain ⟨f, hm, hk, F⟩ := G.ex
  refine wpAny_Call_Name_kw (ld_glob I hg hm ?_ hdb)
  refine PySem.W.callWith_KW (h₀ := X.base) I.ok.mod.kin hk hall (thn (ha.run pos pins s σ H _ I h) fun us s1 ⟨vs, H1, I1, r, q⟩ => ?_) hpl he
  refine thn (hkw.run pos pins s1 σ H1 _ I1 q) fun ws s2 ⟨zs, H2, I2, rz, l1, l2, q2⟩ => ⟨I2.kIn, ?_⟩
  rw [hks]
  exact wpAny_call (run_cal F hr tw I2 r rz l1 l2 q2)
def tMtG (P : Program) (w : World) (K : PySem.W.Frag) (mg : Str → Option Value) (base : Heap) (k : Nat) (m : Str) (n : Nat) (ks : List Str) (W : WX) (ta : TE) (t tk : TA) : TE := fun σ H Q => ta σ H fun x H1 => ∃ a C dx fs sp, x = .ref a ∧ H1 a = some (.ins C dx fs) ∧ fs.lookup m = none ∧
  GMt P w K mg base k C m n ks sp ∧ t σ H1 fun vs H2 => tk σ H2 fun zs H3 => vs.length = n ∧ zs.length = ks.length ∧ sp (.ref a :: vs) zs H3 Q (WE W σ)
def tPrG (P : Program) (w : World) (K : PySem.W.Frag) (mg : Str → Option Value) (base : Heap) (k : Nat) (m : Str) (ta : TE) : TE := fun σ H Q => ta σ H fun x H1 => ∃ a C dx fs sp, x = .ref a ∧ H1 a = some (.ins C dx fs) ∧
  GPr P w K mg base k C m sp ∧ sp [.ref a] [] H1 Q E0
end
end Sw
namespace Sw
open PySem PySem.Spec PyProof.Rows L2
end Sw
namespace Sw
open PySem PySem.Spec PyProof.Rows L2
structure FunS (P : Program) (K : PySem.W.Frag) (x qual : Str) (st : Stmt) (f cc D cda : Addr) (fd : FuncData) : Prop where
  ex : ∃ (oc : Value) (od : Option Addr) (dV kV doc pm : Value) (an : Option Addr) (ct : Value) (osl : Array (Option Value)), fd = PySem.W.ksFn x qual (defArgs st) (defBody st) (defScope st) dV kV doc pm an (.ref cda) ct cc ∧ K.lookup f = some ⟨oc, od, .func fd, osl⟩
  cd : PySem.W.codeIn K (.ref cda) qual = true
  co : ∃ ccl cdd vs ccs file tf, K.lookup cda = some ⟨ccl, cdd, .fields vs, ccs⟩ ∧ vs[2]? = some (.str file tf) ∧ ((P.main.file : Str) == file) = true
  ce : ∃ cl cld csl, K.lookup cc = some ⟨cl, cld, .cell (some (.ref D)), csl⟩
  dc : ∃ cdD, PySem.W.clsIn K D = some cdD
  kp : PySem.W.keepIn K (.ref f) = true
structure SupTop (P : Program) (mg : Str → Option Value) : Prop where
  su : mg "super" = none
  tp : (P.main.scope.names.lookup ("super" : Str)).isSome = false
section
variable {P : Program} {w : World} {K : PySem.W.Frag} {mg : Str → Option Value} {base : Heap}
theorem FunS.ok {x qual : Str} {st : Stmt} {f cc D cda : Addr} {fd : FuncData} {N ps : List Str} {k : Nat} {sp : Sp} (F : FunS P K x qual st f cc D cda fd) (S : SScope N ps (defScope st)) (U : SupTop P mg)
    (ks : (defScope st).names.lookup ("super" : Str) = some .globalImplicit) (kc : (defScope st).names.lookup ("__class__" : Str) = some .free)
    (hp : ∃ ar, ((defArgs st).posonlyargs ++ (defArgs st).args).head? = some ar ∧ N[0]? = some ar.arg ∧ (defScope st).names.lookup ar.arg = some .local)
    (len : ∀ vs H Q E, sp vs H Q E → vs.length = ps.length)
    (hbody : ∀ (A : Around) (outer : List Env) (s : Shared) (H : Hp) (vs : List V) (Q : VK) (E : XK), Room k (A.deeper (PySem.W.ksEnv qual (defScope st) s.heap.objs.size f (.ref cda) cc)) →
      SupT (cxS (L2.CX P w) P w K mg base N qual (defScope st) f (.ref cda) cc A outer s H E) f cda cc D → Takes (cxS (L2.CX P w) P w K mg base N qual (defScope st) f (.ref cda) cc A outer s H E) (fun cls d _ H => E cls d H) → sp vs H Q E →
      ∃ t, PSst (cxS (L2.CX P w) P w K mg base N qual (defScope st) f (.ref cda) cc A outer s H E) (defBody st) (defBody st) t ∧ t { nx := fun _ H' => Q .non H', rt := Q } (L2.start N vs) H) : FnOk P w K mg base (L2.CX P w) (k + 1) f fd ps sp := by
  obtain ⟨oc, od, dV, kV, doc, pm, an, ct, osl, rfl, lk⟩ := F.ex
  obtain ⟨cl, cld, csl, hcc⟩ := F.ce
  obtain ⟨ar, h1, h2, h3⟩ := hp
  exact fn_sup lk F.cd hcc S len fun A outer s H vs Q E hr hsp => hbody A outer s H vs Q E hr
    ⟨rfl, rfl, ⟨oc, od, _, osl, ar, lk, h1, h2, h3⟩, F.co, F.ce, by show List.lookup ("__class__" : Str) [(("__class__" : Str), cc)] = _; simp [List.lookup], F.dc, U.su, ks, kc, U.tp⟩ (takes_of rfl rfl rfl rfl) hsp
theorem okT {x qual : Str} {st : Stmt} {f : Addr} {fd : FuncData} {N ps : List Str} {k : Nat} {sp : Sp} (F : Fun K x qual st f fd) (S : FnScope N ps (defScope st)) (len : ∀ vs H Q E, sp vs H Q E → vs.length = ps.length)
    (hbody : ∀ (cdv : Value) (A : Around) (outer : List Env) (s : Shared) (H : Hp) (vs : List V) (Q : VK) (E : XK), Room k (A.deeper (envOfC qual (defScope st) s.heap.objs.size f cdv)) →
      Takes (cxOf (L2.CX P w) P w K mg base N qual (defScope st) f cdv A outer s H E) (fun cls d _ H => E cls d H) →
      PassesOwn (model P w) (A.deeper (envOfC qual (defScope st) s.heap.objs.size f cdv)) (envOfC qual (defScope st) s.heap.objs.size f cdv) (cxOf (L2.CX P w) P w K mg base N qual (defScope st) f cdv A outer s H E).xe → sp vs H Q E →
      ∃ t, PSs (cxOf (L2.CX P w) P w K mg base N qual (defScope st) f cdv A outer s H E) (defBody st) t ∧ t { nx := fun _ H' => Q .non H', rt := Q } (L2.start N vs) H) : FnOk P w K mg base (L2.CX P w) (k + 1) f fd ps sp :=
  F.okX S len fun cdv A outer s H vs Q E hr h => hbody cdv A outer s H vs Q E hr (takes_of rfl rfl rfl rfl) (passes_of (X := cxOf (L2.CX P w) P w K mg base N qual (defScope st) f cdv A outer s H E) rfl) h
end
def tExc1 (C : Addr) (fld : Str) (ta : TA) : L2.St → Hp → XK → Prop := fun σ H Q => ta σ H fun vs H1 => ∃ v, vs = [v] ∧ ∀ d, H1 d = none → Q (.ref C) (some d) (upd H1 d (.xd [(fld, v)]))
end Sw
namespace Sw
open PySem PySem.Spec PyProof.Rows L2
structure Res where
  L : List Addr
  S : Hp → Prop
  st : ∀ H H', S H → (∀ b ∈ L, H' b = H b) → S H'
  dm : ∀ H, S H → ∀ b ∈ L, H b ≠ none
structure Wd (G : Hp) (R : Res) (H : Hp) : Prop where
  sub : Same G H
  out : ∀ b ∈ R.L, G b = none
  res : R.S H
def R0 : Res := ⟨[], fun _ => True, fun _ _ _ _ => True.intro, fun _ _ b h => by cases h⟩
section
variable {G G' H H' : Hp} {R : Res} {p : Addr} {o o' : HO}
theorem Wd.get (w : Wd G R H) (h : G p = some o) : H p = some o := w.sub _ _ h
theorem Wd.free (w : Wd G R H) (h : H p = none) : G p = none := Same.free w.sub h
theorem Wd.notin (w : Wd G R H) (h : G p = some o) : p ∉ R.L := fun hp => by
  have := w.out p hp
  rw [h] at this
  cases this
theorem Wd.notin' (w : Wd G R H) (h : H p = none) : p ∉ R.L := fun hp => w.res |> fun r => R.dm H r p hp h
theorem Wd.same (w : Wd G R H) (e : Same H H') : Wd G R H' := ⟨Same.trans w.sub e, w.out, R.st _ _ w.res fun b hb => by
  cases q : H b with
  | none => exact absurd q (R.dm H w.res b hb)
  | some u => exact e b u q⟩
theorem Wd.new (w : Wd G R H) (h : H p = none) : Wd (upd G p o) R (upd H p o) := by
  refine ⟨fun b u e => ?_, fun b hb => ?_, R.st _ _ w.res fun b hb => ?_⟩
  · by_cases hb : b = p
    · subst hb; rw [upd_same] at e ⊢; exact e
    · rw [upd_ne hb] at e ⊢; exact w.sub _ _ e
  · rw [upd_ne (fun e => w.notin' h (by rw [← e]; exact hb))]
    exact w.out b hb
  · rw [upd_ne (fun e => w.notin' h (by rw [← e]; exact hb))]
theorem Wd.set (w : Wd G R H) (h : G p = some o) : Wd (upd G p o') R (upd H p o') := by
  refine ⟨fun b u e => ?_, fun b hb => ?_, R.st _ _ w.res fun b hb => ?_⟩
  · by_cases hb : b = p
    · subst hb; rw [upd_same] at e ⊢; exact e
    · rw [upd_ne hb] at e ⊢; exact w.sub _ _ e
  · rw [upd_ne (fun e => w.notin h (by rw [← e]; exact hb))]
    exact w.out b hb
  · rw [upd_ne (fun e => w.notin h (by rw [← e]; exact hb))]
theorem Wd.drop (w : Wd G R H) (e : Same G' G) : Wd G' R H := ⟨Same.trans e w.sub, fun b hb => Same.free e (w.out b hb), w.res⟩
theorem Same.newG (h : G p = none) : Same G (upd G p o) := fun b u e => by
  rw [upd_ne (ne_of_none e h)]
  exact e
theorem Wd.r0 (H : Hp) : Wd H R0 H := ⟨Same.refl H, fun b h => absurd h (by simp [R0]), True.intro⟩
theorem upd_old {a b : Addr} (h : G b = some o) (hn : G a = none) : upd G a o' b = some o := by
  rw [upd_ne (ne_of_none h hn)]
  exact h
theorem upd_oth {a b : Addr} (h : G b = some o) (hn : b ≠ a) : upd G a o' b = some o := by
  rw [upd_ne hn]
  exact h
theorem upd_nonne {a b : Addr} (h : upd G a o b = none) : G b = none ∧ b ≠ a := by
  have : b ≠ a := fun e => by
    subst e
    rw [upd_same] at h
    cases h
  rw [upd_ne this] at h
  exact ⟨h, this⟩
end
def NewO (o : HO) (H : Hp) (Q : VK) : Prop := ∀ p, H p = none → Q (.ref p) (upd H p o)
section
variable {σ : L2.St} {H : Hp} {Q : VK} {K : PySem.W.Frag} {i : Nat} {v x y : V} {ta tb te tv to ti tk : TE} {t u c : TT} {D : Ends} {s1 s2 : TS} {g : TG} {tr tq : TA} {QA : List V → Hp → Prop} {QT : Bool → Hp → Prop}
theorem g_var (h : σ[i]? = some (some v)) (k : Q v H) : tVar i σ H Q := ⟨v, h, k⟩
theorem g_c (k : Q v H) : tC v σ H Q := k
theorem g_op {r : R2} (k : ta σ H fun x H1 => tb σ H1 fun y H2 => r x y H2 Q) : tOp r ta tb σ H Q := k
theorem g_un {r : V → Hp → VK → Prop} (k : ta σ H fun x H1 => r x H1 Q) : tUn r ta σ H Q := k
theorem g_I0 {f : Int → Int → V} {a b : Int} (k : Q (f a b) H) : rI0 f (.int a) (.int b) H Q := ⟨a, b, rfl, rfl, k⟩
theorem g_I {C : Int → Int → Prop} {f : Int → Int → V} {a b : Int} (hc : C a b) (k : Q (f a b) H) : rI C f (.int a) (.int b) H Q := ⟨a, b, rfl, rfl, hc, k⟩
theorem g_test {q : TE} (k : q σ H fun x H' => ∃ b, x = .bl b ∧ QT b H') : tTest q σ H QT := k
theorem g_bl {b : Bool} {P : Bool → Prop} (k : P b) : ∃ c, V.bl b = .bl c ∧ P c := ⟨b, rfl, k⟩
theorem g_and (k : t σ H fun b H1 => if b = true then u σ H1 QT else QT false H1) : tAnd t u σ H QT := k
theorem g_or (k : t σ H fun b H1 => if b = true then QT true H1 else u σ H1 QT) : tOr t u σ H QT := k
theorem g_not (k : t σ H fun b H1 => QT (!b) H1) : tNot t σ H QT := k
theorem g_if (k : c σ H fun b H1 => if b = true then ta σ H1 Q else tb σ H1 Q) : tIf c ta tb σ H Q := k
theorem g_nil (k : QA [] H) : tNil σ H QA := k
theorem g_cons (k : ta σ H fun x H1 => tr σ H1 fun xs H2 => QA (x :: xs) H2) : tCons ta tr σ H QA := k
theorem g_tup (k : tr σ H fun xs H1 => xs.length ≤ sizeLine ∧ NewO (.tup xs) H1 Q) : tTup tr σ H Q := k
theorem g_lst (k : tr σ H fun xs H1 => xs.length ≤ sizeLine ∧ NewO (.lst xs) H1 Q) : tLst tr σ H Q := k
theorem g_seq (k : s1 { D with nx := s2 D } σ H) : tSeq s1 s2 D σ H := k
theorem g_next (k : D.nx σ H) : tNext D σ H := k
theorem g_asg (k : te σ H fun x H1 => g x σ H1 D.nx) : tAsg te g D σ H := k
theorem g_name {P : L2.St → Hp → Prop} (k : P (σ.set i (some v)) H) : gName i v σ H P := k
theorem g_sub {ts : TSet} {P : L2.St → Hp → Prop} (k : to σ H fun o H1 => ti σ H1 fun i H2 => ts o i v H2 fun H3 => P σ H3) : gSub to ti ts v σ H P := k
theorem g_drop (k : te σ H fun _ H1 => D.nx σ H1) : tDrop te D σ H := k
theorem g_ret (k : te σ H D.rt) : tRet te D σ H := k
theorem g_retN (k : D.rt .non H) : tRetN D σ H := k
theorem g_ifS (k : c σ H fun b H1 => if b = true then s1 D σ H1 else s2 D σ H1) : tIfS c s1 s2 D σ H := k
theorem g_callB {r : List V → Hp → VK → Prop} (k : tr σ H fun vs H1 => r vs H1 Q) : tCB r tr σ H Q := k
theorem g_calG {n m : Nat} {sp : SpC} {W : WX} (k : tr σ H fun vs H1 => tq σ H1 fun zs H2 => vs.length = n ∧ zs.length = m ∧ sp vs zs H2 Q (WE W σ)) : tCalG n m sp W tr tq σ H Q := k
theorem g_mkG {n m : Nat} {C : Addr} {sp : SpC} {W : WX} (k : tr σ H fun vs H1 => tq σ H1 fun zs H2 => vs.length = n ∧ zs.length = m ∧ ∀ x dx, H2 x = none → H2 dx = none → dx ≠ x → sp (.ref x :: vs) zs (upd (upd H2 dx (.own x)) x (.ins C dx [])) (fun v H3 => v = .non ∧ Q (.ref x) H3) (WE W σ)) : tMkG C n m sp W tr tq σ H Q := k
theorem iteD {P A B : Prop} [Decidable P] (h1 : P → A) (h2 : ¬ P → B) : if decide P = true then A else B := by
  by_cases h : P
  · rw [decide_eq_true h]; exact iteT (h1 h)
  · rw [decide_eq_false h]; exact iteF (h2 h)
theorem iteB {b : Bool} {A B : Prop} (h1 : b = true → A) (h2 : b = false → B) : if b = true then A else B := by
  cases b
  · exact iteF (h2 rfl)
  · exact iteT (h1 rfl)
theorem iteNT {A B : Prop} (h : B) : if (!true) = true then A else B := iteF h
theorem iteNF {A B : Prop} (h : A) : if (!false) = true then A else B := iteT h
end
end Sw
namespace Sw
open PySem PySem.Spec PyProof.Rows L2
abbrev rAddI : R2 := rI0 fun i j => .int (i + j)
abbrev rAddS : R2 := fun x y H Q => ∃ i j, x = .str i ∧ y = .str j ∧ i.length + j.length ≤ sizeLine ∧ Q (.str (i ++ j)) H
def aAdd (K : PySem.W.Frag) : R2 := fun x y H Q => rAddI x y H Q ∨ (rAddS x y H Q ∨ (rCat x y H Q ∨ rCatA K x y H Q))
def aMul (K : PySem.W.Frag) : R2 := fun x y H Q => rI CMul (fun i j => .int (i * j)) x y H Q ∨ rRep x y H Q
def eqVs : List V → List V → Bool
  | [], [] => true
  | x :: xs, y :: ys => eqV x y && eqVs xs ys
  | [], _ :: _ => false
  | _ :: _, [] => false
theorem eqVs_len : ∀ {xs ys : List V}, xs.length ≠ ys.length → eqVs xs ys = false
  | [], [], h => absurd rfl h
  | [], _ :: _, _ => rfl
  | _ :: _, [], _ => rfl
  | x :: xs, y :: ys, h => by
    show (eqV x y && eqVs xs ys) = false
    rw [eqVs_len (xs := xs) (ys := ys) fun e => h (by rw [List.length_cons, List.length_cons, e]), Bool.and_false]
theorem eqVs_all : ∀ {xs ys : List V}, xs.length = ys.length → (List.range xs.length).all (fun j => eqV (xs.getD j .non) (ys.getD j .non)) = eqVs xs ys
  | [], [], _ => rfl
  | [], _ :: _, h => by cases h
  | _ :: _, [], h => by cases h
  | x :: xs, y :: ys, h => by
    rw [List.length_cons, List.range_succ_eq_map, List.all_cons, List.all_map]
    show (eqV x y && (List.range xs.length).all (fun j => eqV (xs.getD j .non) (ys.getD j .non))) = (eqV x y && eqVs xs ys)
    rw [eqVs_all (Nat.succ.inj h)]
def rEqF (K : PySem.W.Frag) : R2 := fun x y H Q => ∃ a b xs ys, x = .ref a ∧ y = .ref b ∧ SqL K H a xs ∧ SqL K H b ys ∧ xs.all flatV = true ∧ ys.all flatV = true ∧ Q (.bl (eqVs xs ys)) H
def rNeF (K : PySem.W.Frag) : R2 := fun x y H Q => ∃ a b xs ys, x = .ref a ∧ y = .ref b ∧ SqL K H a xs ∧ SqL K H b ys ∧ xs.all flatV = true ∧ ys.all flatV = true ∧ Q (.bl (!eqVs xs ys)) H
theorem flat_at {xs : List V} {us : List Value} (r : Vals xs us) (hf : xs.all flatV = true) {j : Nat} (h : j < us.toArray.size) : RelV (xs.getD j .non) us.toArray[j] ∧ flatV (xs.getD j .non) = true := by
  have hl := r.length
  have hj : j < us.length := by simpa using h
  have hx : xs[j]? = some xs[j] := List.getElem?_eq_getElem (by omega)
  have e : xs.getD j .non = xs[j] := by
    rw [List.getD_eq_getElem?_getD, hx]
    rfl
  rw [e]
  refine ⟨?_, List.all_eq_true.mp hf _ (List.getElem_mem _)⟩
  have := r.get hx
  obtain ⟨u, hu, ru⟩ := this
  rw [List.getElem?_eq_getElem hj] at hu
  cases hu
  simpa using ru
theorem op_eqF {X : Cx} (hu : X.A.units + 64 < cLine) : OpR X (compareOp .Eq) (rEqF X.K) := by
  intro pins s σ H x y v u Q I rx ry h
  obtain ⟨a, b, xs, ys, rfl, rfl, ha, hb, fa, fb, q⟩ := h
  cases rx
  cases ry
  obtain ⟨i1, r1, p1, z1⟩ := I.list ha
  obtain ⟨i2, r2, p2, z2⟩ := I.list hb
  have l1 := r1.length
  have l2 := r2.length
  by_cases hl : xs.length = ys.length
  · have := SeqAt.RcAt.lists (A := X.A) (e := fun j => eqV (xs.getD j .non) (ys.getD j .non)) p1.isList p2.isList (by simp; omega) (by omega) (fun j h1 h2 => by
      obtain ⟨a1, a2⟩ := flat_at r1 fa h1
      obtain ⟨b1, b2⟩ := flat_at r2 fb h2
      exact eqAt_V a1 b1 a2 b2) X.prog X.w
    refine this _ _ ?_
    rw [show i1.toArray.size = xs.length by simp; omega, eqVs_all hl]
    exact ⟨.bl _, H, I, rfl, q⟩
  · refine SeqAt.RcAt.lists_lengths (A := X.A) p1.isList p2.isList (by simp; omega) (by omega) X.prog X.w _ _ ?_
    rw [eqVs_len hl] at q
    exact ⟨.bl _, H, I, rfl, q⟩
theorem op_neF {X : Cx} (hu : X.A.units + 64 < cLine) : OpR X (compareOp .NotEq) (rNeF X.K) := by
  intro pins s σ H x y v u Q I rx ry h
  obtain ⟨a, b, xs, ys, rfl, rfl, ha, hb, fa, fb, q⟩ := h
  cases rx
  cases ry
  obtain ⟨i1, r1, p1, z1⟩ := I.list ha
  obtain ⟨i2, r2, p2, z2⟩ := I.list hb
  have l1 := r1.length
  have l2 := r2.length
  by_cases hl : xs.length = ys.length
  · have := SeqAt.RcNeAt.lists (A := X.A) (e := fun j => eqV (xs.getD j .non) (ys.getD j .non)) p1.isList p2.isList (by simp; omega) (by omega) (fun j h1 h2 => by
      obtain ⟨a1, a2⟩ := flat_at r1 fa h1
      obtain ⟨b1, b2⟩ := flat_at r2 fb h2
      exact eqAt_V a1 b1 a2 b2) X.prog X.w
    refine this _ _ ?_
    rw [show i1.toArray.size = xs.length by simp; omega, eqVs_all hl]
    exact ⟨.bl _, H, I, rfl, q⟩
  · refine SeqAt.RcNeAt.lists_lengths (A := X.A) p1.isList p2.isList (by simp; omega) (by omega) X.prog X.w _ _ ?_
    rw [eqVs_len hl] at q
    exact ⟨.bl _, H, I, rfl, q⟩
def aEq (K : PySem.W.Frag) : R2 := fun x y H Q => rEq x y H Q ∨ (rEqD K x y H Q ∨ rEqF K x y H Q)
def aNe (K : PySem.W.Frag) : R2 := fun x y H Q => rNe x y H Q ∨ (rNeD K x y H Q ∨ rNeF K x y H Q)
def aSl (K : PySem.W.Frag) : V → Option Int → Option Int → Hp → VK → Prop := fun x lo hi H Q => rSlL K x lo hi H Q ∨ (rSlS x lo hi H Q ∨ rSlT K x lo hi H Q)
def aLen (K : PySem.W.Frag) : List V → Hp → VK → Prop := fun xs H Q => ∃ x n, xs = [x] ∧ LenV K x H n ∧ Q (.int n) H
section
variable {X : Cx}
theorem oa_add : OpR X (binaryOp .Add) (aAdd X.K) := op_add.or (op_add_str.or (op_cat.or op_catA))
theorem oa_mul : OpR X (binaryOp .Mult) (aMul X.K) := op_mul.or op_rep
theorem oa_eq (hu : X.A.units + 64 < cLine) : OpR X (compareOp .Eq) (aEq X.K) := op_eq.or ((op_eqD hu).or (op_eqF hu))
theorem oa_ne (hu : X.A.units + 64 < cLine) : OpR X (compareOp .NotEq) (aNe X.K) := op_ne.or ((op_neD hu).or (op_neF hu))
theorem sa : SlR X (aSl X.K) := sl_list.or (sl_str.or sl_tup)
theorem ca_len : CallR X (.builtin "len") (aLen X.K) := call_len
end
section
variable {G H : Hp} {R : Res} {K : PySem.W.Frag} {Q : VK} {a b l p : Addr} {xs ys zs : List V} {i j : Int} {x y : Str}
theorem g_addI (k : Q (.int (i + j)) H) : aAdd K (.int i) (.int j) H Q := .inl ⟨i, j, rfl, rfl, k⟩
theorem g_addL (w : Wd G R H) (h1 : G a = some (.lst xs)) (h2 : G b = some (.lst ys)) (hz : xs.length + ys.length ≤ sizeLine) (k : ∀ p H', G p = none → Wd (upd G p (.lst (xs ++ ys))) R H' → Q (.ref p) H') : aAdd K (.ref a) (.ref b) H Q :=
  .inr (.inr (.inl ⟨a, b, xs, ys, rfl, rfl, w.get h1, w.get h2, hz, fun p hp => k p _ (w.free hp) (w.new hp)⟩))
theorem g_addT (w : Wd G R H) (h1 : SqT K G a xs) (h2 : SqT K G b ys) (n1 : xs ≠ []) (n2 : ys ≠ []) (hz : xs.length + ys.length ≤ sizeLine) (k : ∀ p H', G p = none → Wd (upd G p (.tup (xs ++ ys))) R H' → Q (.ref p) H') : aAdd K (.ref a) (.ref b) H Q :=
  .inr (.inr (.inr ⟨a, b, xs, ys, rfl, rfl, Evl.ex_t w.sub h1, Evl.ex_t w.sub h2, hz, fun e => absurd e n1, fun _ e => absurd e n2, fun _ _ p hp => k p _ (w.free hp) (w.new hp)⟩))
theorem g_mulI (hc : CMul i j) (k : Q (.int (i * j)) H) : aMul K (.int i) (.int j) H Q := .inl ⟨i, j, rfl, rfl, hc, k⟩
theorem g_neS {u v : V} (hs : scal u v = true) (k : Q (.bl (!decide (u = v))) H) : aNe K u v H Q := .inl ⟨hs, k⟩
theorem g_eqD {u v : V} {d e : PyData} (h1 : Dp K H u d) (h2 : Dp K H v e) (s1 : SeqAt.shaped d = true) (s2 : SeqAt.shaped e = true) (k : Q (.bl (PyData.eqv d e)) H) : aEq K u v H Q := .inr (.inl ⟨d, e, h1, h2, s1, s2, k⟩)
theorem g_neD {u v : V} {d e : PyData} (h1 : Dp K H u d) (h2 : Dp K H v e) (s1 : SeqAt.shaped d = true) (s2 : SeqAt.shaped e = true) (k : Q (.bl (!PyData.eqv d e)) H) : aNe K u v H Q := .inr (.inl ⟨d, e, h1, h2, s1, s2, k⟩)
theorem g_ixL (w : Wd G R H) {v : V} (h : SqL K G p xs) (ha : atI xs i = some v) (k : Q v H) : rIx K (.ref p) (.int i) H Q := .inl ⟨p, xs, i, v, rfl, rfl, Evl.ex_l w.sub h, ha, k⟩
theorem g_ixT (w : Wd G R H) {v : V} (h : SqT K G p xs) (ha : atI xs i = some v) (k : Q v H) : rIx K (.ref p) (.int i) H Q := .inr (.inl ⟨p, xs, i, v, rfl, rfl, Evl.ex_t w.sub h, ha, k⟩)
theorem g_ixS {c : Nat} (hz : x.length ≤ sizeLine) (ha : atI x.cps.toList i = some c) (k : Q (.str ⟨#[c]⟩) H) : rIx K (.str x) (.int i) H Q := .inr (.inr ⟨x, i, c, rfl, rfl, hz, ha, k⟩)
theorem g_slL (w : Wd G R H) {lo hi : Option Int} (h : SqL K G a xs) (k : ∀ p H', G p = none → Wd (upd G p (.lst (cutV xs lo hi))) R H' → Q (.ref p) H') : aSl K (.ref a) lo hi H Q :=
  .inl ⟨a, xs, rfl, Evl.ex_l w.sub h, fun p hp => k p _ (w.free hp) (w.new hp)⟩
theorem g_slT (w : Wd G R H) {lo hi : Option Int} (h : SqT K G a xs) (hn : ¬ (HT.sIx xs.length 0 lo = 0 ∧ HT.sIx xs.length xs.length hi = xs.length)) (k : ∀ p H', G p = none → Wd (upd G p (.tup (cutV xs lo hi))) R H' → Q (.ref p) H') : aSl K (.ref a) lo hi H Q :=
  .inr (.inr ⟨a, xs, rfl, Evl.ex_t w.sub h, hn, fun p hp => k p _ (w.free hp) (w.new hp)⟩)
theorem g_lenS (hz : x.length ≤ sizeLine) (k : Q (.int x.length) H) : aLen K [.str x] H Q := ⟨.str x, _, rfl, ⟨hz, rfl⟩, k⟩
theorem g_lenL (w : Wd G R H) (h : SqL K G p xs) (k : Q (.int xs.length) H) : aLen K [.ref p] H Q := ⟨.ref p, _, rfl, .inl ⟨xs, Evl.ex_l w.sub h, rfl⟩, k⟩
theorem g_lenT (w : Wd G R H) (h : SqT K G p xs) (k : Q (.int xs.length) H) : aLen K [.ref p] H Q := ⟨.ref p, _, rfl, .inr ⟨xs, Evl.ex_t w.sub h, rfl⟩, k⟩
theorem g_newL (w : Wd G R H) {o : HO} {n : Nat} (hz : n ≤ sizeLine) (k : ∀ p H', G p = none → Wd (upd G p o) R H' → Q (.ref p) H') : n ≤ sizeLine ∧ NewO o H Q := ⟨hz, fun p hp => k p _ (w.free hp) (w.new hp)⟩
theorem g_app (w : Wd G R H) {v : V} (h : G l = some (.lst xs)) (hz : xs.length < sizeLine) (k : ∀ H', Wd (upd G l (.lst (xs ++ [v]))) R H' → Q .non H') : rAppend (.ref l) [v] H Q := ⟨l, xs, v, rfl, rfl, w.get h, hz, k _ (w.set h)⟩
theorem g_popAt (w : Wd G R H) {v : V} {k' : Nat} (h : G l = some (.lst xs)) (h1 : -(2 ^ 63) ≤ i) (h2 : i < 2 ^ 63) (h3 : seqIndex? i xs.length = some k') (h4 : xs[k']? = some v) (k : ∀ H', Wd (upd G l (.lst (xs.eraseIdx k'))) R H' → Q v H') : rPopAt (.ref l) [.int i] H Q :=
  ⟨l, xs, i, k', v, rfl, rfl, w.get h, h1, h2, h3, h4, k _ (w.set h)⟩
theorem g_setL (w : Wd G R H) {v : V} {j' : Nat} {P : Hp → Prop} (h : G l = some (.lst xs)) (hi : ixN xs.length i = some j') (k : ∀ H', Wd (upd G l (.lst (xs.set j' v))) R H' → P H') : rSetL (.ref l) (.int i) v H P := ⟨l, xs, i, j', rfl, rfl, w.get h, hi, k _ (w.set h)⟩
theorem g_tyL (w : Wd G R H) {P : Prop} (h : G l = some (.lst xs)) (k : P) : tyV K "list" (.ref l) H ∧ P := ⟨.inl ⟨rfl, _, SqL.of (w.get h)⟩, k⟩
end
section
variable {X : Cx} {a b e o : Expr} {es : List Expr} {rest : List Expr} {ta tb te to : TE} {t tr : TA} {pos apos : Pos} {f : Str} (K : PySem.W.Frag)
theorem ka_add (hK : X.K = K := by rfl) : OpR X (binaryOp .Add) (aAdd K) := by subst hK; exact oa_add
theorem ka_mul (hK : X.K = K := by rfl) : OpR X (binaryOp .Mult) (aMul K) := by subst hK; exact oa_mul
theorem ka_eq (hu : X.A.units + 64 < cLine) (hK : X.K = K := by rfl) : OpR X (compareOp .Eq) (aEq K) := by subst hK; exact oa_eq hu
theorem ka_ne (hu : X.A.units + 64 < cLine) (hK : X.K = K := by rfl) : OpR X (compareOp .NotEq) (aNe K) := by subst hK; exact oa_ne hu
theorem ka_sl (hK : X.K = K := by rfl) : SlR X (aSl K) := by subst hK; exact sa
theorem ka_len (hK : X.K = K := by rfl) : CallR X (.builtin "len") (aLen K) := by subst hK; exact ca_len
theorem ka_ix (hK : X.K = K := by rfl) : IxR X (rIx K) := by subst hK; exact ix_seq
theorem ka_isi (hK : X.K = K := by rfl) : CallR X (.builtin "isinstance") (rIsi K) := by subst hK; exact call_isi
def rListOf (K : PySem.W.Frag) : List V → Hp → VK → Prop := fun xs H Q => ∃ p ys, xs = [.ref p] ∧ (SqL K H p ys ∨ SqT K H p ys) ∧ ∀ l, H l = none → Q (.ref l) (upd H l (.lst ys))
theorem ka_list (hK : X.K = K := by rfl) : CallR X (.type "list") (rListOf K) := by subst hK; exact call_list_of
def tTru (K : PySem.W.Frag) (ta : TE) : TT := fun σ H Q => ta σ H fun x H' => ∃ k, TruV K x H' k ∧ Q k H'
theorem kt_truth (ha : PE X a ta) (he : ∀ whole, isTrue a X.env whole = (do let v ← whole; standAt a.pos; holding [v] (truthy v))) (hK : X.K = K := by rfl) : PT X a (tTru K ta) := by subst hK; exact pt_truth ha he
theorem ke_orT (ha : PE X a ta) (hb : PE X (.BoolOp .Or (b :: rest) pos) tb) (hK : X.K = K := by rfl) : PE X (.BoolOp .Or (a :: b :: rest) pos) (tOrT K ta tb) := by subst hK; exact pe_orT ha hb
theorem ki_list {tg l : Expr} {tl : TE} (hl : PE X l tl) (hK : X.K = K := by rfl) : PI X tg l (iList K tl) := by subst hK; exact pi_list hl
theorem ki_tup {tg l : Expr} {tl : TE} (hl : PE X l tl) (hK : X.K = K := by rfl) : PI X tg l (iTup K tl) := by subst hK; exact pi_tup hl
end
section
variable {G H : Hp} {R : Res} {K : PySem.W.Frag} {Q : VK} {σ : L2.St} {t1 t2 : TE} {QT : Bool → Hp → Prop}
theorem g_tru (k : t1 σ H fun x H' => ∃ k, TruV K x H' k ∧ QT k H') : tTru K t1 σ H QT := k
theorem g_listL (w : Wd G R H) {p : Addr} {xs : List V} (h : SqL K G p xs) (k : ∀ l H', G l = none → Wd (upd G l (.lst xs)) R H' → Q (.ref l) H') : rListOf K [.ref p] H Q := ⟨p, xs, rfl, .inl (Evl.ex_l w.sub h), fun l hl => k l _ (w.free hl) (w.new hl)⟩
theorem g_strM {a : Str} {P : Prop} (k : P) : (∃ b, V.str a = .str b) ∧ P := ⟨⟨a, rfl⟩, k⟩
end
end Sw
namespace Sw
open PySem PySem.Spec PyProof.Rows L2
structure Itf (J : It) (n : Nat) (I : Hp → Prop) (Y : Nat → V → Hp → Hp → Prop) : Prop where
  go : ∀ i H, i < n → I H → J.go i H
  stop : ∀ H, I H → J.stop n H
  yld : ∀ i H x H', i < n → I H → J.yld i H x H' → Y i x H H'
theorem itf_list {K : PySem.W.Frag} {a : Addr} {xs : List V} : Itf (Itl K a) xs.length (fun H => SqL K H a xs) (fun i x H H' => H' = H ∧ xs[i]? = some x) where
  go := fun i H hi h => ⟨xs, xs[i], h, List.getElem?_eq_getElem hi⟩
  stop := fun H h => ⟨xs, h, Nat.le_refl _⟩
  yld := fun i H x H' hi h y => ⟨y.1, y.2 xs h⟩
theorem itf_tup {K : PySem.W.Frag} {a : Addr} {xs : List V} : Itf (Itt K a) xs.length (fun H => SqT K H a xs) (fun i x H H' => H' = H ∧ xs[i]? = some x) where
  go := fun i H hi h => ⟨xs, xs[i], h, List.getElem?_eq_getElem hi⟩
  stop := fun H h => ⟨xs, h, Nat.le_refl _⟩
  yld := fun i H x H' hi h y => ⟨y.1, y.2 xs h⟩
theorem itf_range {lo : Int} {n : Nat} : Itf (Itr lo n) n (fun _ => True) (fun i x H H' => H' = H ∧ x = .int (lo + i)) where
  go := fun i H hi h => hi
  stop := fun H h => Nat.le_refl _
  yld := fun i H x H' hi h y => y
def ForW (J : It) (g : TG) (tb : TS) (D : Ends) (σ : L2.St) (H1 : Hp) : Prop := ∃ W : Nat → Nat → L2.St → Hp → Prop, (∃ m, W 0 m σ H1) ∧ ∀ i m σ H, W i m σ H →
  (J.stop i H ∧ D.nx σ H) ∨ (J.go i H ∧ ∃ N : L2.St → Hp → Prop, (∀ σ' H', N σ' H' → ∃ m', m' < m ∧ W (i + 1) m' σ' H') ∧ ∀ x H', J.yld i H x H' → g x σ H' fun σ2 H2 => tb { D with nx := N, ct := N, bk := D.nx } σ2 H2)
theorem for_it {J : It} {n : Nat} {I : Hp → Prop} {Y : Nat → V → Hp → Hp → Prop} (F : Itf J n I Y) {g : TG} {tb : TS} {D : Ends} {σ : L2.St} {H : Hp} (Pv : Nat → L2.St → Hp → Prop) (h0 : Pv 0 σ H) (hI : ∀ i σ H, i ≤ n → Pv i σ H → I H)
    (hs : ∀ i x σ H H', i < n → Pv i σ H → Y i x H H' → g x σ H' fun σ2 H2 => tb { D with nx := Pv (i + 1), ct := Pv (i + 1), bk := D.nx } σ2 H2) (hd : ∀ σ H, Pv n σ H → D.nx σ H) : ForW J g tb D σ H := by
  refine ⟨fun i m σ H => m = n - i ∧ i ≤ n ∧ Pv i σ H, ⟨n, by simp, Nat.zero_le _, h0⟩, ?_⟩
  rintro i m σ H ⟨rfl, hi, p⟩
  have q := hI i σ H hi p
  by_cases hlt : i < n
  · refine .inr ⟨F.go i H hlt q, Pv (i + 1), fun σ' H' p' => ⟨n - (i + 1), by omega, rfl, by omega, p'⟩, fun x H' y => hs i x σ H H' hlt p (F.yld i H x H' hlt q y)⟩
  · have e : i = n := by omega
    subst e
    exact .inl ⟨F.stop H q, hd σ H p⟩
def LcW (J : It) (g : TG) (tt : TT) (te : TE) (vs : List Nat) (σ : L2.St) (Q : VK) (H1 : Hp) : Prop := ∀ D, H1 D = none → ∃ W : Nat → Nat → Hp → Prop, (∃ m, W 0 m (upd H1 D (.lst []))) ∧ ∀ i m H, W i m H →
  (J.stop i H ∧ Q (.ref D) H) ∨ (J.go i H ∧ ∃ Nx : Hp → Prop, (∀ H', Nx H' → ∃ m', m' < m ∧ W (i + 1) m' H') ∧ ∀ x H', J.yld i H x H' → g x (wipe σ vs) H' fun σ2 H2 => wipe σ2 vs = wipe σ vs ∧ tt σ2 H2 fun b H3 =>
    if b = true then te σ2 H3 fun y H4 => ∃ acc, H4 D = some (.lst acc) ∧ acc.length < sizeLine ∧ Nx (upd H4 D (.lst (acc ++ [y]))) else Nx H3)
theorem lc_it {J : It} {n : Nat} {I : Hp → Prop} {Y : Nat → V → Hp → Hp → Prop} (F : Itf J n I Y) {G H1 : Hp} {R : Res} {g : TG} {tt : TT} {te : TE} {vs : List Nat} {σ : L2.St} {Q : VK} (w : Wd G R H1) (hI : ∀ H, Same G H → I H) (hz : n ≤ sizeLine)
    (Pv : Nat → Hp → List V → Prop) (h0 : Pv 0 G [])
    (hs : ∀ i x Gi acc D H H', i < n → Same G Gi → Gi D = none → Pv i Gi acc → acc.length ≤ i → Wd (upd Gi D (.lst acc)) R H → Y i x H H' → g x (wipe σ vs) H' fun σ2 H2 => wipe σ2 vs = wipe σ vs ∧ tt σ2 H2 fun b H3 =>
      if b = true then te σ2 H3 fun y H4 => ∃ acc', H4 D = some (.lst acc') ∧ acc'.length < sizeLine ∧ ((fun H5 => ∃ G4 acc4, Same G G4 ∧ G4 D = none ∧ Pv (i + 1) G4 acc4 ∧ acc4.length ≤ i + 1 ∧ Wd (upd G4 D (.lst acc4)) R H5) (upd H4 D (.lst (acc' ++ [y]))))
      else (fun H5 => ∃ G4 acc4, Same G G4 ∧ G4 D = none ∧ Pv (i + 1) G4 acc4 ∧ acc4.length ≤ i + 1 ∧ Wd (upd G4 D (.lst acc4)) R H5) H3)
    (hd : ∀ D Gn acc H, Same G Gn → Gn D = none → Pv n Gn acc → acc.length ≤ n → Wd (upd Gn D (.lst acc)) R H → Q (.ref D) H) : LcW J g tt te vs σ Q H1 := by
  intro D hD
  refine ⟨fun i m H => m = n - i ∧ i ≤ n ∧ ∃ Gi acc, Same G Gi ∧ Gi D = none ∧ Pv i Gi acc ∧ acc.length ≤ i ∧ Wd (upd Gi D (.lst acc)) R H, ⟨n, by simp, Nat.zero_le _, G, [], Same.refl G, w.free hD, h0, Nat.le_refl _, w.new hD⟩, ?_⟩
  rintro i m H ⟨rfl, hi, Gi, acc, e, nD, p, hl, wi⟩
  have sG : Same G H := Same.trans (Same.trans e (Same.newG nD)) wi.sub
  have q := hI H sG
  by_cases hlt : i < n
  · refine .inr ⟨F.go i H hlt q, fun H5 => ∃ G4 acc4, Same G G4 ∧ G4 D = none ∧ Pv (i + 1) G4 acc4 ∧ acc4.length ≤ i + 1 ∧ Wd (upd G4 D (.lst acc4)) R H5, fun H' p' => ⟨n - (i + 1), by omega, rfl, by omega, p'⟩, fun x H' y => ?_⟩
    exact hs i x Gi acc D H H' hlt e nD p hl wi (F.yld i H x H' hlt q y)
  · have ei : i = n := by omega
    subst ei
    exact .inl ⟨F.stop H q, hd D Gi acc H e nD p hl wi⟩
theorem lc_keep {G G4 H4 : Hp} {R : Res} {D : Addr} {acc : List V} {y : V} {i n : Nat} {Pv : Nat → Hp → List V → Prop} (w : Wd (upd G4 D (.lst acc)) R H4) (e : Same G G4) (nD : G4 D = none) (hl : acc.length ≤ i) (hi : i < n) (hz : n ≤ sizeLine) (p : Pv (i + 1) G4 (acc ++ [y])) :
    ∃ acc', H4 D = some (.lst acc') ∧ acc'.length < sizeLine ∧ ((fun H5 => ∃ G4 acc4, Same G G4 ∧ G4 D = none ∧ Pv (i + 1) G4 acc4 ∧ acc4.length ≤ i + 1 ∧ Wd (upd G4 D (.lst acc4)) R H5) (upd H4 D (.lst (acc' ++ [y])))) := by
  refine ⟨acc, w.get upd_same, by omega, G4, acc ++ [y], e, nD, p, by rw [List.length_append, List.length_singleton]; omega, ?_⟩
  have := w.set (o' := .lst (acc ++ [y])) upd_same
  rw [upd_upd] at this
  exact this
theorem lc_drop {G G4 H3 : Hp} {R : Res} {D : Addr} {acc : List V} {i : Nat} {Pv : Nat → Hp → List V → Prop} (w : Wd (upd G4 D (.lst acc)) R H3) (e : Same G G4) (nD : G4 D = none) (hl : acc.length ≤ i) (p : Pv (i + 1) G4 acc) :
    (fun H5 => ∃ G4 acc4, Same G G4 ∧ G4 D = none ∧ Pv (i + 1) G4 acc4 ∧ acc4.length ≤ i + 1 ∧ Wd (upd G4 D (.lst acc4)) R H5) H3 := ⟨G4, acc, e, nD, p, by omega, w⟩
theorem upd_comm {G : Hp} {p q : Addr} {o u : HO} (h : q ≠ p) : upd (upd G p o) q u = upd (upd G q u) p o := by
  funext b
  by_cases h1 : b = q
  · subst h1; rw [upd_same, upd_ne h, upd_same]
  · rw [upd_ne h1]
    by_cases h2 : b = p
    · subst h2; rw [upd_same, upd_same]
    · rw [upd_ne h2, upd_ne h2, upd_ne h1]
section
variable {σ : L2.St} {H : Hp} {Q : VK} {K : PySem.W.Frag} {D : Ends} {tl : TE} {ta : TA} {g : TG} {tb : TS} {tt : TT} {te : TE} {vs : List Nat} {z : Str} {a : Addr} {n lo : Int}
theorem g_forL (k : tl σ H fun x H1 => ∃ a, x = .ref a ∧ (∃ xs, SqL K H1 a xs) ∧ ForW (Itl K a) g tb D σ H1) : tFor (iList K tl) g tb D σ H := k
theorem g_forT (k : tl σ H fun x H1 => ∃ a, x = .ref a ∧ (∃ xs, SqT K H1 a xs) ∧ ForW (Itt K a) g tb D σ H1) : tFor (iTup K tl) g tb D σ H := k
theorem g_forR (k : ta σ H fun vs H1 => ∃ j : Int, vs = [.int j] ∧ -(2 ^ 62) ≤ j ∧ j < 2 ^ 62 ∧ ForW (Itr 0 j.toNat) g tb D σ H1) : tFor (iRng1 ta) g tb D σ H := k
theorem g_forR2 (k : ta σ H fun vs H1 => ∃ i j : Int, vs = [.int i, .int j] ∧ (-(2 ^ 62) ≤ i ∧ i < 2 ^ 62 ∧ -(2 ^ 62) ≤ j ∧ j < 2 ^ 62) ∧ ForW (Itr i (j - i).toNat) g tb D σ H1) : tFor (iRng2 ta) g tb D σ H := k
theorem g_forS (k : tl σ H fun v H1 => ∃ x, v = .str x ∧ ForW (Its x) g tb D σ H1) : tFor (iStr tl) g tb D σ H := k
theorem g_forE (k : ta σ H fun vs H1 => ∃ a xs, vs = [.ref a] ∧ SqL K H1 a xs ∧ ForW (Ite K a) g tb D σ H1) : tFor (iEnum K ta) g tb D σ H := k
theorem g_lcL (k : tl σ H fun x H1 => ∃ a, x = .ref a ∧ (∃ xs, SqL K H1 a xs) ∧ LcW (Itl K a) g tt te vs σ Q H1) : tLc (iList K tl) g tt te vs σ H Q := k
theorem g_lcT (k : tl σ H fun x H1 => ∃ a, x = .ref a ∧ (∃ xs, SqT K H1 a xs) ∧ LcW (Itt K a) g tt te vs σ Q H1) : tLc (iTup K tl) g tt te vs σ H Q := k
theorem g_lcR (k : ta σ H fun us H1 => ∃ j : Int, us = [.int j] ∧ -(2 ^ 62) ≤ j ∧ j < 2 ^ 62 ∧ LcW (Itr 0 j.toNat) g tt te vs σ Q H1) : tLc (iRng1 ta) g tt te vs σ H Q := k
theorem g_lcS (k : tl σ H fun v H1 => ∃ x, v = .str x ∧ LcW (Its x) g tt te vs σ Q H1) : tLc (iStr tl) g tt te vs σ H Q := k
theorem g_lcE (k : ta σ H fun us H1 => ∃ a xs, us = [.ref a] ∧ SqL K H1 a xs ∧ LcW (Ite K a) g tt te vs σ Q H1) : tLc (iEnum K ta) g tt te vs σ H Q := k
theorem g_orT {t1 t2 : TE} (k : t1 σ H fun x H1 => ∃ b, TruV K x H1 b ∧ if b = true then Q x H1 else t2 σ H1 Q) : tOrT K t1 t2 σ H Q := k
theorem g_slc {r : V → Option Int → Option Int → Hp → VK → Prop} {t1 : TE} {tlo thi : TO} (k : t1 σ H fun x H1 => tlo σ H1 fun l H2 => thi σ H2 fun u H3 => r x l u H3 Q) : L2.tSl r t1 tlo thi σ H Q := k
theorem g_noPart {P : Option Int → Hp → Prop} (k : P none H) : tNoPart σ H P := k
theorem g_part {t1 : TE} {P : Option Int → Hp → Prop} (k : t1 σ H fun x H1 => ∃ i, x = .int i ∧ P (some i) H1) : tPart t1 σ H P := k
theorem g_bm {T : String} {r : V → List V → Hp → VK → Prop} {t1 : TE} {tr : TA} (k : t1 σ H fun x H1 => tyV K T x H1 ∧ tr σ H1 fun xs H2 => r x xs H2 Q) : tBM K T r t1 tr σ H Q := k
theorem g_par {i j : Nat} {tr : TA} (k : tr σ H fun vs H1 => ∃ v w, vs = [v, w] ∧ D.nx ((σ.set i (some v)).set j (some w)) H1) : tPar i j tr D σ H := k
theorem g_yes {P : Bool → Hp → Prop} (k : P true H) : tYes σ H P := k
theorem g_tupG {m : Nat} {v : V} {t : TGs} {P : L2.St → Hp → Prop} (k : ∃ a xs, v = .ref a ∧ SqT K H a xs ∧ xs.length = m ∧ t xs σ H P) : gTup K m t v σ H P := k
theorem g_gcons {t : TG} {u : TGs} {v : V} {r : List V} {P : L2.St → Hp → Prop} (k : t v σ H fun σ' H' => u r σ' H' P) : gCons t u (v :: r) σ H P := ⟨v, r, rfl, k⟩
theorem g_gnil {P : L2.St → Hp → Prop} (k : P σ H) : gNil [] σ H P := ⟨rfl, k⟩
theorem g_chain {r r' : R2} {t1 t2 t3 : TE} (k : t1 σ H fun x H1 => t2 σ H1 fun y H2 => r x y H2 fun z H3 => ∃ k, z = .bl k ∧ (if k = true then t3 σ H3 fun w' H4 => r' y w' H4 Q else Q (.bl false) H3)) : tChain r r' t1 t2 t3 σ H Q := k
theorem g_truB {b : Bool} {P : Bool → Prop} (k : P b) : ∃ c, TruV K (.bl b) H c ∧ P c := ⟨b, rfl, k⟩
theorem g_truN {P : Bool → Prop} (k : P false) : ∃ c, TruV K .non H c ∧ P c := ⟨false, rfl, k⟩
theorem g_truI {i : Int} {P : Bool → Prop} (k : P (i != 0)) : ∃ c, TruV K (.int i) H c ∧ P c := ⟨_, rfl, k⟩
theorem g_isi {x c : V} {t u : Value} {b : Bool} (hc : ClsV c u) (ht : TyX K H x t) (hk : PySem.W.kitOne K t u = some b) (k : Q (.bl b) H) : rIsi K [x, c] H Q := ⟨x, c, t, u, b, rfl, hc, ht, hk, k⟩
theorem g_m1 {r : V → List V → Hp → VK → Prop} {t1 t2 : TE} (k : t1 σ H fun x H1 => (∃ a, x = .str a) ∧ t2 σ H1 fun y H2 => r x [y] H2 Q) : tM1 r t1 t2 σ H Q := k
theorem g_fld {t1 : TE} {f : Str} (k : t1 σ H fun x H1 => ∃ a C dx fs v, x = .ref a ∧ H1 a = some (.ins C dx fs) ∧ Cls K C ∧ NoAttr K C f ∧ fs.lookup f = some v ∧ Q v H1) : tFld K t1 f σ H Q := k
theorem g_con {t1 : TE} {f : Str} (k : t1 σ H fun x H1 => ∃ a C dx fs v u, x = .ref a ∧ H1 a = some (.ins C dx fs) ∧ Cls K C ∧ Con K C f v u ∧ fs.lookup f = none ∧ Q v H1) : tCon K t1 f σ H Q := k
end
end Sw
namespace Sw
open PySem PySem.Spec PyProof.Rows L2
theorem kg_tup {X : Cx} {pos : Pos} {es : List Expr} {k : Nat} {t : TGs} {n : Nat} (K : PySem.W.Frag) (hc : X.calm = true) (h : PGs X es t) (hK : X.K = K := by rfl)
    (hn : (assignEach es X.env).length = n := by rfl) (hst : (assignEach es X.env).findIdx? (·.1) = none := by rfl) : PG X (.Tuple es k pos) (gTup K n t) := by subst hK; exact pg_tup hc h hn hst
def rInt1 : List V → Hp → VK → Prop := fun xs H Q => (∃ i, xs = [.int i] ∧ Q (.int i) H) ∨ ∃ k, xs = [.bl k] ∧ Q (.int (if k = true then 1 else 0)) H
theorem g_intB {H : Hp} {Q : VK} {b : Bool} (k : Q (.int (if b = true then 1 else 0)) H) : rInt1 [.bl b] H Q := .inr ⟨b, rfl, k⟩
section
variable {σ : L2.St} {H : Hp} {Q : VK} {K : PySem.W.Frag} {D : Ends} {G : Hp} {R : Res} {te to : TE} {ta tk : TA} {f m : Str} {a C dx : Addr} {fs : List (Str × V)} {v : V} {W : WX} {n k : Nat} {ks : List Str} {sp : SpC} {P : Program} {wo : World} {mg : Str → Option Value} {base : Heap}
theorem g_meth {t : TA} (k0 : te σ H fun x H1 => ∃ a C dx fs sp, x = .ref a ∧ H1 a = some (.ins C dx fs) ∧ fs.lookup m = none ∧ GMt P wo K mg base k C m n ks sp ∧ t σ H1 fun vs H2 => tk σ H2 fun zs H3 => vs.length = n ∧ zs.length = ks.length ∧ sp (.ref a :: vs) zs H3 Q (WE W σ)) :
    tMtG P wo K mg base k m n ks W te t tk σ H Q := k0
theorem g_prop (k0 : te σ H fun x H1 => ∃ a C dx fs sp, x = .ref a ∧ H1 a = some (.ins C dx fs) ∧ GPr P wo K mg base k C m sp ∧ sp [.ref a] [] H1 Q E0) : tPrG P wo K mg base k m te σ H Q := k0
theorem g_exc1 {C : Addr} {fld : Str} {E : XK} (k0 : ta σ H fun vs H1 => ∃ v, vs = [v] ∧ ∀ d, H1 d = none → E (.ref C) (some d) (upd H1 d (.xd [(fld, v)]))) : tExc1 C fld ta σ H E := k0
theorem g_setF (k0 : te σ H fun y H1 => to σ H1 fun x H2 => ∃ a C dx fs, x = .ref a ∧ H2 a = some (.ins C dx fs) ∧ Cls K C ∧ NoAttr K C f ∧ fs.length < 1000 ∧ D.nx σ (upd H2 a (.ins C dx (putF f y fs)))) : sFld K to te f D σ H := k0
theorem g_andT {t1 t2 : TE} (k0 : t1 σ H fun x H1 => ∃ b, TruV K x H1 b ∧ if b = true then t2 σ H1 Q else Q x H1) : tAndT K t1 t2 σ H Q := k0
theorem g_exI {a : Int} {P : Int → Prop} (k0 : P a) : ∃ i, V.int a = V.int i ∧ P i := ⟨a, rfl, k0⟩
theorem g_dnew (k0 : NewO (.dK []) H Q) : tDNewK σ H Q := k0
theorem g_U {g : Int → V} {i : Int} (k0 : Q (g i) H) : rU g (.int i) H Q := ⟨i, rfl, k0⟩
theorem g_star {tr : TA} {QA : List V → Hp → Prop} (k0 : te σ H fun x H1 => ∃ p xs, x = V.ref p ∧ (SqT K H1 p xs ∨ SqL K H1 p xs) ∧ tr σ H1 fun ys H2 => QA (xs ++ ys) H2) : StX.tStar K te tr σ H QA := k0
end
end Sw
namespace Sw
open PySem PySem.Spec PySem.Calls PyProof.Rows PySem.W
end Sw
namespace Sw
open PySem PySem.Spec PyProof.Rows L2
def tXg (K : PySem.W.Frag) (a : Addr) (cls : Value) (d : Option Addr) (f : Str) (te : TE) : TE := fun σ H Q => te σ H fun x H1 => x = .ref a ∧ ∃ (C dd : Addr) (fs : List (Str × V)) (v : V), cls = .ref C ∧ d = some dd ∧ XfC K C ∧ PySem.W.findIn K (.ref C) f = some none ∧ H1 dd = some (.xd fs) ∧ fs.lookup f = some v ∧ Q v H1
theorem g_xg {K : PySem.W.Frag} {a : Addr} {cls : Value} {d : Option Addr} {f : Str} {te : TE} {σ : L2.St} {H : Hp} {Q : VK} (k : te σ H fun x H1 => x = .ref a ∧ ∃ (C dd : Addr) (fs : List (Str × V)) (v : V), cls = .ref C ∧ d = some dd ∧ XfC K C ∧ PySem.W.findIn K (.ref C) f = some none ∧ H1 dd = some (.xd fs) ∧ fs.lookup f = some v ∧ Q v H1) : tXg K a cls d f te σ H Q := k
theorem okTD {P : Program} {w : World} {K : PySem.W.Frag} {mg : Str → Option Value} {base : Heap} {x qual : Str} {st : Stmt} {f : Addr} {fd : FuncData} {N ps : List Str} {k : Nat} {sp : Sp} {dvs : List V} {kws : List (Str × V)} (F : FunD K x qual (defArgs st) (defBody st) (defScope st) dvs kws f fd) (S : FnScope N ps (defScope st)) (len : ∀ vs H Q E, sp vs H Q E → vs.length = ps.length)
    (hbody : ∀ (cdv : Value) (A : Around) (outer : List Env) (s : Shared) (H : Hp) (vs : List V) (Q : VK) (E : XK), Room k (A.deeper (envOfC qual (defScope st) s.heap.objs.size f cdv)) →
      Takes (cxOf (L2.CX P w) P w K mg base N qual (defScope st) f cdv A outer s H E) (fun cls d _ H => E cls d H) →
      PassesOwn (model P w) (A.deeper (envOfC qual (defScope st) s.heap.objs.size f cdv)) (envOfC qual (defScope st) s.heap.objs.size f cdv) (cxOf (L2.CX P w) P w K mg base N qual (defScope st) f cdv A outer s H E).xe → sp vs H Q E →
      ∃ t, PSs (cxOf (L2.CX P w) P w K mg base N qual (defScope st) f cdv A outer s H E) (defBody st) t ∧ t { nx := fun _ H' => Q .non H', rt := Q } (L2.start N vs) H) : FnOk P w K mg base (L2.CX P w) (k + 1) f fd ps sp :=
  F.ok S len fun cdv A outer s H vs Q E hr h => hbody cdv A outer s H vs Q E hr (takes_of rfl rfl rfl rfl) (passes_of (X := cxOf (L2.CX P w) P w K mg base N qual (defScope st) f cdv A outer s H E) rfl) h
end Sw
namespace Sw
open PySem PySem.Spec PyProof.Rows L2
structure FnG (P : Program) (w : World) (K : PySem.W.Frag) (mg : Str → Option Value) (base : Heap) (CX : CXT) (k : Nat) (f : Addr) (fd : FuncData) (ps : List Str) (sp : Sp) : Prop where
  len : ∀ vs H Q E, sp vs H Q E → vs.length = ps.length
  run : ∀ (A : Around) (outer : List Env) (s : Shared) (H : Hp) (args : Args) (us : List Value) (vs : List V) (Q : VK) (E : XK), Room k A → A.guards = some [] → Env0 P w K mg base A outer s H → BindsTo s fd args (ps.zip us) → Vals vs us → sp vs H Q E →
    codeAny (model P w) A (.call (.ref f) args) (CR CX outer P w H s Q E) s
theorem fnG_of {CX : CXT} {P : Program} {w : World} {K : PySem.W.Frag} {mg : Str → Option Value} {base : Heap} {k : Nat} {f : Addr} {name qual : Str} {params : Arguments} {body : List Stmt} {scope : Scope} {dV kV doc pm cdv ct oc : Value} {an od : Option Addr}
    {osl : Array (Option Value)} {N ps : List Str} {sp : Sp} (lk : K.lookup f = some ⟨oc, od, .func (PySem.W.fnOf name qual params body scope dV kV doc pm an cdv ct), osl⟩) (hcd : PySem.W.codeIn K cdv qual = true) (S : FnScope N ps scope)
    (len : ∀ vs H Q E, sp vs H Q E → vs.length = ps.length)
    (hbody : ∀ (A : Around) (outer : List Env) (s : Shared) (H : Hp) (vs : List V) (Q : VK) (E : XK), Room k (A.deeper (envOfC qual scope s.heap.objs.size f cdv)) → A.guards = some [] → sp vs H Q E →
      ∃ t, PSs (cxOf CX P w K mg base N qual scope f cdv A outer s H E) body t ∧ t { nx := fun _ H' => Q .non H', rt := Q } (L2.start N vs) H) :
    FnG P w K mg base CX (k + 1) f (PySem.W.fnOf name qual params body scope dV kV doc pm an cdv ct) ps sp := by
  refine ⟨len, fun A outer s H args us vs Q E hr hgd e0 hb r hsp => ?_⟩
  have hl := len _ _ _ _ hsp
  have KX : K.In s.heap := e0.mod.kin.keeps fun b o e => (e0.bs b o e).1
  have lim : s.heap.NoLimit := e0.mod.nolimit.keeps fun b o e => (e0.bs b o e).1
  have hkind : ∀ y ∈ ps.zip us, scope.names.lookup y.1 = some .local ∨ (scope.names.lookup y.1 = some .cell ∧ ((cellsFrom (s.heap.objs.size + 1) scope.names []).lookup y.1).isSome = true) := fun ⟨n, v⟩ hy => by
    rcases S.par n (List.of_mem_zip hy).1 with q | q
    · exact .inl q
    · exact .inr ⟨q, PySem.W.cellsFrom_some _ _ _ (.inl q)⟩
  refine codeAny_call_function hr.depth (KX _ _ lk) rfl S.co S.gen rfl (PySem.W.codeRec_of KX hcd) (hb _ _ _ _ ?_)
  refine wpAny_newFunctionEnv_cells S.kind hkind fun env he s1 x => ?_
  subst he
  refine ⟨lim.keeps x.toInCall.keep, codeAny_func ?_⟩
  obtain ⟨t, ht, hq⟩ := hbody A outer s H vs Q E (hr.deeper _) hgd hsp
  have I : Inv (cxOf CX P w K mg base N qual scope f cdv A outer s H E) [] (L2.start N vs) H s1 := inv_start S hr.hd e0 hl r x
  refine wpAny_mono (ht.run [] s1 (L2.start N vs) H _ I hq) (fun fl s' hs => ?_) fun e s' hs => hs
  have fin : ∀ {σ' : L2.St} {H' : Hp} {v : V} {u : Value}, Inv (cxOf CX P w K mg base N qual scope f cdv A outer s H E) [] σ' H' s' → RelV v u → Q v H' → CE outer P w H s Q u s' :=
    fun {σ' H' v u} J rv q => ⟨v, H', J.os, J.bare, J.base, J.hok, rv, q⟩
  cases fl with
  | ret u =>
    obtain ⟨v, σ', H', J, rv, q⟩ := hs
    exact fin J rv q
  | next =>
    obtain ⟨σ', H', J, q⟩ := hs
    exact fin (v := V.non) (u := Value.none) J rfl q
  | brk =>
    obtain ⟨_, _, _, q⟩ := hs
    exact False.elim q
  | cont =>
    obtain ⟨_, _, _, q⟩ := hs
    exact False.elim q
theorem law_callG {P : Program} {w : World} {K : PySem.W.Frag} {mg mb : Str → Option Value} {CX : CXT} {k : Nat} {fa a : Addr} {fd : FuncData} {x : Str} {sp : Sp} {s₁ : Shared} {vs : List Value} {ns : List Int}
    (KX : K.In s₁.heap) (hns : s₁.heap.Ns mainGlobals mg) (hb : s₁.heap.Ns builtinsNs mb) (hbb : ∀ x : Str, x ≠ "__name__" → mb x = bootBuiltins x) (hlim : s₁.heap.NoLimit) (hg : s₁.gens = #[])
    (ha : s₁.heap.get? a = some { cls := .type "list", data := .seq vs.toArray }) (hi : IntsAre vs ns) (hl : ns.length ≤ sizeLine) (hr : Room k callerA)
    (F : ∀ base : Heap, K.In base → base.Ns mainGlobals mg → FnG P w K mg base CX k fa fd [x] sp) (hbind : ∀ (s : Shared) (u : Value), BindsTo s fd ⟨[u], []⟩ [(x, u)])
    (hsp : ∀ H : Hp, Only H → SqL K H a (ns.map V.int) → sp [.ref a] H (fun v _ => v = .bl true) fun _ _ _ => False)
    (hCX : ∀ H e s', CX [] H s₁ (fun _ _ _ => False) e s' → False) :
    codeAny (model P w) callerA (.call (.ref fa) ⟨[.ref a], []⟩) (fun r s' => r = .ok (.ret (.bool true)) ∧ OldK s₁.heap s'.heap ∧ s'.os = s₁.os ∧ AllBare s'.gens) s₁ := by
  have rv := vals_ints hi
  have lenV := hi.length
  -- from an abstract heap in which nothing but the script may be tracked
  have core : ∀ H : Hp, Only H → SqL K H a (ns.map V.int) → HOk P w H s₁.heap → (∀ b, H b ≠ none → b = a) → (H a ≠ none → K.lookup a = none) →
      codeAny (model P w) callerA (.call (.ref fa) ⟨[.ref a], []⟩) (fun r s' => r = .ok (.ret (.bool true)) ∧ OldK s₁.heap s'.heap ∧ s'.os = s₁.os ∧ AllBare s'.gens) s₁ := by
    intro H hO hS hok hA hK
    have base_of : ∀ {b : Addr} {o : Obj}, s₁.heap.get? b = some o → H b = none → (hidT s₁.heap H).get? b = some o := fun e n => hidT_get e n
    have noA : ∀ {b : Addr} {o : Obj} {es : Array DictEntry} {ep : Nat}, s₁.heap.get? b = some o → o.data = .dict es ep → H b = none := fun {b o es ep} e d => by
      cases q : H b with
      | none => rfl
      | some u =>
        have e' : b = a := hA b (by rw [q]; simp)
        subst e'
        rw [ha] at e; cases e
        have d' : Data.seq vs.toArray _ = Data.dict es ep := d
        cases d'
    have nsK : ∀ {b : Addr} {m : Str → Option Value}, s₁.heap.Ns b m → (hidT s₁.heap H).Ns b m := fun {b m} ⟨o, es, ep, e, d, r⟩ => ⟨o, es, ep, base_of e (noA e d), d, r⟩
    have hKb : K.In (hidT s₁.heap H) := fun b o e => base_of (KX b o e) (by
      cases q : H b with
      | none => rfl
      | some u =>
        have e' : b = a := hA b (by rw [q]; simp)
        subst e'
        rw [hK (by rw [q]; simp)] at e; cases e)
    have hM : Mod K mg (hidT s₁.heap H) := ⟨hKb, nsK hns, ⟨mb, nsK hb, hbb⟩, let ⟨mc, h1, h2⟩ := hlim; ⟨mc, nsK h1, h2⟩⟩
    have e0 : Env0 P w K mg (hidT s₁.heap H) callerA [] s₁ H := ⟨rfl, hM, fun b o e => of_hidT e, Nat.le_of_eq (hidT_size _ _), trivial, fun b hb => absurd (show b ∈ ([] : List Addr) from hb) (by simp), hok, .of_eq hg⟩
    refine codeAny_mono ((F _ hKb (nsK hns)).run callerA [] s₁ H ⟨[.ref a], []⟩ [.ref a] [.ref a] _ _ hr rfl e0 (hbind s₁ (.ref a)) (.cons rfl .nil) (hsp H hO hS)) fun r s' h => ?_
    cases r with
    | error e => exact (hCX H e s' h).elim
    | ok fl =>
      cases fl with
      | next => exact False.elim h
      | brk => exact False.elim h
      | cont => exact False.elim h
      | ret u =>
        obtain ⟨v, H', os, bare, un, hok', r', q⟩ := h
        have q' : v = .bl true := q
        subst q'
        obtain rfl : u = Value.bool true := r'
        refine ⟨rfl, OldK.of_keep fun b o e => ?_, os, bare⟩
        cases q : H b with
        | none => exact un.keep b o e q (by intro z; exact absurd (show b ∈ ([] : List Addr) from z) (by simp)) (by simp)
        | some u =>
          rcases hO b with z | ⟨ob, xs, z⟩
          · rw [q] at z; cases z
          · have z2 := un.frzs b ob _ z
            obtain ⟨e1, _⟩ := hok b _ z
            obtain ⟨e2, _⟩ := hok' b _ z2
            rw [e] at e1; cases e1
            exact e2
  cases hk : K.lookup a with
  | some o =>
    -- the script is one of the module's own objects
    have e := KX a o hk
    rw [ha] at e
    cases e
    refine core (fun _ => none) (fun _ => .inl rfl) (.inr ⟨_, vs.toArray, _, hk, rfl, rfl, rfl, by rw [List.size_toArray, lenV]; exact hl, by simpa using rv⟩) (fun b u z => by have z' : (none : Option HO) = some u := z; cases z') (fun b z => absurd rfl z) fun z => absurd rfl z
  | none =>
    refine core (fun b => if b = a then some (.frz { cls := .type "list", data := .seq vs.toArray } (.lst (ns.map V.int))) else none) (fun b => ?_) (.inl (.inr ⟨{ cls := .type "list", data := .seq vs.toArray }, if_pos rfl⟩)) (fun b u z => ?_) (fun b z => ?_) fun _ => hk
    · by_cases hb : b = a
      · exact .inr ⟨_, _, if_pos hb⟩
      · exact .inl (if_neg hb)
    · by_cases hb : b = a
      · have z' := (if_pos hb).symm.trans z
        cases z'
        subst hb
        exact ⟨ha, by rw [List.length_map]; exact hl, vs, _, rv, ha⟩
      · have z' := (if_neg hb).symm.trans z
        cases z'
    · by_cases hb : b = a
      · exact hb
      · exact absurd (if_neg hb) z
end Sw
namespace Hk
open PySem PySem.Spec PyProof.Rows L2
abbrev FB : Type := PySem.W.Frag → Bool
abbrev FnV : Type := Option (Str × Str × Arguments × FuncBody × Scope × Addr × List Str × Addr)
def fnV (K : PySem.W.Frag) (a : Addr) : FnV := match K.lookup a with
  | some ⟨_, _, .func fd, _⟩ => some (fd.name, fd.qualname, fd.params, fd.body, fd.scope, fd.globals, fd.closure.map (·.1), fd.builtins)
  | _ => none
structure FD where
  at_ : PySem.W.Frag → Addr
  name : Str
  qual : Str
  params : Arguments
  body : List Stmt
  scope : Scope
  clo : List Str
def FD.val (d : FD) : FnV := some (d.name, d.qual, d.params, .stmts d.body, d.scope, mainGlobals, d.clo, builtinsNs)
abbrev AlX : Type := Bool × List FnV
def obsX (fb : List (List FB)) (fn : List FD) (K : PySem.W.Frag) : AlX := (fb.all fun l => l.all fun f => f K, fn.map fun d => fnV K (d.at_ K))
def valX (fn : List FD) : AlX := (true, fn.map FD.val)
def SaysX (fb : List (List FB)) (fn : List FD) (K : PySem.W.Frag) : Prop := obsX fb fn K = valX fn
def obsG (as : List Addr) (fb : List (List FB)) (fn : List FD) (g : Addr → Option Obj) : AlX := obsX fb fn (He.frG g as)
def hookX (as : List Addr) (fb : List (List FB)) (fn : List FD) : PySem.W.Hook where
  α := AlX
  obs := fun s => obsG as fb fn s.heap.get?
  val := fun _ => valX fn
  says := fun _ h => ∃ K : PySem.W.Frag, K.In h ∧ SaysX fb fn K
  of := fun _ _ e => ⟨_, He.frG_in, e⟩
  keeps := fun _ _ _ ⟨K, hK, c⟩ k => ⟨K, PySem.W.Frag.In.keeps hK k, c⟩
theorem obsG_eq {as : List Addr} {fb : List (List FB)} {fn : List FD} {g : Addr → Option Obj} {s : Shared} (h : ∀ a, g a = s.heap.get? a) : obsG as fb fn g = (hookX as fb fn).obs s := by
  have e : g = s.heap.get? := funext h
  rw [e] <;> rfl
section
variable {fb : List (List FB)} {fn : List FD} {K : PySem.W.Frag}
theorem SaysX.bit (c : SaysX fb fn K) (k i : Nat) {l : List FB} {f : FB} (hk : fb[k]? = some l) (hi : l[i]? = some f) : f K = true := by
  have c1 : (fb.all fun l => l.all fun f => f K) = true := congrArg (fun z : AlX => z.1) c
  exact List.all_eq_true.mp (List.all_eq_true.mp c1 l (List.mem_of_getElem? hk)) f (List.mem_of_getElem? hi)
theorem SaysX.fnv (c : SaysX fb fn K) (i : Nat) {d : FD} (h : fn[i]? = some d) : fnV K (d.at_ K) = d.val := by
  have e : fn.map (fun d => fnV K (d.at_ K)) = fn.map FD.val := congrArg (fun z : AlX => z.2) c
  have e2 : (fn.map fun d => fnV K (d.at_ K))[i]? = (fn.map FD.val)[i]? := by rw [e]
  rw [List.getElem?_map, List.getElem?_map, h] at e2
  exact Option.some.inj e2
end
end Hk
namespace Sw
open PySem PySem.Spec PyProof.Rows L2
theorem walk_ofEG {l : PySem.W.OpenLaw} {n k : Nat} {q : Program} {loose : List Str} {XP : (Str → Option Value) → Heap → Prop} {YP : World → Heap → Prop} {d : DefRec} {CX : World → CXT} {x : Str}
    (hn : l.most = some n) (hz : n ≤ sizeLine) (hdf : d.params.defaults = []) (hr : Room k callerA)
    (F : ∀ (w : World) (mg : Str → Option Value) (fa : Addr) (h : Heap), YP w h → h.Ns mainGlobals mg → mg d.name = some (.ref fa) → ∃ (K : PySem.W.Frag) (fd : FuncData) (sp : Sp), K.In h ∧
        (∀ (s : Shared) (u : Value), BindsTo s fd ⟨[u], []⟩ [(x, u)]) ∧ (∀ (H : Hp) (a : Addr) (ns : List Int), ns.length ≤ n → Only H → SqL K H a (ns.map V.int) → sp [.ref a] H (fun v _ => v = .bl true) fun _ _ _ => False) ∧
        ∀ base : Heap, K.In base → base.Ns mainGlobals mg → FnG l.prog w K mg base (CX w) k fa fd [x] sp)
    (no : ∀ (w : World) (H : Hp) (s : Shared) (e : Value) (s' : Shared), CX w [] H s (fun _ _ _ => False) e s' → False) : PySem.W.WalkO q loose XP YP l.row.toRowW d [] (fun f vs => PySem.call f vs) := by
  refine Att.attach_call hn hdf fun w s0 s1 mg mb fa o pm cd dc a vs ns G Y z1 z2 z3 hmg hobj hints hlen hg => ?_
  obtain ⟨K, fd, sp, hK, hb, hsp, hF⟩ := F w mg fa _ Y G.T.g hmg
  exact law_callG hK G.T.g G.T.b G.T.builtins G.T.nolimit hg hobj hints (Nat.le_trans hlen hz) hr hF hb (fun H hO hS => hsp H a ns hlen hO hS) fun H e s' => no w H s1 e s'
end Sw
namespace Hk
open PySem PySem.Spec PyProof.Rows L2
def adOf : Option (Option Value) → Addr
  | some (some (.ref a)) => a
  | _ => 0
def eqV (a b : Option (Option Value)) : Bool := decide (a = b)
theorem eqV_ok {a b : Option (Option Value)} (h : eqV a b = true) : a = b := of_decide_eq_true h
def stO : Value → Option Str
  | .str s _ => some s
  | _ => none
def tupC (K : PySem.W.Frag) (a : Addr) (ss : List Str) : Bool := match K.lookup a with
  | some ⟨.type c, _, .seq its _, _⟩ => decide (c = "tuple") && decide (its.toList.map stO = ss.map some)
  | _ => false
theorem strs_of : ∀ {ss : List Str} {its : List Value}, its.map stO = ss.map some → ∃ ts : List Tok, ts.length = ss.length ∧ its = List.zipWith (fun s t => Value.str s t) ss ts
  | [], [], _ => ⟨[], rfl, rfl⟩
  | [], _ :: _, h => nomatch h
  | _ :: _, [], h => nomatch h
  | s :: ss, v :: its, h => by
    rw [List.map_cons, List.map_cons] at h
    obtain ⟨h1, h2⟩ := List.cons.inj h
    obtain ⟨ts, l, e⟩ := strs_of h2
    cases v with
    | str z t =>
      have ez : z = s := Option.some.inj h1
      exact ⟨t :: ts, by rw [List.length_cons, List.length_cons, l], by rw [ez, e]; rfl⟩
    | _ => cases h1
theorem tup_ok {K : PySem.W.Frag} {a : Addr} {ss : List Str} (h : tupC K a ss = true) : ∃ (ts : List Tok) (od : Option Addr) (n : Nat) (sl : Array (Option Value)), ts.length = ss.length ∧ K.lookup a = some ⟨.type "tuple", od, .seq (List.zipWith (fun s t => Value.str s t) ss ts).toArray n, sl⟩ := by
  unfold tupC at h
  split at h
  · rename_i c od its n sl ho
    obtain ⟨h1, h2⟩ := He.ba h
    obtain ⟨ts, l, e⟩ := strs_of (of_decide_eq_true h2)
    refine ⟨ts, od, n, sl, l, ?_⟩
    rw [ho, of_decide_eq_true h1, ← e]
  · cases h
def codB (K : PySem.W.Frag) (a : Addr) (q : Str) : Bool := match K.lookup a with
  | some ⟨_, _, .func fd, _⟩ => PySem.W.codeIn K fd.code q
  | _ => false
def dvB (K : PySem.W.Frag) (a : Addr) : Bool := match K.lookup a with
  | some ⟨_, _, .func fd, _⟩ => (match fd.defaults with
    | .none => true
    | _ => false)
  | _ => false
theorem fn_ok {K : PySem.W.Frag} {a : Addr} {x q : Str} {ps : Arguments} {b : List Stmt} {sc : Scope} (e : fnV K a = some (x, q, ps, FuncBody.stmts b, sc, mainGlobals, [], builtinsNs)) (h1 : codB K a q = true) (h2 : dvB K a = true) :
    ∃ (oc : Value) (od : Option Addr) (kV dc pm : Value) (an : Option Addr) (cd ct : Value) (sl : Array (Option Value)), K.lookup a = some ⟨oc, od, .func (PySem.W.fnOf x q ps b sc .none kV dc pm an cd ct), sl⟩ ∧ PySem.W.codeIn K cd q = true := by
  unfold fnV at e
  unfold codB at h1
  unfold dvB at h2
  split at e
  · rename_i oc od fd sl ho
    rw [ho] at h1 h2
    obtain ⟨n1, n2, n3, n4, n5, n6, n7, n8, n9, n10, n11, n12, n13, n14, n15⟩ := fd
    simp only [Option.some.injEq, Prod.mk.injEq] at e
    obtain ⟨e1, e2, e3, e4, e5, e6, e7, e8⟩ := e
    have e7 : n7 = [] := List.map_eq_nil_iff.mp e7
    have e9 : n8 = .none := by cases n8 <;> first | rfl | cases h2
    subst e1 e2 e3 e4 e5 e6 e7 e8 e9
    exact ⟨oc, od, n9, n10, n11, n12, n13, n14, sl, ho, h1⟩
  · cases e
def kvA (K : PySem.W.Frag) (a : Addr) : Addr := match K.lookup a with
  | some ⟨_, _, .func fd, _⟩ => (match fd.kwdefaults with
    | .ref d => d
    | _ => 0)
  | _ => 0
def kvR (K : PySem.W.Frag) (a : Addr) : Bool := match K.lookup a with
  | some ⟨_, _, .func fd, _⟩ => (match fd.defaults, fd.kwdefaults with
    | .none, .ref _ => true
    | _, _ => false)
  | _ => false
theorem fnK_ok {K : PySem.W.Frag} {a : Addr} {x q : Str} {ps : Arguments} {b : List Stmt} {sc : Scope} (e : fnV K a = some (x, q, ps, FuncBody.stmts b, sc, mainGlobals, [], builtinsNs)) (h1 : codB K a q = true) (h2 : kvR K a = true) :
    ∃ (oc : Value) (od : Option Addr) (dc pm : Value) (an : Option Addr) (cd ct : Value) (sl : Array (Option Value)), K.lookup a = some ⟨oc, od, .func (PySem.W.fnOf x q ps b sc .none (.ref (kvA K a)) dc pm an cd ct), sl⟩ ∧ PySem.W.codeIn K cd q = true := by
  unfold fnV at e
  unfold codB at h1
  unfold kvR at h2
  unfold kvA
  split at e
  · rename_i oc od fd sl ho
    rw [ho] at h1 h2
    obtain ⟨n1, n2, n3, n4, n5, n6, n7, n8, n9, n10, n11, n12, n13, n14, n15⟩ := fd
    simp only [Option.some.injEq, Prod.mk.injEq] at e
    obtain ⟨e1, e2, e3, e4, e5, e6, e7, e8⟩ := e
    have e7 : n7 = [] := List.map_eq_nil_iff.mp e7
    obtain ⟨e9, d, e10⟩ : n8 = .none ∧ ∃ d, n9 = .ref d := by cases n8 <;> cases n9 <;> first | exact ⟨rfl, _, rfl⟩ | cases h2
    subst e1 e2 e3 e4 e5 e6 e7 e8 e9 e10
    exact ⟨oc, od, n10, n11, n12, n13, n14, sl, by rw [ho], h1⟩
  · cases e
end Hk
namespace Sw
open PySem PySem.Spec PyProof.Rows L2
section
variable {P : Program} {w : World} {K : PySem.W.Frag} {mg : Str → Option Value} {base : Heap} {j k n : Nat} {f : Addr} {fd : FuncData} {ps ks : List Str} {sp : Sp} {spc : SpC}
theorem FnG.of (F : FnOk P w K mg base (L2.CX P w) k f fd ps sp) : FnG P w K mg base (L2.CX P w) k f fd ps sp := ⟨F.len, fun A outer s H args us vs Q E hr _ => F.run A outer s H args us vs Q E hr⟩
theorem okG {x qual : Str} {st : Stmt} {N : List Str} (F : Fun K x qual st f fd) (S : FnScope N ps (defScope st)) (len : ∀ vs H Q E, sp vs H Q E → vs.length = ps.length)
    (hbody : ∀ (cdv : Value) (A : Around) (outer : List Env) (s : Shared) (H : Hp) (vs : List V) (Q : VK) (E : XK), Room k (A.deeper (envOfC qual (defScope st) s.heap.objs.size f cdv)) → A.guards = some [] →
      Takes (cxOf (L2.CX P w) P w K mg base N qual (defScope st) f cdv A outer s H E) (fun cls d _ H => E cls d H) →
      PassesOwn (model P w) (A.deeper (envOfC qual (defScope st) s.heap.objs.size f cdv)) (envOfC qual (defScope st) s.heap.objs.size f cdv) (cxOf (L2.CX P w) P w K mg base N qual (defScope st) f cdv A outer s H E).xe → sp vs H Q E →
      ∃ t, PSs (cxOf (L2.CX P w) P w K mg base N qual (defScope st) f cdv A outer s H E) (defBody st) t ∧ t { nx := fun _ H' => Q .non H', rt := Q } (L2.start N vs) H) : FnG P w K mg base (L2.CX P w) (k + 1) f fd ps sp := by
  obtain ⟨⟨oc, od, kV, doc, pm, an, cdv, ct, osl, rfl, lk, hcd⟩, kp⟩ := F
  exact fnG_of lk hcd S len fun A outer s H vs Q E hr hg h => hbody cdv A outer s H vs Q E hr hg (takes_of rfl rfl rfl rfl) (passes_of (X := cxOf (L2.CX P w) P w K mg base N qual (defScope st) f cdv A outer s H E) rfl) h
end
end Sw
namespace Sw
open PySem PySem.Spec PyProof.Rows L2
section
variable {X : Cx} {k n : Nat} {f C : Addr} {ks : List Str} {sp : SpC} {W : WX} {x : Str} {p pos : Pos} {e : Expr} {es : List Expr} {kws : List Keyword} {t tk : TA}
def tMkV (C : Addr) (n m : Nat) (sp : SpC) (W : WX) (t tk : TA) : TE := fun σ H Q => t σ H fun vs H1 => tk σ H1 fun zs H2 => n ≤ vs.length ∧ zs.length = m ∧ ∀ x dx, H2 x = none → H2 dx = none → dx ≠ x →
  sp (.ref x :: vs) zs (upd (upd H2 dx (.own x)) x (.ins C dx [])) (fun v H3 => v = .non ∧ Q (.ref x) H3) (WE W σ)
def tMkV1 (K : PySem.W.Frag) (C : Addr) (n : Nat) (sp : SpC) (W : WX) (te : TE) : TE := fun σ H Q => te σ H fun y H1 => ∃ a xs, y = V.ref a ∧ (SqT K H1 a xs ∨ SqL K H1 a xs) ∧ n ≤ xs.length ∧ ∀ x dx, H1 x = none → H1 dx = none → dx ≠ x →
  sp (.ref x :: xs) [] (upd (upd H1 dx (.own x)) x (.ins C dx [])) (fun v H3 => v = .non ∧ Q (.ref x) H3) (WE W σ)
end
end Sw
namespace Sw
open PySem PySem.Spec PyProof.Rows L2
def tLVals (td : TE) : TE := fun σ H Q => td σ H fun x H1 => ∃ d kvs, x = .ref d ∧ H1 d = some (.dK kvs) ∧ NewO (.lst (kvs.map (·.2))) H1 Q
section
variable {G H : Hp} {R : Res} {Q : VK} {a b : Addr} {kvs : List (Key × V)} {z : Str} {σ : L2.St} {td ty : TE}
theorem g_dget (k : td σ H fun x H1 => ty σ H1 fun y H2 => ∃ a v, x = .ref a ∧ DGet H2 a y (some v) ∧ Q v H2) : tDGet td ty σ H Q := k
theorem g_lvals (k : td σ H fun x H1 => ∃ d kvs, x = .ref d ∧ H1 d = some (.dK kvs) ∧ NewO (.lst (kvs.map (·.2))) H1 Q) : tLVals td σ H Q := k
end
end Sw
namespace PySem.HandSPX
end PySem.HandSPX
namespace Sw
open PySem PySem.Spec PyProof.Rows L2
end Sw
namespace Sw
open PySem PySem.Spec PyProof.Rows L2
end Sw
namespace Sw
open PySem PySem.Spec PyProof.Rows L2
end Sw
namespace Sw
open PySem PySem.Spec PyProof.Rows L2
def keyD : Key → PyData
  | .inl i => .int i
  | .inr x => .str x
theorem reads_keys {P : Program} {w : World} {h : Heap} {es : List DictEntry} {vs : List (Key × Value)} (hp : Pairs (mixKind P w) es vs) : ReadsAll h (es.map (·.key)) (vs.map fun p => keyD p.1) [] := by
  induction hp with
  | nil => exact ReadsAll.nil
  | cons h1 _ _ ih =>
    rcases keyIs_shape h1 with ⟨i, t, e1, e2⟩ | ⟨x, t, e1, e2⟩
    · rw [List.map_cons, List.map_cons, e1, e2]
      exact ReadsAll.cons (Reads.int i t) ih
    · rw [List.map_cons, List.map_cons, e1, e2]
      exact ReadsAll.cons (Reads.str x t) ih
theorem kv_keys {kvs : List (Key × V)} {vs : List (Key × Value)} (h : KV kvs vs) : vs.map (fun p => keyD p.1) = kvs.map (fun p => keyD p.1) := by
  unfold KV at h
  induction h with
  | nil => rfl
  | cons r _ ih => rw [List.map_cons, List.map_cons, ih, r.1]
end Sw
namespace Sw
open PySem PySem.Spec PyProof.Rows L2
end Sw
namespace PySem
open Sem (wp)
section
variable {prog : Program} {w : World} {h₀ : Heap}
mutual
theorem sw_reprK : ∀ {v : Value} {d : PyData} {as : List Addr}, Reads h₀ v d as → d.showable = true → (∀ b ∈ as, (∃ o, h₀.get? b = some o ∧ o.cls = .type "dict") → b ≠ sysModules) → d.shown.length ≤ sizeLine → ∃ bs, ReadAtMost h₀ d.depth bs ∧ ReprK prog w bs h₀ d.depth v d.shown
  | _, _, _, .none, _, _, _ => ⟨[], (fun _ h => nomatch h), by simp only [PyData.shown]; exact .of_is ReprIs.none _ _ _⟩
  | _, _, _, .bool b, _, _, _ => ⟨[], (fun _ h => nomatch h), by simp only [PyData.shown]; exact .of_is (ReprIs.bool b) _ _ _⟩
  | _, _, _, .int i t, hs, _, _ => ⟨[], (fun _ h => nomatch h), by simp only [PyData.shown]; exact .of_is (ReprIs.int t (by simpa [PyData.showable] using hs)) _ _ _⟩
  | _, _, _, .str x t, _, _, hz => ⟨[], (fun _ h => nomatch h), by simp only [PyData.shown]; exact .of_is (ReprIs.str x t (by simpa only [PyData.shown] using hz)) _ _ _⟩
  | _, _, _, .list (a := a) (vs := vs) (xs := xs) h1 h2 h3 h4, hs, hsm, hz => by
    have hz' : (listText (PyData.shownAll xs)).length ≤ sizeLine := by simpa only [PyData.shown] using hz
    obtain ⟨bs, hb, hk⟩ := sw_reprAllK h4 (by simpa [PyData.showable] using hs) (fun b hm => hsm b (List.mem_cons_of_mem _ hm)) (fun t ht => Nat.le_trans (listText_mem_le ht) hz')
    have r : Reads h₀ (.ref a) (.list xs) _ := .list h1 h2 h3 h4
    have hna : a ∉ bs := not_mem_of_deeper r (by simp only [PyData.depth]; omega) hb
    refine ⟨a :: bs, ReadAtMost.cons r (by simp only [PyData.depth]; omega) hb, ?_⟩
    simp only [PyData.depth, PyData.shown]
    obtain ⟨l⟩ := vs
    cases l with
    | nil =>
      have h4' : ReadsAll h₀ [] xs _ := h4
      cases h4'
      simp only [PyData.shownAll, listText_nil]
      exact ReprK.listEmpty h1 h2 h3
    | cons x l => exact ReprK.list h1 h2 h3 hna (by simpa using hk.length_eq) (fun i y e => hk.item i y (by simpa using e))
  | _, _, _, .tuple (a := a) (xs := xs) h1 h2 h3 h4, hs, hsm, hz => by
    have hz' : (tupleText (PyData.shownAll xs)).length ≤ sizeLine := by simpa only [PyData.shown] using hz
    obtain ⟨bs, hb, hk⟩ := sw_reprAllK h4 (by simpa [PyData.showable] using hs) (fun b hm => hsm b hm) (fun t ht => Nat.le_trans (tupleText_mem_le ht) hz')
    have r : Reads h₀ (.ref a) (.tuple xs) _ := .tuple h1 h2 h3 h4
    have hna : a ∉ bs := not_mem_of_deeper r (by simp only [PyData.depth]; omega) hb
    refine ⟨a :: bs, ReadAtMost.cons r (by simp only [PyData.depth]; omega) hb, ?_⟩
    simp only [PyData.depth, PyData.shown]
    exact ReprK.tuple h1 h2 h3 hna hk
  | _, _, _, .dict (a := a) (es := es) (kvs := kvs) (as := as₁) (bs := bs₁) h1 h2 h3 h4 h5, hs, hsm, hz => by
    have hz' : (dictText (PyData.shownKv kvs)).length ≤ sizeLine := by simpa only [PyData.shown] using hz
    obtain ⟨hs1, hs2⟩ := PyData.showableKv_split kvs (by simpa [PyData.showable] using hs)
    obtain ⟨b1, hb1, k1⟩ := sw_reprAllK h4 hs1 (fun b hm => hsm b (List.mem_cons_of_mem _ (List.mem_append_left _ hm))) (fun t ht => let ⟨p, hp, hl⟩ := PyData.shownKv_key_le kvs t ht; Nat.le_trans hl (Nat.le_trans (dictText_mem_le hp) hz'))
    obtain ⟨b2, hb2, k2⟩ := sw_reprAllK h5 hs2 (fun b hm => hsm b (List.mem_cons_of_mem _ (List.mem_append_right _ hm))) (fun t ht => let ⟨p, hp, hl⟩ := PyData.shownKv_val_le kvs t ht; Nat.le_trans hl (Nat.le_trans (dictText_mem_le hp) hz'))
    have r : Reads h₀ (.ref a) (.dict kvs) _ := .dict h1 h2 h3 h4 h5
    have hb : ReadAtMost h₀ (PyData.depthKv kvs) (b1 ++ b2) := (hb1.mono (PyData.depthAll_keys_le kvs)).append (hb2.mono (PyData.depthAll_vals_le kvs))
    have hna : a ∉ b1 ++ b2 := not_mem_of_deeper r (by simp only [PyData.depth]; omega) hb
    have hsys : (a == sysModules) = false := beq_eq_false_iff_ne.mpr (hsm a (List.mem_cons_self ..) ⟨_, h1, h2⟩)
    refine ⟨a :: (b1 ++ b2), ReadAtMost.cons r (by simp only [PyData.depth]; omega) hb, ?_⟩
    simp only [PyData.depth, PyData.shown, PyData.shownKv_eq]
    exact ReprK.dict h1 h2 h3 hsys hna (ReprEntriesK.of_two es.toList _ _
      (k1.more_le (fun b hb => List.mem_append_left _ hb) (PyData.depthAll_keys_le kvs)) (k2.more_le (fun b hb => List.mem_append_right _ hb) (PyData.depthAll_vals_le kvs)))
theorem sw_reprAllK : ∀ {vs : List Value} {ds : List PyData} {as : List Addr}, ReadsAll h₀ vs ds as → PyData.showableAll ds = true → (∀ b ∈ as, (∃ o, h₀.get? b = some o ∧ o.cls = .type "dict") → b ≠ sysModules) → (∀ t ∈ PyData.shownAll ds, t.length ≤ sizeLine) →
    ∃ bs, ReadAtMost h₀ (PyData.depthAll ds) bs ∧ ReprAllK prog w bs h₀ (PyData.depthAll ds) vs (PyData.shownAll ds)
  | _, _, _, .nil, _, _, _ => ⟨[], (fun _ h => nomatch h), by simp only [PyData.shownAll]; exact .nil⟩
  | _, _, _, .cons (d := d) (ds := ds) r rs, hs, hsm, hz => by
    have hs' : d.showable = true ∧ PyData.showableAll ds = true := by simpa [PyData.showableAll] using hs
    obtain ⟨b1, hb1, k1⟩ := sw_reprK r hs'.1 (fun b hm => hsm b (List.mem_append_left _ hm)) (hz _ (by simp only [PyData.shownAll]; exact List.mem_cons_self ..))
    obtain ⟨b2, hb2, k2⟩ := sw_reprAllK rs hs'.2 (fun b hm => hsm b (List.mem_append_right _ hm)) (fun t ht => hz t (by simp only [PyData.shownAll]; exact List.mem_cons_of_mem _ ht))
    refine ⟨b1 ++ b2, ?_, ?_⟩
    · intro b hm
      simp only [PyData.depthAll]
      rcases List.mem_append.mp hm with hm | hm
      · obtain ⟨d', as', r', hd'⟩ := hb1 b hm
        exact ⟨d', as', r', Nat.le_trans hd' (Nat.le_max_left _ _)⟩
      · obtain ⟨d', as', r', hd'⟩ := hb2 b hm
        exact ⟨d', as', r', Nat.le_trans hd' (Nat.le_max_right _ _)⟩
    · simp only [PyData.depthAll, PyData.shownAll]
      exact .cons ((k1.more fun b hb => List.mem_append_left _ hb).level_le (Nat.le_max_left _ _)) (k2.more_le (fun b hb => List.mem_append_right _ hb) (Nat.le_max_right _ _))
end
end
section
variable {prog : Program} {w : World} {h₀ : Heap} {a : Addr} {d : PyData} {as : List Addr}
theorem sw_showsBy (r : Reads h₀ (.ref a) d as) (hs : d.showable = true) (hsm : ∀ b ∈ as, (∃ o, h₀.get? b = some o ∧ o.cls = .type "dict") → b ≠ sysModules)
    (hsz : d.shown.length ≤ sizeLine := by size_fits) : ∃ T idr, ShowsBy prog w h₀ a d T idr := by
  cases r with
  | list h1 h2 h3 h4 =>
    rename_i o vs n xs bs₀
    have hz' : (listText (PyData.shownAll xs)).length ≤ sizeLine := by simpa only [PyData.shown] using hsz
    obtain ⟨bs, hb, hk⟩ := sw_reprAllK (prog := prog) (w := w) h4 (by simpa [PyData.showable] using hs) (fun b hm => hsm b (List.mem_cons_of_mem _ hm)) (fun t ht => Nat.le_trans (listText_mem_le ht) hz')
    have hna : a ∉ bs := not_mem_of_deeper (.list h1 h2 h3 h4) (by simp only [PyData.depth]; omega) hb
    refine ⟨"list", "list.__repr__", F.slot_list_repr.toG, F.slot_list_str, F.slot_list_format, fun s hk0 => ⟨o, hk0 _ _ h1, h2⟩, fun A E s Q hg hu hk0 hQ => ?_⟩
    simp only [PyData.depth] at hu
    simp only [PyData.shown] at hQ
    obtain ⟨l⟩ := vs
    cases l with
    | nil =>
      have h4' : ReadsAll h₀ [] xs _ := h4
      cases h4'
      simp only [PyData.shownAll, listText_nil] at hQ
      exact call_list_repr_empty ⟨o, hk0 _ _ h1, h2⟩ (hk0 _ _ h1) h3 (hQ s.heap _ _ fun _ _ e => e)
    | cons x l =>
      exact call_list_reprK h1 h2 h3 hna (by simpa using hk.length_eq) (fun i y e => hk.item i y (by simpa using e)) hg (fun b _ => Clear.nil b) hu hk0 hQ hz'
  | tuple h1 h2 h3 h4 =>
    rename_i o vs n xs
    have hz' : (tupleText (PyData.shownAll xs)).length ≤ sizeLine := by simpa only [PyData.shown] using hsz
    obtain ⟨bs, hb, hk⟩ := sw_reprAllK (prog := prog) (w := w) h4 (by simpa [PyData.showable] using hs) (fun b hm => hsm b hm) (fun t ht => Nat.le_trans (tupleText_mem_le ht) hz')
    have hna : a ∉ bs := not_mem_of_deeper (.tuple h1 h2 h3 h4) (by simp only [PyData.depth]; omega) hb
    refine ⟨"tuple", "tuple.__repr__", F.slot_tuple_repr, F.slot_tuple_str, F.slot_tuple_format, fun s hk0 => ⟨o, hk0 _ _ h1, h2⟩, fun A E s Q hg hu hk0 hQ => ?_⟩
    simp only [PyData.depth] at hu
    simp only [PyData.shown] at hQ
    exact call_tuple_reprK h1 h2 h3 hna hk hg (fun b _ => Clear.nil b) hu hk0 hQ hz'
  | dict h1 h2 h3 h4 h5 =>
    rename_i o es n kvs as₁ bs₁
    have hz' : (dictText (PyData.shownKv kvs)).length ≤ sizeLine := by simpa only [PyData.shown] using hsz
    obtain ⟨hs1, hs2⟩ := PyData.showableKv_split kvs (by simpa [PyData.showable] using hs)
    obtain ⟨b1, hb1, k1⟩ := sw_reprAllK (prog := prog) (w := w) h4 hs1 (fun b hm => hsm b (List.mem_cons_of_mem _ (List.mem_append_left _ hm))) (fun t ht => let ⟨p, hp, hl⟩ := PyData.shownKv_key_le kvs t ht; Nat.le_trans hl (Nat.le_trans (dictText_mem_le hp) hz'))
    obtain ⟨b2, hb2, k2⟩ := sw_reprAllK (prog := prog) (w := w) h5 hs2 (fun b hm => hsm b (List.mem_cons_of_mem _ (List.mem_append_right _ hm))) (fun t ht => let ⟨p, hp, hl⟩ := PyData.shownKv_val_le kvs t ht; Nat.le_trans hl (Nat.le_trans (dictText_mem_le hp) hz'))
    have hb : ReadAtMost h₀ (PyData.depthKv kvs) (b1 ++ b2) := (hb1.mono (PyData.depthAll_keys_le kvs)).append (hb2.mono (PyData.depthAll_vals_le kvs))
    have hna : a ∉ b1 ++ b2 := not_mem_of_deeper (.dict h1 h2 h3 h4 h5) (by simp only [PyData.depth]; omega) hb
    have hsys : (a == sysModules) = false := beq_eq_false_iff_ne.mpr (hsm a (List.mem_cons_self ..) ⟨_, h1, h2⟩)
    refine ⟨"dict", "dict.__repr__", F.slot_dict_repr, F.slot_dict_str, F.slot_dict_format, fun s hk0 => ⟨o, hk0 _ _ h1, h2⟩, fun A E s Q hg hu hk0 hQ => ?_⟩
    simp only [PyData.depth] at hu
    simp only [PyData.shown, PyData.shownKv_eq] at hQ
    exact call_dict_reprK h1 h2 h3 hsys hna (ReprEntriesK.of_two es.toList _ _
      (k1.more_le (fun b hb => List.mem_append_left _ hb) (PyData.depthAll_keys_le kvs)) (k2.more_le (fun b hb => List.mem_append_right _ hb) (PyData.depthAll_vals_le kvs))) hg (fun b _ => Clear.nil b) hu hk0 hQ (by rw [← PyData.shownKv_eq]; exact hz')
variable {A : Around} {E : Value → Shared → Prop} {s : Shared} {Q : Value → Shared → Prop}
theorem sw_repr (r : Reads h₀ (.ref a) d as) (hs : d.showable = true) (hsm : ∀ b ∈ as, (∃ o, h₀.get? b = some o ∧ o.cls = .type "dict") → b ≠ sysModules) (hg : A.guards = some []) (hu : A.units + (d.depth + 1) < cLine) (hk0 : ∀ b o, h₀.get? b = some o → s.heap.get? b = some o)
    (hQ : ∀ h' u tk, (∀ b o, s.heap.get? b = some o → h'.get? b = some o) → Q (.str d.shown u) { s with heap := h', toks := tk })
    (hsz : d.shown.length ≤ sizeLine := by size_fits) : wpAny (model prog w) A (call (.builtin "repr") [.ref a]) Q E s := by
  obtain ⟨T, idr, S⟩ := sw_showsBy (prog := prog) (w := w) r hs hsm hsz
  exact call_repr_slot (by omega) (S.typeIs s hk0) S.slotRepr (S.call A.in1 E s _ hg (by show A.units + 1 + d.depth < cLine; omega) hk0 fun h' u tk hk => ⟨_, _, rfl, hQ h' u tk hk⟩)
end
end PySem
namespace Sw
open PySem PySem.Spec PyProof.Rows L2
mutual
inductive Dq (K : PySem.W.Frag) (H : Hp) : V → PyData → Prop
  | non : Dq K H .non .none
  | bl (b : Bool) : Dq K H (.bl b) (.bool b)
  | int (i : Int) : Dq K H (.int i) (.int i)
  | str (x : Str) : Dq K H (.str x) (.str x)
  | lst {a : Addr} {xs : List V} {ds : List PyData} : SqL K H a xs → DqAll K H xs ds → Dq K H (.ref a) (.list ds)
  | tup {a : Addr} {xs : List V} {ds : List PyData} : SqT K H a xs → DqAll K H xs ds → Dq K H (.ref a) (.tuple ds)
  | dic {a : Addr} {kvs : List (Key × V)} {ds : List PyData} : H a = some (.dK kvs) → DqAll K H (kvs.map (·.2)) ds → Dq K H (.ref a) (.dict ((kvs.map fun p => keyD p.1).zip ds))
inductive DqAll (K : PySem.W.Frag) (H : Hp) : List V → List PyData → Prop
  | nil : DqAll K H [] []
  | cons {v : V} {vs : List V} {d : PyData} {ds : List PyData} : Dq K H v d → DqAll K H vs ds → DqAll K H (v :: vs) (d :: ds)
end
theorem DqAll.length {K : PySem.W.Frag} {H : Hp} : ∀ {vs : List V} {ds : List PyData}, DqAll K H vs ds → vs.length = ds.length
  | [], _, h => by cases h; rfl
  | v :: vs, _, h => by
    cases h with
    | cons _ h2 => rw [List.length_cons, List.length_cons, DqAll.length h2]
section
variable {X : Cx} {pins : List (Addr × Obj)} {σ : L2.St} {H : Hp} {s : Shared}
def NoMod (h : Heap) (as : List Addr) : Prop := ∀ b ∈ as, (∃ o, h.get? b = some o ∧ o.cls = .type "dict") → b ≠ sysModules
theorem NoMod.nil {h : Heap} : NoMod h [] := fun _ hm => nomatch hm
theorem NoMod.app {h : Heap} {as bs : List Addr} (h1 : NoMod h as) (h2 : NoMod h bs) : NoMod h (as ++ bs) := fun b hm q => (List.mem_append.mp hm).elim (fun m => h1 b m q) (fun m => h2 b m q)
theorem dq_vals {P : Program} {w : World} : ∀ {kvs : List (Key × V)} {vs : List (Key × Value)} {es : List DictEntry}, KV kvs vs → Pairs (mixKind P w) es vs → Vals (kvs.map (·.2)) (es.map (·.val))
  | [], [], [], _, _ => .nil
  | p :: ps, q :: qs, e :: es, .cons r t, .cons _ h2 hp => by
    rw [List.map_cons, List.map_cons, h2]
    exact .cons r.2 (dq_vals t hp)
theorem Dq.reads (I : Inv X pins σ H s) {v : V} {d : PyData} (h : Dq X.K H v d) : ∀ u, RelV v u → ∃ as, Reads s.heap u d as ∧ NoMod s.heap as := by
  refine Dq.rec (motive_1 := fun v d _ => ∀ u, RelV v u → ∃ as, Reads s.heap u d as ∧ NoMod s.heap as) (motive_2 := fun vs ds _ => ∀ us, Vals vs us → ∃ as, ReadsAll s.heap us ds as ∧ NoMod s.heap as) ?_ ?_ ?_ ?_ ?_ ?_ ?_ ?_ ?_ h
  · intro u r
    cases r
    exact ⟨_, Reads.none, .nil⟩
  · intro b u r
    cases r
    exact ⟨_, Reads.bool b, .nil⟩
  · intro i u r
    obtain ⟨t, rfl⟩ := r
    exact ⟨_, Reads.int i t, .nil⟩
  · intro x u r
    obtain ⟨t, rfl⟩ := r
    exact ⟨_, Reads.str x t, .nil⟩
  · intro a xs ds hs _ ih u r
    cases r
    obtain ⟨its, rv, ⟨o, n, ho, hc, _, hd⟩, _⟩ := I.list hs
    obtain ⟨as, hr, hn⟩ := ih _ rv
    refine ⟨_, Reads.list ho hc hd hr, ?_⟩
    intro b hm q
    rcases List.mem_cons.mp hm with rfl | hm
    · obtain ⟨o', e1, e2⟩ := q
      rw [ho] at e1
      cases e1
      rw [hc] at e2
      exact absurd e2 (by decide)
    · exact hn b hm q
  · intro a xs ds hs _ ih u r
    cases r
    obtain ⟨its, rv, ⟨o, ho, hc, n, hd⟩, _⟩ := I.tuple hs
    obtain ⟨as, hr, hn⟩ := ih _ rv
    exact ⟨_, Reads.tuple ho hc hd hr, hn⟩
  · intro a kvs ds ea ha ih u r
    cases r
    have hx : ObjOk X.prog X.w H s.heap a (.dK kvs) := I.hok a _ ea
    obtain ⟨hz, hsm, vs, kv, o, es, ep, e1, e2, e3, e4, e5, e6⟩ := hx
    obtain ⟨as, hr, hn⟩ := ih _ (dq_vals kv e5)
    have hl := ha.length
    rw [List.length_map] at hl
    refine ⟨_, Reads.dict (o := o) (as := []) (bs := as) e1 e2.1 e3 ?_ ?_, ?_⟩
    · have := reads_keys (h := s.heap) e5
      rw [kv_keys kv] at this
      rw [List.map_fst_zip (by simp [hl])]
      exact this
    · rw [List.map_snd_zip (by simp [hl])]
      exact hr
    · intro b hm q
      have hm' : b = a ∨ b ∈ as := by simpa using hm
      rcases hm' with rfl | hm
      · intro e
        rw [e] at hsm
        simp at hsm
      · exact hn b hm q
  · intro us r
    cases r
    exact ⟨_, ReadsAll.nil, .nil⟩
  · intro v vs d ds _ _ ih1 ih2 us r
    cases r with
    | cons r1 r2 =>
      obtain ⟨as, q1, n1⟩ := ih1 _ r1
      obtain ⟨bs, q2, n2⟩ := ih2 _ r2
      exact ⟨_, ReadsAll.cons q1 q2, n1.app n2⟩
end
def qRepr (K : PySem.W.Frag) : List V → Hp → VK → Prop := fun xs H Q => ∃ v d, xs = [v] ∧ Dq K H v d ∧ d.showable = true ∧ d.depth ≤ 100 ∧ d.shown.length ≤ sizeLine ∧ Q (.str d.shown) H
theorem ka_reprQ {X : Cx} (K : PySem.W.Frag) (hgd : X.A.guards = some []) (hu : X.A.units + 120 < cLine) (hK : X.K = K := by rfl) : CallR X (.builtin "repr") (qRepr K) := by
  subst hK
  intro pins s σ H xs us Q I r h
  obtain ⟨v, d, rfl, hd, hs, hdp, hl, q⟩ := h
  cases r with
  | cons rx rr =>
    cases rr
    have kept : ∀ h' tk, (∀ b o, s.heap.get? b = some o → h'.get? b = some o) → Inv X pins σ H { s with heap := h', toks := tk } := fun h' tk k => I.kept (t' := tk) k
    have refs : ∀ {a : Addr} {u : Value}, v = .ref a → RelV v u → wpAny (model X.prog X.w) X.A (call (.builtin "repr") [u]) (EP X pins σ Q) X.xe s := fun {a u} ev ru => by
      subst ev
      obtain ⟨as, rd, hn⟩ := Dq.reads I hd u ru
      obtain rfl : u = Value.ref a := ru
      exact sw_repr rd hs hn hgd (by omega) (fun b o e => e) (fun h' u tk k => ⟨.str d.shown, H, kept h' tk k, ⟨_, rfl⟩, q⟩) hl
    cases hd with
    | non =>
      cases rx
      exact P.repr_of_none ⟨.str _, H, I.kept (t' := s.toks + 1) (fun _ _ e => e), ⟨_, rfl⟩, q⟩
    | bl b =>
      cases rx
      exact P.repr_of_bool ⟨.str _, H, I.kept (t' := s.toks + 1) (fun _ _ e => e), ⟨_, rfl⟩, q⟩
    | int i =>
      obtain ⟨t, rfl⟩ := rx
      exact P.repr_of_int (of_decide_eq_true hs) ⟨.str _, H, I.kept (t' := s.toks + 1) (fun _ _ e => e), ⟨_, rfl⟩, q⟩
    | str x =>
      obtain ⟨t, rfl⟩ := rx
      exact P.repr_of_str ⟨.str _, H, I.kept (t' := s.toks + 1) (fun _ _ e => e), ⟨_, rfl⟩, q⟩ hl
    | lst _ _ => exact refs rfl rx
    | tup _ _ => exact refs rfl rx
    | dic _ _ => exact refs rfl rx
end Sw
namespace Sw
open PySem PySem.Spec PyProof.Rows L2
theorem Dq.mono {K : PySem.W.Frag} {G H : Hp} (e : Same G H) {v : V} {d : PyData} (h : Dq K G v d) : Dq K H v d := by
  refine Dq.rec (motive_1 := fun v d _ => Dq K H v d) (motive_2 := fun vs ds _ => DqAll K H vs ds) ?_ ?_ ?_ ?_ ?_ ?_ ?_ ?_ ?_ h
  · exact .non
  · exact fun b => .bl b
  · exact fun i => .int i
  · exact fun x => .str x
  · exact fun hs _ ih => .lst (Evl.ex_l e hs) ih
  · exact fun hs _ ih => .tup (Evl.ex_t e hs) ih
  · exact fun ea _ ih => .dic (e _ _ ea) ih
  · exact .nil
  · exact fun _ _ ih1 ih2 => .cons ih1 ih2
theorem DqAll.mono {K : PySem.W.Frag} {G H : Hp} (e : Same G H) : ∀ {vs : List V} {ds : List PyData}, DqAll K G vs ds → DqAll K H vs ds
  | _, _, .nil => .nil
  | _, _, .cons h1 h2 => .cons (h1.mono e) (h2.mono e)
end Sw
namespace Sw
open PySem PySem.Spec PyProof.Rows L2
def ErrAt (G : Hp) (a C : Addr) (fs : List (Str × V)) : Prop := (fs = [] ∧ G a = some (exo a C none)) ∨ ∃ d, G a = some (exo a C (some d)) ∧ G d = some (exd d fs)
section
variable {G G' H H' : Hp} {R : Res} {K : PySem.W.Frag} {Q : VK} {E : XK} {a d C : Addr} {o u : HO} {fs : List (Str × V)} {f f1 f2 f3 : Str} {v v1 v2 v3 : V} {σ : L2.St} {te : TE} {t tk : TA}
theorem ErrAt.same (h : ErrAt G a C fs) (e : Same G G') : ErrAt G' a C fs := by
  rcases h with ⟨h1, h2⟩ | ⟨d, h1, h2⟩
  · exact .inl ⟨h1, e _ _ h2⟩
  · exact .inr ⟨d, e _ _ h1, e _ _ h2⟩
theorem g_pairs1 {P : List (V × V) → Hp → Prop} {t1 t2 : TE} {r : List (TE × TE)} (k : t1 σ H fun x H1 => t2 σ H1 fun y H2 => tPairs r σ H2 fun ps H3 => P ((x, y) :: ps) H3) : tPairs ((t1, t2) :: r) σ H P := k
theorem g_pairs0 {P : List (V × V) → Hp → Prop} (k : P [] H) : tPairs [] σ H P := k
end
theorem g_newA {G H : Hp} {R : Res} {Q : VK} (w : Wd G R H) {o : HO} {n : Nat} (hz : n ≤ sizeLine) (k : ∀ p G' H', G p = none → Same G G' → G' p = some o → Wd G' R H' → Q (.ref p) H') : n ≤ sizeLine ∧ NewO o H Q :=
  ⟨hz, fun p hp => k p _ _ (w.free hp) (Same.newG (w.free hp)) upd_same (w.new hp)⟩
theorem g_addLA {G H : Hp} {R : Res} {Q : VK} {K : PySem.W.Frag} {a b : Addr} {xs ys : List V} (w : Wd G R H) (h1 : G a = some (.lst xs)) (h2 : G b = some (.lst ys)) (hz : xs.length + ys.length ≤ sizeLine) (k : ∀ p G' H', G p = none → Same G G' → G' p = some (.lst (xs ++ ys)) → Wd G' R H' → Q (.ref p) H') : aAdd K (.ref a) (.ref b) H Q :=
  g_addL w h1 h2 hz fun p H' n w' => k p _ H' n (Same.newG n) upd_same w'
theorem g_slLA {G H : Hp} {R : Res} {Q : VK} {K : PySem.W.Frag} {a : Addr} {xs : List V} {lo hi : Option Int} (w : Wd G R H) (h : SqL K G a xs) (k : ∀ p G' H', G p = none → Same G G' → G' p = some (.lst (cutV xs lo hi)) → Wd G' R H' → Q (.ref p) H') : aSl K (.ref a) lo hi H Q :=
  g_slL w h fun p H' n w' => k p _ H' n (Same.newG n) upd_same w'
theorem Same.setL {G0 G : Hp} {l : Addr} {o : HO} (e : Same G0 G) (n : G0 l = none) : Same G0 (upd G l o) := fun b u h => by
  rw [upd_ne (ne_of_none h n)]
  exact e b u h
theorem hu120 {k : Nat} {A : Around} (h : Room k A) : A.units + 120 < cLine := by have := h.un; omega
end Sw
namespace Sw
open PySem PySem.Spec PyProof.Rows L2
section
variable {κ : Type} [DecidableEq κ]
def dcnt (ks : List κ) : Nat → Nat
  | 0 => 0
  | i + 1 => match ks[i]? with
    | some k => if k ∈ ks.take i then dcnt ks i else dcnt ks i + 1
    | none => dcnt ks i
end
def tLenSetT (K : PySem.W.Frag) (ta : TE) : TE := fun σ H Q => ta σ H fun x H1 => ∃ l, ∃ xs : List Str, x = .ref l ∧ SqT K H1 l (xs.map V.str) ∧ xs.length ≤ 20 ∧ Q (.int (dcnt xs xs.length)) H1
def rEqL0 (K : PySem.W.Frag) : R2 := fun x y H Q => ∃ a b xs, x = .ref a ∧ y = .ref b ∧ SqL K H a xs ∧ SqL K H b [] ∧ Q (.bl xs.isEmpty) H
def rNeL0 (K : PySem.W.Frag) : R2 := fun x y H Q => ∃ a b xs, x = .ref a ∧ y = .ref b ∧ SqL K H a xs ∧ SqL K H b [] ∧ Q (.bl (!xs.isEmpty)) H
theorem op_eqL0 {X : Cx} (K : PySem.W.Frag) (hu : X.A.units + 64 < cLine) (hK : X.K = K := by rfl) : OpR X (compareOp .Eq) (rEqL0 K) := by
  subst hK
  intro pins s σ H x y v u Q I rx ry h
  obtain ⟨a, b, xs, rfl, rfl, ha, hb, q⟩ := h
  cases xs with
  | nil => exact op_eqF hu pins s σ H _ _ v u Q I rx ry ⟨a, b, [], [], rfl, rfl, ha, hb, rfl, rfl, q⟩
  | cons x xs =>
    cases rx
    cases ry
    obtain ⟨i1, r1, p1, z1⟩ := I.list ha
    obtain ⟨i2, r2, p2, z2⟩ := I.list hb
    have l1 := r1.length
    have l2 := r2.length
    refine SeqAt.RcAt.lists_lengths (A := X.A) p1.isList p2.isList (by simp only [List.size_toArray]; rw [← l1, ← l2]; simp) (by omega) X.prog X.w _ _ ?_
    exact ⟨.bl _, H, I, rfl, q⟩
theorem op_neL0 {X : Cx} (K : PySem.W.Frag) (hu : X.A.units + 64 < cLine) (hK : X.K = K := by rfl) : OpR X (compareOp .NotEq) (rNeL0 K) := by
  subst hK
  intro pins s σ H x y v u Q I rx ry h
  obtain ⟨a, b, xs, rfl, rfl, ha, hb, q⟩ := h
  cases xs with
  | nil => exact op_neF hu pins s σ H _ _ v u Q I rx ry ⟨a, b, [], [], rfl, rfl, ha, hb, rfl, rfl, q⟩
  | cons x xs =>
    cases rx
    cases ry
    obtain ⟨i1, r1, p1, z1⟩ := I.list ha
    obtain ⟨i2, r2, p2, z2⟩ := I.list hb
    have l1 := r1.length
    have l2 := r2.length
    refine SeqAt.RcNeAt.lists_lengths (A := X.A) p1.isList p2.isList (by simp only [List.size_toArray]; rw [← l1, ← l2]; simp) (by omega) X.prog X.w _ _ ?_
    exact ⟨.bl _, H, I, rfl, q⟩
theorem g_eqL0 {G H : Hp} {R : Res} {K : PySem.W.Frag} {Q : VK} {a b : Addr} {xs : List V} (w : Wd G R H) (h1 : SqL K G a xs) (h2 : SqL K G b []) (k : Q (.bl xs.isEmpty) H) : rEqL0 K (.ref a) (.ref b) H Q := ⟨a, b, xs, rfl, rfl, Evl.ex_l w.sub h1, Evl.ex_l w.sub h2, k⟩
theorem g_neL0 {G H : Hp} {R : Res} {K : PySem.W.Frag} {Q : VK} {a b : Addr} {xs : List V} (w : Wd G R H) (h1 : SqL K G a xs) (h2 : SqL K G b []) (k : Q (.bl (!xs.isEmpty)) H) : rNeL0 K (.ref a) (.ref b) H Q := ⟨a, b, xs, rfl, rfl, Evl.ex_l w.sub h1, Evl.ex_l w.sub h2, k⟩
end Sw
namespace Sw
open PySem PySem.Spec PyProof.Rows L2
def tLcX (wi : TI) (g : TG) (tt : TT) (te : WX → TE) (vs : List Nat) (Wo : WX) : TE := fun σ H Q => tLc wi g tt (te fun cls d _ H' => Wo cls d σ H') vs σ H Q
end Sw
namespace Sw
open PySem PySem.Spec PyProof.Rows L2
def rLenSet (K : PySem.W.Frag) : V → Hp → VK → Prop := fun x H Q => ∃ l, ∃ xs : List Str, x = .ref l ∧ SqT K H l (xs.map V.str) ∧ xs.length ≤ 20 ∧ Q (.int (dcnt xs xs.length)) H
section
variable {σ : L2.St} {H : Hp} {Q : VK} {D : Ends} {G : Hp} {R : Res} {td ty tv te : TE} {t tk : TA} {C : Addr} {n m : Nat} {sp : SpC} {W : WX} {K : PySem.W.Frag}
def MkI (sp : SpC) (C : Addr) (vs zs : List V) (H : Hp) (Q : VK) (E : XK) : Prop := ∀ x dx, H x = none → H dx = none → dx ≠ x → sp (.ref x :: vs) zs (upd (upd H dx (.own x)) x (.ins C dx [])) (fun v H3 => v = .non ∧ Q (.ref x) H3) E
theorem g_js1 {tx : TE} {ts : List TE} {acc : Str} {P : Str → Hp → Prop} (k : tx σ H fun x H1 => ∃ y : Str, x = .str y ∧ (acc ++ y).length ≤ sizeLine ∧ tJs ts (acc ++ y) σ H1 P) : tJs (tx :: ts) acc σ H P := k
theorem g_js0 {acc : Str} {P : Str → Hp → Prop} (k : P acc H) : tJs [] acc σ H P := k
theorem g_fmt {tx : TE} (k : tx σ H fun x H1 => (∃ y : Str, x = .str y ∧ y.length ≤ sizeLine ∧ Q (.str y) H1) ∨ ∃ i : Int, x = .int i ∧ i.natAbs.log2 < 1920 ∧ Q (.str (toString i)) H1) : tFmt tx σ H Q := k
theorem g_tLenSet {ta : TE} (k : ta σ H fun x H1 => rLenSet K x H1 Q) : tLenSetT K ta σ H Q := k
theorem g_dput (k : tv σ H fun v H1 => td σ H1 fun x H2 => ty σ H2 fun y H3 => ∃ a H4, x = .ref a ∧ DPut H3 a y v H4 ∧ D.nx σ H4) : sDPut td ty tv D σ H := k
theorem g_mkV (k : t σ H fun vs H1 => tk σ H1 fun zs H2 => n ≤ vs.length ∧ zs.length = m ∧ MkI sp C vs zs H2 Q (WE W σ)) : tMkV C n m sp W t tk σ H Q := k
theorem g_mkV1 (k : te σ H fun y H1 => ∃ a xs, y = V.ref a ∧ (SqT K H1 a xs ∨ SqL K H1 a xs) ∧ n ≤ xs.length ∧ MkI sp C xs [] H1 Q (WE W σ)) : tMkV1 K C n sp W te σ H Q := k
end
def InW (J1 : It) (g1 : TG) (tt1 : TT) (te : TE) (vs1 : List Nat) (σ2 : L2.St) (D : Addr) (Nx : Hp → Prop) (H4 : Hp) : Prop := ∃ W1 : Nat → Nat → Hp → Prop, (∃ m, W1 0 m H4) ∧ ∀ j k H, W1 j k H →
  (J1.stop j H ∧ Nx H) ∨ (J1.go j H ∧ ∃ Nx1 : Hp → Prop, (∀ H', Nx1 H' → ∃ k', k' < k ∧ W1 (j + 1) k' H') ∧ ∀ x H', J1.yld j H x H' → g1 x (wipe σ2 vs1) H' fun σ3 H5 => wipe σ3 vs1 = wipe σ2 vs1 ∧ tt1 σ3 H5 fun b H6 =>
    if b = true then te σ3 H6 fun y H7 => ∃ acc, H7 D = some (.lst acc) ∧ acc.length < sizeLine ∧ Nx1 (upd H7 D (.lst (acc ++ [y]))) else Nx1 H6)
def Lc2W (J : It) (g : TG) (tt : TT) (wi1 : TI) (g1 : TG) (tt1 : TT) (te : TE) (vs vs1 : List Nat) (σ : L2.St) (Q : VK) (H1 : Hp) : Prop := ∀ D, H1 D = none → ∃ W : Nat → Nat → Hp → Prop, (∃ m, W 0 m (upd H1 D (.lst []))) ∧ ∀ i m H, W i m H →
  (J.stop i H ∧ Q (.ref D) H) ∨ (J.go i H ∧ ∃ Nx : Hp → Prop, (∀ H', Nx H' → ∃ m', m' < m ∧ W (i + 1) m' H') ∧ ∀ x H', J.yld i H x H' → g x (wipe σ vs) H' fun σ2 H2 => wipe σ2 vs = wipe σ vs ∧ tt σ2 H2 fun b H3 =>
    if b = true then wi1 σ2 H3 fun J1 H4 => InW J1 g1 tt1 te vs1 σ2 D Nx H4 else Nx H3)
theorem g_lc2L {K : PySem.W.Frag} {tl : TE} {g g1 : TG} {tt tt1 : TT} {wi1 : TI} {te : TE} {vs vs1 : List Nat} {σ : L2.St} {H : Hp} {Q : VK} (k : tl σ H fun x H1 => ∃ a, x = .ref a ∧ (∃ xs, SqL K H1 a xs) ∧ Lc2W (Itl K a) g tt wi1 g1 tt1 te vs vs1 σ Q H1) : tLc2 (iList K tl) g tt wi1 g1 tt1 te vs vs1 σ H Q := k
theorem g_iList {K : PySem.W.Frag} {tl : TE} {σ : L2.St} {H : Hp} {P : It → Hp → Prop} (k : tl σ H fun x H1 => ∃ a, x = .ref a ∧ (∃ xs, SqL K H1 a xs) ∧ P (Itl K a) H1) : iList K tl σ H P := k
theorem g_lcX {wi : TI} {g : TG} {tt : TT} {te : WX → TE} {vs : List Nat} {Wo : WX} {σ : L2.St} {H : Hp} {Q : VK} (k : tLc wi g tt (te fun cls d _ H' => Wo cls d σ H') vs σ H Q) : tLcX wi g tt te vs Wo σ H Q := k
theorem tyX_tup {K : PySem.W.Frag} {G : Hp} {p : Addr} {xs : List V} (h : SqT K G p xs) : TyX K G (.ref p) (.type "tuple") := by
  rcases h with (h | ⟨o, h⟩) | ⟨o, its, n, h, c, _⟩
  · exact .base (.tup h)
  · exact .fTuple h
  · exact .kTuple h c
theorem Paired.at {α β : Type} {F : α → β → Prop} : ∀ {xs : List α} {ys : List β}, Paired F xs ys → ∀ {i : Nat} {x : α}, xs[i]? = some x → ∃ y, ys[i]? = some y ∧ F x y
  | _, _, .nil, i, x, h => by simp at h
  | _, _, .cons r _, 0, x, h => by cases h; exact ⟨_, rfl, r⟩
  | _, _, .cons _ t, i + 1, x, h => by
    rw [List.getElem?_cons_succ] at h ⊢
    exact Paired.at t h
theorem Paired.imp {α β : Type} {F F' : α → β → Prop} (k : ∀ a b, F a b → F' a b) : ∀ {xs : List α} {ys : List β}, Paired F xs ys → Paired F' xs ys
  | _, _, .nil => .nil
  | _, _, .cons r t => .cons (k _ _ r) (Paired.imp k t)
theorem Paired.len {α β : Type} {F : α → β → Prop} : ∀ {xs : List α} {ys : List β}, Paired F xs ys → xs.length = ys.length
  | _, _, .nil => rfl
  | _, _, .cons _ t => by rw [List.length_cons, List.length_cons, Paired.len t]
theorem Paired.app {α β : Type} {F : α → β → Prop} : ∀ {xs xs' : List α} {ys ys' : List β}, Paired F xs ys → Paired F xs' ys' → Paired F (xs ++ xs') (ys ++ ys')
  | _, _, _, _, .nil, h => h
  | _, _, _, _, .cons r t, h => .cons r (Paired.app t h)
end Sw
namespace Sw
open PySem PySem.Spec PyProof.Rows L2
def SameN (G G' : Hp) : Prop := ∀ b o, G b = some o → (∀ ps, o ≠ .tbl ps) → G' b = some o
theorem SameN.of {G G' : Hp} (e : Same G G') : SameN G G' := fun b o h _ => e b o h
theorem SameN.trans {G G1 G2 : Hp} (a : SameN G G1) (b : SameN G1 G2) : SameN G G2 := fun c o h n => b c o (a c o h n) n
end Sw
namespace Sw
open PySem PySem.Spec PyProof.Rows L2
end Sw
namespace Sw
open PySem PySem.Spec PyProof.Rows L2
end Sw
namespace Sw
open PySem PySem.Spec PyProof.Rows L2
theorem none_of {K : PySem.W.Frag} {P : Addr} (h : (K.lookup P).isNone = true) : K.lookup P = none := Option.isNone_iff_eq_none.mp h
end Sw
namespace Sw
open PySem PySem.Spec PyProof.Rows L2
section
variable {K : PySem.W.Frag} {G H : Hp} {a : Addr} {xs : List V} {v : V}
theorem SameN.l (e : SameN G H) (h : SqL K G a xs) : SqL K H a xs := by
  rcases h with (h | ⟨o, h⟩) | h
  · exact .inl (.inl (e _ _ h fun _ z => nomatch z))
  · exact .inl (.inr ⟨o, e _ _ h fun _ z => nomatch z⟩)
  · exact .inr h
end
end Sw
namespace Sw
open PySem PySem.Spec PyProof.Rows L2
mutual
inductive KeyAt (H : Hp) : NestedKey → V → Prop
  | non : KeyAt H .none .non
  | bl (b : Bool) : KeyAt H (.num (if b = true then 1 else 0)) (.bl b)
  | int (i : Int) : KeyAt H (.num i) (.int i)
  | str (x : Str) : KeyAt H (.text x) (.str x)
  | tup {a : Addr} {vs : List V} {ks : List NestedKey} : H a = some (.tup vs) → KeysAt H ks vs → KeyAt H (.tup ks) (.ref a)
inductive KeysAt (H : Hp) : List NestedKey → List V → Prop
  | nil : KeysAt H [] []
  | cons {k : NestedKey} {v : V} {ks : List NestedKey} {vs : List V} : KeyAt H k v → KeysAt H ks vs → KeysAt H (k :: ks) (v :: vs)
end
mutual
theorem KeyAt.is {P : Program} {w : World} {H : Hp} {h : Heap} (ok : HOk P w H h) : ∀ (k : NestedKey) (v : V) (u : Value), KeyAt H k v → RelV v u → NestedIs h k u
  | .none, _, u, x, r => by
    cases x
    obtain rfl : u = Value.none := r
    exact .none
  | .num i, _, u, x, r => by
    cases x with
    | bl b =>
      obtain rfl : u = Value.bool b := r
      exact .bool rfl
    | int _ =>
      obtain ⟨t, rfl⟩ := (show ∃ t, u = Value.int i t from r)
      exact .int _ _
  | .text y, _, u, x, r => by
    cases x
    obtain ⟨t, rfl⟩ := (show ∃ t, u = Value.str y t from r)
    exact .text _ _
  | .tup ks, _, u, x, r => by
    cases x with
    | @tup a vs _ e z =>
      obtain rfl : u = Value.ref a := r
      obtain ⟨_, its, rv, o, h1, h2, n, h3⟩ := (show ObjOk P w H h a (.tup vs) from ok a _ e)
      exact .tup h1 h2 h3 (KeysAt.is ok ks vs its z rv)
theorem KeysAt.is {P : Program} {w : World} {H : Hp} {h : Heap} (ok : HOk P w H h) : ∀ (ks : List NestedKey) (vs : List V) (us : List Value), KeysAt H ks vs → Vals vs us → NestedAll h ks us
  | [], _, us, x, r => by
    cases x
    cases r
    exact .nil
  | k :: ks, _, us, x, r => by
    cases x with
    | cons x1 x2 =>
      cases r with
      | cons r1 r2 => exact .cons (KeyAt.is ok k _ _ x1 r1) (KeysAt.is ok ks _ _ x2 r2)
end
mutual
theorem KeyAt.same {H H' : Hp} (e : ∀ a vs, H a = some (.tup vs) → H' a = some (.tup vs)) : ∀ (k : NestedKey) (v : V), KeyAt H k v → KeyAt H' k v
  | .none, _, x => by cases x; exact .non
  | .num i, _, x => by
    cases x with
    | bl b => exact .bl b
    | int _ => exact .int _
  | .text y, _, x => by cases x; exact .str _
  | .tup ks, _, x => by
    cases x with
    | tup h z => exact .tup (e _ _ h) (KeysAt.same e ks _ z)
theorem KeysAt.same {H H' : Hp} (e : ∀ a vs, H a = some (.tup vs) → H' a = some (.tup vs)) : ∀ (ks : List NestedKey) (vs : List V), KeysAt H ks vs → KeysAt H' ks vs
  | [], _, x => by cases x; exact .nil
  | k :: ks, _, x => by
    cases x with
    | cons x1 x2 => exact .cons (KeyAt.same e k _ x1) (KeysAt.same e ks _ x2)
end
abbrev NKvs := List (NestedKey × Addr × V)
def NRel : NKvs → List (NestedKey × Addr × Value) → Prop := Paired fun p q => p.1 = q.1 ∧ p.2.1 = q.2.1 ∧ RelV p.2.2 q.2.2
def DnO (P : Program) (w : World) (a : Addr) (kvs : NKvs) : HO := .ext fun h => kvs.length ≤ sizeLine ∧ (a == sysModules) = false ∧ ∃ xs : List (NestedKey × Addr × Value), NRel kvs xs ∧
  ∃ o es ep, h.get? a = some o ∧ o.ExactDict ∧ o.data = .dict es ep ∧ es.toList = xs.map (entryOfKey (nestedKind P w)) ∧ (xs.map (·.1)).Nodup
def NKeys (H : Hp) (kvs : NKvs) : Prop := ∀ p ∈ kvs, KeyAt H p.1 (.ref p.2.1) ∧ p.1.depth ≤ 8
theorem NKeys.same {H H' : Hp} {kvs : NKvs} (h : NKeys H kvs) (e : ∀ a vs, H a = some (.tup vs) → H' a = some (.tup vs)) : NKeys H' kvs := fun p hp => ⟨KeyAt.same e _ _ (h p hp).1, (h p hp).2⟩
def valN (kvs : NKvs) (k : NestedKey) : Option V := (kvs.find? fun p => decide (p.1 = k)).map (·.2.2)
def putAtN (k : NestedKey) (v : V) (p : NestedKey × Addr × V) : NestedKey × Addr × V := if p.1 = k then (p.1, p.2.1, v) else p
def putN (kvs : NKvs) (k : NestedKey) (b : Addr) (v : V) : NKvs := if (valN kvs k).isSome then kvs.map (putAtN k v) else kvs ++ [(k, b, v)]
theorem length_putN (kvs : NKvs) (k : NestedKey) (b : Addr) (v : V) : (putN kvs k b v).length ≤ kvs.length + 1 := by
  unfold putN
  split
  · rw [List.length_map]; omega
  · rw [List.length_append]; exact Nat.le_refl _
theorem NRel.val {kvs : NKvs} {xs : List (NestedKey × Addr × Value)} (r : NRel kvs xs) (k : NestedKey) : RelO (valN kvs k) ((atKey xs k).map (·.2)) := by
  induction r with
  | nil => exact True.intro
  | @cons p q ps qs h _ ih =>
    by_cases e : p.1 = k
    · have e2 : q.1 = k := by rw [← h.1]; exact e
      unfold valN atKey
      rw [List.find?_cons_of_pos (by simpa using e), List.find?_cons_of_pos (by simpa using e2)]
      exact (show RelV p.2.2 q.2.2 from h.2.2)
    · have e2 : ¬ q.1 = k := by rw [← h.1]; exact e
      unfold valN atKey at *
      rw [List.find?_cons_of_neg (by simpa using e), List.find?_cons_of_neg (by simpa using e2)]
      exact ih
theorem NRel.isSome {kvs : NKvs} {xs : List (NestedKey × Addr × Value)} (r : NRel kvs xs) (k : NestedKey) : (valN kvs k).isSome = (atKey xs k).isSome := by
  have := (r.val k).isSome_eq
  rw [Option.isSome_map] at this
  exact this
theorem NRel.repl {kvs : NKvs} {xs : List (NestedKey × Addr × Value)} (r : NRel kvs xs) (k : NestedKey) {v : V} {u : Value} (rv : RelV v u) : NRel (kvs.map (putAtN k v)) (xs.map (putAt k u)) := by
  induction r with
  | nil => exact .nil
  | @cons p q ps qs h _ ih =>
    refine .cons ?_ ih
    unfold putAt putAtN
    by_cases e : p.1 = k
    · rw [if_pos e, if_pos (by rw [← h.1]; exact e)]
      exact ⟨h.1, h.2.1, rv⟩
    · rw [if_neg e, if_neg (by rw [← h.1]; exact e)]
      exact h
theorem NRel.mem {kvs : NKvs} {xs : List (NestedKey × Addr × Value)} (r : NRel kvs xs) {x : NestedKey × Addr × Value} (hx : x ∈ xs) : ∃ p ∈ kvs, p.1 = x.1 ∧ p.2.1 = x.2.1 := by
  induction r with
  | nil => exact nomatch hx
  | @cons p q ps qs h _ ih =>
    rcases List.mem_cons.mp hx with rfl | hx
    · exact ⟨p, List.mem_cons_self, h.1, h.2.1⟩
    · obtain ⟨p', h1, h2⟩ := ih hx
      exact ⟨p', List.mem_cons_of_mem _ h1, h2⟩
theorem NRel.put {kvs : NKvs} {xs : List (NestedKey × Addr × Value)} (r : NRel kvs xs) (k : NestedKey) (b : Addr) {v : V} {u : Value} (rv : RelV v u) : NRel (putN kvs k b v) (storedH xs k b u) := by
  unfold putN storedH
  rw [r.isSome k]
  split
  · exact r.repl k rv
  · exact Paired.snoc r ⟨rfl, rfl, rv⟩
theorem NKeys.put {H : Hp} {kvs : NKvs} {k : NestedKey} {b : Addr} {v : V} (h : NKeys H kvs) (hk : KeyAt H k (.ref b)) (hd : k.depth ≤ 8) : NKeys H (putN kvs k b v) := fun p hp => by
  unfold putN at hp
  split at hp
  · obtain ⟨q, hq, rfl⟩ := List.mem_map.mp hp
    unfold putAtN
    by_cases e : q.1 = k
    · rw [if_pos e]
      exact h q hq
    · rw [if_neg e]
      exact h q hq
  · rcases List.mem_append.mp hp with hp | hp
    · exact h p hp
    · rw [List.mem_singleton.mp hp]
      exact ⟨hk, hd⟩
section
variable {P : Program} {w : World} {H : Hp} {h : Heap} {a b : Addr} {kvs : NKvs} {k : NestedKey}
theorem dn_of (ok : HOk P w H h) (e : H a = some (DnO P w a kvs)) (kk : NKeys H kvs) : kvs.length ≤ sizeLine ∧ (a == sysModules) = false ∧ ∃ xs, NRel kvs xs ∧ h.DictOfH (nestedKind P w) a xs := by
  obtain ⟨⟨z, y, xs, r, o, es, ep, h1, h2, h3, h4, h5⟩, _⟩ := (show ObjOk P w H h a (DnO P w a kvs) from ok a _ e)
  refine ⟨z, y, xs, r, o, es, ep, h1, h2, h3, h4, fun x hx => ?_, h5⟩
  obtain ⟨p, hp, e1, e2⟩ := r.mem hx
  obtain ⟨c1, c2⟩ := kk p hp
  rw [e1, e2] at c1
  rw [e1] at c2
  exact ⟨KeyAt.is ok _ _ _ c1 rfl, c2⟩
theorem dn_new (z : kvs.length ≤ sizeLine) (y : (a == sysModules) = false) {xs : List (NestedKey × Addr × Value)} (r : NRel kvs xs) (d : h.DictOfH (nestedKind P w) a xs) : ObjOk P w H h a (DnO P w a kvs) := by
  obtain ⟨o, es, ep, h1, h2, h3, h4, _, h5⟩ := d
  exact ⟨⟨z, y, xs, r, o, es, ep, h1, h2, h3, h4, h5⟩, ⟨o, h1⟩, fun h1' h2' ⟨z, y, xs, r, o, es, ep, g1, g2⟩ k => ⟨z, y, xs, r, o, es, ep, k _ g1, g2⟩⟩
end
section
variable {X : Cx}
def rInNk (P : Program) (w : World) (f : Bool → Bool) : R2 := fun x y H Q => ∃ a kvs k b, y = .ref a ∧ x = .ref b ∧ H a = some (DnO P w a kvs) ∧ NKeys H kvs ∧ KeyAt H k (.ref b) ∧ k.depth ≤ 8 ∧ Q (.bl (f (valN kvs k).isSome)) H
theorem op_niNk (hu : X.A.units + 16 < cLine) : OpR X (compareOp .NotIn) (rInNk X.prog X.w not) := by
  intro pins s σ H x y v u Q I rx ry h
  obtain ⟨a, kvs, k, b, rfl, rfl, e, kk, hk, hd, q⟩ := h
  obtain rfl : u = Value.ref a := ry
  obtain rfl : v = Value.ref b := rx
  obtain ⟨z, sy, xs, r, d⟩ := dn_of I.hok e kk
  show wpAny _ _ (do return Value.bool (!(← contains (.ref a) (.ref b)))) _ _ s
  refine wpAny_bind (wpAny_contains_heap (knd := nestedKind X.prog X.w) (k := k) (show X.A.in1.units + 8 < cLine from (by show X.A.units + 1 + 8 < _; omega)) ⟨KeyAt.is I.hok _ _ _ hk rfl, hd⟩ sy d (wpAny_pure ?_))
  rw [← r.isSome k]
  exact ⟨.bl (!(valN kvs k).isSome), H, I.tok _, rfl, q⟩
def rIxN (P : Program) (w : World) : R2 := fun x y H Q => ∃ a kvs k b v, x = .ref a ∧ y = .ref b ∧ H a = some (DnO P w a kvs) ∧ NKeys H kvs ∧ KeyAt H k (.ref b) ∧ k.depth ≤ 8 ∧ valN kvs k = some v ∧ Q v H
theorem op_ixN (hu : X.A.units + 16 < cLine) : OpR X getItem (rIxN X.prog X.w) := by
  intro pins s σ H x y v u Q I rx ry h
  obtain ⟨a, kvs, k, b, v', rfl, rfl, e, kk, hk, hd, hv, q⟩ := h
  obtain rfl : v = Value.ref a := rx
  obtain rfl : u = Value.ref b := ry
  obtain ⟨z, sy, xs, r, d⟩ := dn_of I.hok e kk
  obtain ⟨w', hw, rw'⟩ := RelO.some_of (v := v') (o := (atKey xs k).map (·.2)) (by rw [← hv]; exact r.val k)
  obtain ⟨p, hp, hp2⟩ := Option.map_eq_some_iff.mp hw
  refine wpAny_getItem_heap (knd := nestedKind X.prog X.w) (k := k) (show X.A.in1.units + 8 < cLine from (by show X.A.units + 1 + 8 < _; omega)) ⟨KeyAt.is I.hok _ _ _ hk rfl, hd⟩ d hp ?_
  rw [hp2]
  exact ⟨_, H, I.tok _, rw', q⟩
def rSetN (P : Program) (w : World) : TSet := fun o i v H Q => ∃ a kvs k b, o = .ref a ∧ i = .ref b ∧ H a = some (DnO P w a kvs) ∧ NKeys H kvs ∧ KeyAt H k (.ref b) ∧ k.depth ≤ 8 ∧ kvs.length < sizeLine ∧ Q (upd H a (DnO P w a (putN kvs k b v)))
theorem set_N (hu : X.A.units + 16 < cLine) : PSet X (rSetN X.prog X.w) := by
  intro pins s σ H o i v ov iv u Q I ro ri rv h
  obtain ⟨a, kvs, k, b, rfl, rfl, e, kk, hk, hd, hl, q⟩ := h
  obtain rfl : ov = Value.ref a := ro
  obtain rfl : iv = Value.ref b := ri
  obtain ⟨z, sy, xs, r, d⟩ := dn_of I.hok e kk
  have lx : xs.length = kvs.length := (Paired.length r).symm
  refine wpAny_setItem_heap (knd := nestedKind X.prog X.w) (k := k) (hsz := by omega) (show X.A.in1.units + 8 < cLine from (by show X.A.units + 1 + 8 < _; omega)) ⟨KeyAt.is I.hok _ _ _ hk rfl, hd⟩ d fun h' d' hs => ?_
  refine ⟨_, ?_, q⟩
  have ex : ∃ q, h'.get? a = some q := by
    obtain ⟨o, _, _, h1, _⟩ := d'
    exact ⟨o, h1⟩
  exact d_write I (by rw [e]; exact True.intro) hs ex (dn_new (Nat.le_trans (length_putN ..) (by omega)) sy (r.put k b rv) d')
def rGetN (P : Program) (w : World) : V → List V → Hp → VK → Prop := fun x xs H Q => ∃ a kvs k b v, x = .ref a ∧ xs = [.ref b, v] ∧ H a = some (DnO P w a kvs) ∧ NKeys H kvs ∧ KeyAt H k (.ref b) ∧ k.depth ≤ 8 ∧ Q ((valN kvs k).getD v) H
theorem mt_getN (hu : X.A.units + 16 < cLine) : MtR X "dict.get" (rGetN X.prog X.w) := by
  intro pins s σ H x xs v us Q I rx rs h
  obtain ⟨a, kvs, k, b, v', rfl, rfl, e, kk, hk, hd, q⟩ := h
  obtain rfl : v = Value.ref a := rx
  match us, rs with
  | [ub, uv], .cons rb (.cons ru .nil) =>
    obtain rfl : ub = Value.ref b := rb
    obtain ⟨z, sy, ys, r, d⟩ := dn_of I.hok e kk
    refine call_meetsIn PySem.F.slot_dict_get d.typeIs PySem.F.entry_dict_get (PySem.F.args_dict_get_3 _ _ _) (meetsH_dict_get_default (nestedKind X.prog X.w) a b sy uv) ⟨(show X.A.in1.units + 8 < cLine from (by show X.A.units + 1 + 8 < _; omega)), k, ys, ⟨KeyAt.is I.hok _ _ _ hk rfl, hd⟩, d, ?_⟩
    refine ⟨_, H, I.tok _, ?_, q⟩
    have := r.val k
    cases h1 : valN kvs k with
    | none =>
      rw [h1] at this
      rw [RelO.none_of this]
      exact ru
    | some v1 =>
      rw [h1] at this
      obtain ⟨u1, h2, h3⟩ := RelO.some_of this
      rw [h2]
      exact h3
def rSdN (P : Program) (w : World) : V → List V → Hp → VK → Prop := fun x xs H Q => ∃ a kvs k b v, x = .ref a ∧ xs = [.ref b, v] ∧ H a = some (DnO P w a kvs) ∧ NKeys H kvs ∧ KeyAt H k (.ref b) ∧ k.depth ≤ 8 ∧ kvs.length < sizeLine ∧
  (∀ v1, valN kvs k = some v1 → Q v1 H) ∧ (valN kvs k = none → Q v (upd H a (DnO P w a (putN kvs k b v))))
theorem mt_sdN (hu : X.A.units + 16 < cLine) : MtR X "dict.setdefault" (rSdN X.prog X.w) := by
  intro pins s σ H x xs v us Q I rx rs h
  obtain ⟨a, kvs, k, b, v', rfl, rfl, e, kk, hk, hd, hl, q1, q2⟩ := h
  obtain rfl : v = Value.ref a := rx
  match us, rs with
  | [ub, uv], .cons rb (.cons ru .nil) =>
    obtain rfl : ub = Value.ref b := rb
    obtain ⟨z, sy, ys, r, d⟩ := dn_of I.hok e kk
    have lx : ys.length = kvs.length := (Paired.length r).symm
    refine call_setdefault_heap (knd := nestedKind X.prog X.w) (k := k) (hsz := by omega) (show X.A.in1.units + 8 < cLine from (by show X.A.units + 1 + 8 < _; omega)) ⟨KeyAt.is I.hok _ _ _ hk rfl, hd⟩ sy d (fun p hp => ?_) fun hn h' d' hs => ?_
    · have := r.val k
      rw [hp] at this
      cases h1 : valN kvs k with
      | none => rw [h1] at this; exact this.elim
      | some v1 =>
        rw [h1] at this
        exact ⟨v1, H, I.tok _, this, q1 v1 h1⟩
    · have hv : valN kvs k = none := by
        cases h1 : valN kvs k with
        | none => rfl
        | some v1 =>
          have := r.isSome k
          rw [h1, hn] at this
          cases this
      have ex : ∃ q, h'.get? a = some q := by
        obtain ⟨o, _, _, h1, _⟩ := d'
        exact ⟨o, h1⟩
      exact ⟨v', _, d_write I (by rw [e]; exact True.intro) hs ex (dn_new (Nat.le_trans (length_putN ..) (by omega)) sy (r.put k b ru) d'), ru, q2 hv⟩
theorem dn_empty {P : Program} {w : World} {H : Hp} (h : Heap) (hb : sysModules < h.objs.size) : ObjOk P w H (h.push { cls := .type "dict", data := .dict #[] }) h.objs.size (DnO P w h.objs.size []) :=
  dn_new (Nat.zero_le _) (by simpa using Nat.ne_of_gt hb) .nil (Heap.DictOfH.new h)
end
end Sw
namespace Sw
open PySem PySem.Spec PyProof.Rows L2
def allN (ps : NKvs) (acc : NKvs) : NKvs := ps.foldl (fun acc p => putN acc p.1 p.2.1 p.2.2) acc
theorem length_allN : ∀ (ps acc : NKvs), (allN ps acc).length ≤ acc.length + ps.length
  | [], acc => Nat.le_refl _
  | p :: ps, acc => by
    have h1 := length_allN ps (putN acc p.1 p.2.1 p.2.2)
    have h2 := length_putN acc p.1 p.2.1 p.2.2
    show (allN ps (putN acc p.1 p.2.1 p.2.2)).length ≤ _
    rw [List.length_cons]
    omega
theorem NKeys.all {H : Hp} : ∀ {ps acc : NKvs}, NKeys H ps → NKeys H acc → NKeys H (allN ps acc)
  | [], acc, _, h => h
  | p :: ps, acc, hp, h => by
    have h1 := hp p List.mem_cons_self
    exact NKeys.all (ps := ps) (acc := putN acc p.1 p.2.1 p.2.2) (fun q hq => hp q (List.mem_cons_of_mem _ hq)) (h.put h1.1 h1.2)
theorem NRel.all {ps : NKvs} {xs : List (NestedKey × Addr × Value)} (r : NRel ps xs) : ∀ {acc : NKvs} {ys : List (NestedKey × Addr × Value)}, NRel acc ys → NRel (allN ps acc) (storedAllH ys xs) := by
  induction r with
  | nil => exact fun h => h
  | @cons p q ps qs h _ ih =>
    intro acc ys ha
    have := ha.put q.1 q.2.1 h.2.2
    rw [← h.1, ← h.2.1] at this
    show NRel (allN ps (putN acc p.1 p.2.1 p.2.2)) (storedAllH (storedH ys q.1 q.2.1 q.2.2) qs)
    rw [← h.1, ← h.2.1]
    exact ih this
def PairsAt (H : Hp) (vs : List V) (ps : NKvs) : Prop := Paired (fun v p => ∃ t, v = .ref t ∧ H t = some (.tup [.ref p.2.1, p.2.2])) vs ps
def rDictN (P : Program) (w : World) : List V → Hp → VK → Prop := fun xs H Q => ∃ l vs ps, xs = [.ref l] ∧ H l = some (.lst vs) ∧ PairsAt H vs ps ∧ NKeys H ps ∧ ∀ d, H d = none → Q (.ref d) (upd H d (DnO P w d (allN ps [])))
theorem pairs_of {P : Program} {w : World} {H : Hp} {h : Heap} (ok : HOk P w H h) {vs : List V} {ps : NKvs} (r : PairsAt H vs ps) : ∀ {its : List Value}, Vals vs its → ∃ (Ts : List Addr) (xs : List (NestedKey × Addr × Value)), its = Ts.map Value.ref ∧ NRel ps xs ∧ Ts.length = xs.length ∧ ∀ (j : Nat) (t : Addr) (x : NestedKey × Addr × Value), Ts[j]? = some t → xs[j]? = some x → PySem.Heap.IsTuple h t #[.ref x.2.1, x.2.2] := by
  induction r with
  | nil =>
    intro its rv
    cases rv
    exact ⟨[], [], rfl, .nil, rfl, fun j t x h => by simp at h⟩
  | @cons v p vs ps h _ ih =>
    intro its rv
    cases rv with
    | @cons _ u _ us r1 r2 =>
      obtain ⟨t, rfl, ht⟩ := h
      obtain rfl : u = Value.ref t := r1
      obtain ⟨Ts, xs, rfl, hr, hl, hT⟩ := ih r2
      obtain ⟨_, is2, rv2, o, h1, h2, n, h3⟩ := (show ObjOk P w H h t (.tup [.ref p.2.1, p.2.2]) from ok t _ ht)
      cases rv2 with
      | @cons _ k _ _ k1 k2 =>
        cases k2 with
        | @cons _ z _ _ z1 z2 =>
          cases z2
          obtain rfl : k = Value.ref p.2.1 := k1
          refine ⟨t :: Ts, (p.1, p.2.1, z) :: xs, rfl, .cons ⟨rfl, rfl, z1⟩ hr, by rw [List.length_cons, List.length_cons, hl], fun j t' x e1 e2 => ?_⟩
          cases j with
          | zero =>
            rw [List.getElem?_cons_zero] at e1 e2
            cases e1
            cases e2
            exact ⟨o, h1, h2, n, h3⟩
          | succ j =>
            rw [List.getElem?_cons_succ] at e1 e2
            exact hT j t' x e1 e2
section
variable {X : Cx}
theorem call_dictN (hc : X.calm = true) (hu : X.A.units + 32 < cLine) : CallR X (.type "dict") (rDictN X.prog X.w) := by
  intro pins s σ H xs us Q I r h
  obtain ⟨l, vs, ps, rfl, e, hp, kk, q⟩ := h
  match us, r with
  | [u], .cons r1 .nil =>
    obtain rfl : u = Value.ref l := r1
    obtain ⟨z, its, n, rv, el⟩ := (show ObjOk X.prog X.w H s.heap l (.lst vs) from I.hok l _ e)
    obtain ⟨Ts, ys, rfl, hr, hl, hT⟩ := pairs_of I.hok hp rv
    have lp : ps.length = ys.length := Paired.length hr
    have lv : vs.length = ps.length := Paired.length hp
    let fT : Nat → Addr := fun j => (Ts[j]?).getD 0
    let pr : List (Value × Value) := ys.map fun x => (Value.ref x.2.1, x.2.2)
    have lpr : pr.length = ys.length := List.length_map _
    have hitems : PairItems s.heap (Ts.map Value.ref).toArray fT pr := by
      refine ⟨by rw [List.size_toArray, List.length_map, lpr, hl], fun j k v hj => ?_⟩
      have hj' : (ys.map fun x => (Value.ref x.2.1, x.2.2))[j]? = some (k, v) := hj
      rw [List.getElem?_map] at hj'
      obtain ⟨x, hx, ex⟩ := Option.map_eq_some_iff.mp hj'
      have hjl : j < Ts.length := by rw [hl]; exact (List.getElem?_eq_some_iff.mp hx).1
      have ht : Ts[j]? = some Ts[j] := List.getElem?_eq_getElem hjl
      have ef : fT j = Ts[j] := by show (Ts[j]?).getD 0 = _; rw [ht]; rfl
      have eh := hT j _ x ht hx
      cases ex
      refine ⟨?_, ?_⟩
      · rw [ef]
        simp [ht]
      · rw [ef]
        exact .inl eh
    refine call_dict_pairsH (knd := nestedKind X.prog X.w) (ps := ys) (PairArg.list l (Ts.map Value.ref).toArray fT pr) (I.ok.hd hc) (show X.A.in1.in1.units + 8 < cLine from (by show X.A.units + 1 + 1 + 8 < _; omega)) ⟨⟨_, n, el, rfl, rfl, rfl⟩, hitems⟩
      ⟨by rw [lpr], fun i key v hrel => ?_⟩ (fun h' hk x hx => ?_) (by rw [lpr]; omega) fun h' tk d' hk => ?_
    · have hj' : (ys.map fun x => (Value.ref x.2.1, x.2.2))[i]? = some (key, v) := hrel
      rw [List.getElem?_map] at hj'
      obtain ⟨x, hx, ex⟩ := Option.map_eq_some_iff.mp hj'
      cases ex
      exact ⟨x.1, x.2.1, hx, rfl⟩
    · obtain ⟨p, hp1, e1, e2⟩ := hr.mem hx
      obtain ⟨c1, c2⟩ := kk p hp1
      rw [e1, e2] at c1
      rw [e1] at c2
      refine ⟨NestedIs.at (fun b o ws m hb _ => hk b o (fun z => ?_) (fun z => nomatch z) hb) _ _ (KeyAt.is I.hok _ _ _ c1 rfl), c2⟩
      rw [z] at hb
      exact absurd (Heap.lt_size hb) (Nat.lt_irrefl _)
    · have hn : H s.heap.objs.size = none := I.hok.fresh (Nat.le_refl _)
      have hsys : (s.heap.objs.size == sysModules) = false := by
        have := I.big
        simpa using Nat.ne_of_gt this
      refine ⟨.ref s.heap.objs.size, _, I.laid (a := s.heap.objs.size) (o := DnO X.prog X.w s.heap.objs.size (allN ps [])) (t' := tk) (h' := h') (fun b o eb => hk b o (fun z => nomatch z) eb) (Nat.le_refl _) ?_, rfl, q _ hn⟩
      have ln := length_allN ps []
      exact dn_new (by rw [List.length_nil] at ln; omega) hsys (hr.all .nil) d'
end
end Sw
namespace Sw
open PySem PySem.Spec PyProof.Rows L2 PySem.W
theorem kdlN {P : Program} {w : World} {d : Addr} (lo : (d == sysModules) = false) (es : Array DictEntry) (ep : Nat) : KdlSrc P w "dict" d d es.size (fun i v => ∃ hi : i < es.size, v = es[i].key) (fun h => h.DictRaw d es ep) where
  type := fun _ hm => hm.typeIs
  there := fun _ ⟨_, ho, _⟩ => ⟨Heap.lt_size ho, Heap.lt_size ho⟩
  keep := fun _ _ hm hk => hm.at fun o e => hk d (.inl rfl) o e
  notList := by decide
  notTuple := by decide
  hint := fun _ _ _ _ hm hq => kdl_hint_dict hm.typeIs hq
  iter := fun _ s hh hm => ⟨_, _, (fun _ _ hq => wpAny_pyIter_dict_raw lo hm hq), Walks.rawKeys hh _ d (Nat.ne_of_lt (by obtain ⟨_, ho, _⟩ := hm; exact Heap.lt_size ho)) es ep, ⟨⟨_, Heap.get?_push_size _ rfl, rfl, rfl⟩, hm.at fun o e => Heap.get?_push_of_some _ e⟩⟩
theorem dn_raw {P : Program} {w : World} {H : Hp} {h : Heap} (ok : HOk P w H h) {a : Addr} {kvs : NKvs} (e : H a = some (DnO P w a kvs)) :
    kvs.length ≤ sizeLine ∧ (a == sysModules) = false ∧ ∃ (es : Array DictEntry) (ep : Nat), h.DictRaw a es ep ∧ es.size = kvs.length ∧ ∀ (i : Nat) (hi : i < es.size) p, kvs[i]? = some p → es[i].key = Value.ref p.2.1 := by
  obtain ⟨⟨z, y, xs, r, o, es, ep, h1, h2, h3, h4, _⟩, _⟩ := (show ObjOk P w H h a (DnO P w a kvs) from ok a _ e)
  have le : es.size = xs.length := size_of_entries h4
  have lx : kvs.length = xs.length := Paired.length r
  refine ⟨z, y, es, ep, ⟨o, h1, h2, h3⟩, by omega, fun i hi p hp => ?_⟩
  obtain ⟨q, hq, e1, e2, _⟩ := paired_get r hp
  have := entry_at h4 i
  rw [hq, Array.getElem?_eq_getElem hi] at this
  rw [Option.some.inj this, e2]
  rfl
def rSortedN (K : PySem.W.Frag) (P : Program) (w : World) : List V → Hp → VK → Prop := fun xs H Q => ∃ a kvs, ∃ bs : List (Addr × PyData), xs = [.ref a] ∧ H a = some (DnO P w a kvs) ∧ bs.map Prod.fst = kvs.map (fun p => p.2.1) ∧ (∀ b ∈ bs, Dp K H (.ref b.1) b.2 ∧ b.2.depth ≤ 8) ∧
  AllAlike (bs.map Prod.snd) ∧ Sortable (bs.map Prod.snd) ∧ ∀ p, H p = none → Q (.ref p) (upd H p (.lst ((bs.mergeSort (dataLe false Prod.snd)).map fun b => V.ref b.1)))
theorem each_refs {h : Heap} : ∀ {bs : List (Addr × PyData)}, EachIs (fun v (b : Addr × PyData) => v = Value.ref b.1) (bs.map fun b => Value.ref b.1) bs
  | [] => .nil
  | b :: bs => .cons rfl (each_refs (h := h))
theorem each_out : ∀ {out : List Value} {bs : List (Addr × PyData)}, EachIs (fun v (b : Addr × PyData) => v = Value.ref b.1) out bs → Vals (bs.map fun b => V.ref b.1) out
  | _, [], e => by cases e; exact .nil
  | _, b :: bs, e => by
    cases e with
    | cons h1 h2 =>
      subst h1
      exact .cons rfl (each_out h2)
theorem call_sortedN {X : Cx} (hc : X.calm = true) (hu : X.A.units + 32 < cLine) : CallR X (.builtin "sorted") (rSortedN X.K X.prog X.w) := by
  intro pins s σ H xs us Q I r h
  obtain ⟨a, kvs, bs, rfl, e, hb, hd, hal, hso, q⟩ := h
  match us, r with
  | [u], .cons r1 .nil =>
    obtain rfl : u = Value.ref a := r1
    obtain ⟨z, lo, es, ep, hraw, hsz, hk⟩ := dn_raw I.hok e
    have lb : bs.length = kvs.length := by
      have := congrArg List.length hb
      rw [List.length_map, List.length_map] at this
      exact this
    refine Calls.call_function_entry PyProof.Rows.kind_sorted PyProof.Rows.plain_sorted PyProof.Rows.entry_sorted (PyProof.Rows.args_sorted1 _) ?_
    unfold Builtin.«sorted»
    refine wpAny_bind (m := checkCount "sorted" 1 1 _) (wpAny_pure ?_)
    refine wpAny_bind (kdu_collect (A := X.A.in1) (kdlN lo es ep) (I.ok.hd hc) hraw (by rw [hsz]; exact z) fun h' tk acc hkp hacc => ?_)
    have hl : acc.toList.length = bs.length := by rw [Array.length_toList, hacc.1, hsz, lb]
    have hv : acc.toList = bs.map fun b => Value.ref b.1 := by
      refine List.ext_getElem? fun i => ?_
      by_cases hi : i < bs.length
      · have hia : i < acc.size := by rw [← Array.length_toList, hl]; exact hi
        have hie : i < es.size := by rw [hsz, ← lb]; exact hi
        have h1 : acc[i]? = some acc[i] := Array.getElem?_eq_getElem hia
        obtain ⟨_, h2⟩ := hacc.2 i _ h1
        have hb1 : bs[i]? = some bs[i] := List.getElem?_eq_getElem hi
        have h3 : (bs.map Prod.fst)[i]? = some (bs[i]).1 := by rw [List.getElem?_map, hb1]; rfl
        rw [hb, List.getElem?_map] at h3
        obtain ⟨p, hp, ep'⟩ := Option.map_eq_some_iff.mp h3
        rw [Array.getElem?_toList, h1, h2, hk i hie p hp, List.getElem?_map, hb1, ep']
        rfl
      · rw [List.getElem?_eq_none (by omega), List.getElem?_eq_none (by rw [List.length_map]; omega)]
    have hL : bs.length ≤ sizeLine := by omega
    have I1 : Inv X pins σ H { s with heap := h', toks := tk } := I.kept hkp
    refine wpAny_bind (wpAny_newList ?_ (by rw [hl]; exact hL))
    have hoL : (h'.push (seqObj "list" acc.toList.toArray 0)).get? h'.objs.size = some (seqObj "list" acc.toList.toArray 0) := Heap.get?_push_size _ rfl
    show wpAny _ _ _ _ _ { s with heap := h'.push (seqObj "list" acc.toList.toArray 0), toks := tk }
    have er : EachIs (fun v (b : Addr × PyData) => ∃ as, Reads (h'.push (seqObj "list" acc.toList.toArray 0)) v b.2 as ∧ h'.objs.size ∉ as) acc.toList bs := by
      rw [hv]
      refine (each_mem (each_refs (h := h'))).mono fun v b ⟨ev, hbm⟩ => ?_
      subst ev
      obtain ⟨as, ra⟩ := Dp.reads I1 b.2 _ (Value.ref b.1) (hd b hbm).1 rfl
      refine ⟨as, PyProof.Rows.Reads.keeps (fun _ _ e => Heap.get?_push_of_some _ e) ra, fun hm => ?_⟩
      obtain ⟨o, ho⟩ := PyProof.On.reads_mem_get ra _ hm
      exact absurd (Heap.lt_size ho) (Nat.lt_irrefl _)
    refine wpAny_bind (wpAny_holding (list_sort_data (s := { s with heap := h'.push (seqObj "list" acc.toList.toArray 0), toks := tk }) (R := fun v (b : Addr × PyData) => v = Value.ref b.1) (enc := Prod.snd) hoL (by rw [hv]; exact each_refs (h := h')) er hal hso hL (fun b hbm => by
      have := (hd b hbm).2
      show X.A.units + 1 + 1 + b.2.depth < cLine
      omega) fun out lo' eo => ?_))
    obtain ⟨e', he'⟩ := PyProof.Rows.sortedHeap_at (vs := acc.toList) (out := out.toArray) hoL
    refine wpAny_pure ⟨_, rfl, .ref h'.objs.size, upd H h'.objs.size (.lst ((bs.mergeSort (dataLe false Prod.snd)).map fun b => V.ref b.1)), I1.laid (t' := tk) (fun b u eb => ?_) (Nat.le_refl _)
      (show ObjOk X.prog X.w _ _ _ (.lst _) from ⟨by rw [List.length_map, List.length_mergeSort]; exact hL, out, e', each_out eo, he'⟩), rfl, q _ (I1.hok.fresh (Nat.le_refl _))⟩
    have hbl : b < h'.objs.size := Heap.lt_size eb
    rw [PyProof.Rows.sortedHeap_old (Nat.ne_of_lt hbl) (by rw [size_push']; exact Nat.lt_succ_of_lt hbl)]
    exact Heap.get?_push_of_some _ eb
end Sw
namespace Sw
open PySem PySem.Spec PyProof.Rows L2
def ItN (P : Program) (w : World) (d : Addr) (o : Obj) (kvs : NKvs) : It where
  go := fun i H => H d = some (.frz o (DnO P w d kvs)) ∧ i < kvs.length
  yld := fun i H x H' => H' = H ∧ ∃ p, kvs[i]? = some p ∧ x = .ref p.2.1
  stop := fun i H => H d = some (.frz o (DnO P w d kvs)) ∧ kvs.length ≤ i
section
variable {X : Cx} {pins : List (Addr × Obj)} {σ : L2.St} {H : Hp} {s : Shared}
theorem frzN {P : Program} {w : World} {h : Heap} (ok : HOk P w H h) {d : Addr} {o : Obj} {kvs : NKvs} (e : H d = some (.frz o (DnO P w d kvs))) :
    (d == sysModules) = false ∧ h.get? d = some o ∧ o.ExactDict ∧ ∃ (es : Array DictEntry) (ep : Nat), o.data = .dict es ep ∧ es.size = kvs.length ∧ ∀ (i : Nat) p, kvs[i]? = some p → ∃ en, es[i]? = some en ∧ en.key = Value.ref p.2.1 := by
  obtain ⟨hd, ⟨z, y, xs, r, o', es, ep, h1, h2, h3, h4, _⟩, _⟩ := (show ObjOk P w H h d (.frz o (DnO P w d kvs)) from ok d _ e)
  rw [hd] at h1
  cases h1
  have le : es.size = xs.length := size_of_entries h4
  have lx : kvs.length = xs.length := Paired.length r
  refine ⟨y, hd, h2, es, ep, h3, by omega, fun i p hp => ?_⟩
  obtain ⟨q, hq, e1, e2, _⟩ := paired_get r hp
  have := entry_at h4 i
  rw [hq] at this
  exact ⟨_, this, by show Value.ref q.2.1 = _; rw [e2]⟩
theorem data_one {o : Obj} {es es' : Array DictEntry} {ep ep' : Nat} (h : o.data = .dict es ep) (h' : o.data = .dict es' ep') : es' = es ∧ ep' = ep := dict_ep h h'
theorem turn_keysN {P : Program} {w : World} {K : PySem.W.Frag} {tg : Expr} {d : Addr} {o : Obj} {es : Array DictEntry} {ep : Nat} {kvs : NKvs} (it : Addr) (hod : o.data = .dict es ep) : Turn P w K tg (ItN P w d o kvs) [it] it (fun i h => h.IsKeyIter it d i kvs.length ep) where
  mem := List.mem_singleton.mpr rfl
  obj := fun i h st b hb => by
    obtain rfl := List.mem_singleton.mp hb
    obtain ⟨oi, e, _, dd⟩ := st
    exact ⟨oi, e, fun v z => by rw [dd] at z; cases z⟩
  keep := fun i h h' st k => st.at fun oi e => k it (List.mem_singleton.mpr rfl) oi e
  item := fun X hP hw hK hc i pins s σ H E I hf st hg => by
    subst hP hw hK
    obtain ⟨hd, hi⟩ := hg
    obtain ⟨f0, f1, f2, f3, f4, f5⟩ := hf it (List.mem_singleton.mpr rfl)
    obtain ⟨_, hgd, _, es', ep', hdt, hsz, ent⟩ := frzN I.hok hd
    obtain ⟨rfl, rfl⟩ := data_one hod hdt
    have hp := List.getElem?_eq_getElem hi
    obtain ⟨en, hen, hk⟩ := ent i _ hp
    refine next_key_item st hgd hdt hsz hen fun h' st' sb => ⟨en.key, rfl, ?_⟩
    obtain ⟨oi, e, c, dd⟩ := id st'
    exact go_of (s := { s with heap := h' }) e c dd (by decide) ⟨.ref (kvs[i]).2.1, H, I.turned (t' := s.toks) (fun b ob hb eb => (sb.2 b hb).trans eb) f0 f1 f3 f4 f5, hk, ⟨rfl, _, hp, rfl⟩, st', fun b hb => (hf b hb).1⟩
  done := fun X hP hw hK hc i pins s σ H E I hf st hg => by
    subst hP hw hK
    obtain ⟨hd, hi⟩ := hg
    obtain ⟨f0, f1, f2, f3, f4, f5⟩ := hf it (List.mem_singleton.mpr rfl)
    obtain ⟨_, hgd, _, es', ep', hdt, hsz, _⟩ := frzN I.hok hd
    obtain ⟨rfl, rfl⟩ := data_one hod hdt
    exact next_key_end (I.ok.hd hc) st hgd hdt hsz hi fun h' eb => ⟨rfl, I.turned (t' := s.toks) (fun b ob hb e => eb b ob hb e) f0 f1 f3 f4 f5⟩
  self := fun A i s Q E st h => wpAny_pyIter_keyiter st h
def iKeysN (P : Program) (w : World) (td : TE) : TI := fun σ H R => td σ H fun x H1 => ∃ d o kvs, x = .ref d ∧ H1 d = some (.frz o (DnO P w d kvs)) ∧ R (ItN P w d o kvs) H1
theorem pi_keysN {tg e : Expr} {td : TE} (he : PE X e td) : PI X tg e (iKeysN X.prog X.w td) := by
  refine ⟨fun pins s σ H R I h => thn (he.run pins s σ H _ I h) fun u s1 ⟨x, H1, I1, rx, d, o, kvs, ex, hd, q⟩ => ?_⟩
  subst ex
  obtain rfl : u = Value.ref d := rx
  obtain ⟨hs, hgd, hx, es, ep, hdt, hsz, _⟩ := frzN I1.hok hd
  refine iter_keys hs hgd hx hdt (pi_one (tk := s1.toks) I1 _ (turn_keysN _ hdt) ⟨_, Heap.get?_push_size _ rfl, rfl, ?_⟩ q)
  rw [hsz] <;> rfl
end
theorem itf_keysN {P : Program} {w : World} {d : Addr} {o : Obj} {kvs : NKvs} : Itf (ItN P w d o kvs) kvs.length (fun H => H d = some (.frz o (DnO P w d kvs))) (fun i v H H' => H' = H ∧ ∃ p, kvs[i]? = some p ∧ v = .ref p.2.1) where
  go := fun i H hi h => ⟨h, hi⟩
  stop := fun H h => ⟨h, Nat.le_refl _⟩
  yld := fun i H x H' _ _ y => y
end Sw
namespace Sw
open PySem PySem.Spec PyProof.Rows L2
theorem hu16 {k : Nat} {A : Around} (h : Room k A) : A.units + 16 < cLine := by have := h.un; omega
theorem hu32 {k : Nat} {A : Around} (h : Room k A) : A.units + 32 < cLine := by have := h.un; omega
section
variable {X : Cx}
theorem ka_niN (P : Program) (w : World) (hu : X.A.units + 16 < cLine) (h1 : X.prog = P := by rfl) (h2 : X.w = w := by rfl) : OpR X (compareOp .NotIn) (rInNk P w not) := by subst h1 h2; exact op_niNk hu
theorem ka_setN (P : Program) (w : World) (hu : X.A.units + 16 < cLine) (h1 : X.prog = P := by rfl) (h2 : X.w = w := by rfl) : PSet X (rSetN P w) := by subst h1 h2; exact set_N hu
theorem ka_getN (P : Program) (w : World) (hu : X.A.units + 16 < cLine) (h1 : X.prog = P := by rfl) (h2 : X.w = w := by rfl) : MtR X "dict.get" (rGetN P w) := by subst h1 h2; exact mt_getN hu
theorem ka_sdN (P : Program) (w : World) (hu : X.A.units + 16 < cLine) (h1 : X.prog = P := by rfl) (h2 : X.w = w := by rfl) : MtR X "dict.setdefault" (rSdN P w) := by subst h1 h2; exact mt_sdN hu
theorem ka_dictN (P : Program) (w : World) (hc : X.calm = true) (hu : X.A.units + 32 < cLine) (h1 : X.prog = P := by rfl) (h2 : X.w = w := by rfl) : CallR X (.type "dict") (rDictN P w) := by subst h1 h2; exact call_dictN hc hu
theorem ka_sortedN (K : PySem.W.Frag) (P : Program) (w : World) (hc : X.calm = true) (hu : X.A.units + 32 < cLine) (h0 : X.K = K := by rfl) (h1 : X.prog = P := by rfl) (h2 : X.w = w := by rfl) : CallR X (.builtin "sorted") (rSortedN K P w) := by subst h0 h1 h2; exact call_sortedN hc hu
theorem ki_keysN (P : Program) (w : World) {tg e : Expr} {td : TE} (he : PE X e td) (h1 : X.prog = P := by rfl) (h2 : X.w = w := by rfl) : PI X tg e (iKeysN P w td) := by subst h1 h2; exact pi_keysN he
def tDNewN (P : Program) (w : World) : TE := fun _ H Q => ∀ p, H p = none → Q (.ref p) (upd H p (DnO P w p []))
theorem ke_dnewN {pos : Pos} (P : Program) (w : World) (h1 : X.prog = P := by rfl) (h2 : X.w = w := by rfl) : PE X (.Dict [] [] pos) (tDNewN P w) := by
  subst h1 h2
  exact ⟨fun pins s σ H Q I h => wpAny_Dict_empty ⟨.ref s.heap.objs.size, _, I.laid (a := s.heap.objs.size) (o := DnO X.prog X.w s.heap.objs.size []) (t' := s.toks) (fun _ _ q => Heap.get?_push_of_some _ q) (Nat.le_refl _) (dn_empty s.heap I.big), rfl, h _ (I.hok.fresh (Nat.le_refl _))⟩⟩
theorem pe_ixN {o i : Expr} {td ty : TE} {pos : Pos} (P : Program) (w : World) (hu : X.A.units + 16 < cLine) (ho : PE X o td) (hi : PE X i ty) (hs : NoSl i) (h1 : X.prog = P := by rfl) (h2 : X.w = w := by rfl) : PE X (.Subscript o i pos) (tOp (rIxN P w) td ty) := by
  subst h1 h2
  refine ⟨fun pins s σ H Q I h => ?_⟩
  refine subD_of PySem.F.slot_dict_getitem.lookup hs (thn (ho.run pins s σ H _ I h) fun u s1 ⟨x, H1, I1, rx, q1⟩ => thn (hi.run pins s1 σ H1 _ I1 q1) fun iv s2 ⟨y, H2, I2, ry, q2⟩ => ?_)
  obtain ⟨a, kvs, k, b, v', ex, ey, e, kk, hk, hd, hv, q⟩ := q2
  subst ex
  obtain rfl : u = Value.ref a := rx
  obtain ⟨_, _, es, ep, hraw, _⟩ := dn_raw I2.hok e
  exact ⟨hraw.typeIs, op_ixN hu pins s2 σ H2 _ _ _ _ Q I2 (show RelV (.ref a) (Value.ref a) from rfl) ry ⟨a, kvs, k, b, v', rfl, ey, e, kk, hk, hd, hv, q⟩⟩
def tDisp1N (P : Program) (w : World) (tk tv : TE) : TE := fun σ H Q => ∀ p, H p = none → tk σ (upd H p (DnO P w p [])) fun x H1 => tv σ H1 fun y H2 => H2 p = some (DnO P w p []) ∧ ∃ k b, x = .ref b ∧ KeyAt H2 k (.ref b) ∧ k.depth ≤ 8 ∧ Q (.ref p) (upd H2 p (DnO P w p [(k, b, y)]))
theorem ke_disp1N {k v : Expr} {tk tv : TE} {pos : Pos} (P : Program) (w : World) (hu : X.A.units + 16 < cLine) (hk : PE X k tk) (hv : PE X v tv) (h1 : X.prog = P := by rfl) (h2 : X.w = w := by rfl) : PE X (.Dict [some k] [v] pos) (tDisp1N P w tk tv) := by
  subst h1 h2
  refine ⟨fun pins s σ H Q I q => ?_⟩
  have hn := I.hok.fresh (Nat.le_refl s.heap.objs.size)
  have I1 := I.laid (a := s.heap.objs.size) (o := DnO X.prog X.w s.heap.objs.size []) (h' := s.heap.push { cls := .type "dict", data := .dict #[] }) (t' := s.toks) (fun _ _ q => Heap.get?_push_of_some _ q) (Nat.le_refl _) (dn_empty s.heap I.big)
  have hshape : (evalEachOpt [some k] X.env).zip ((evalEach [v] X.env).map fun v => do let x ← v; standAt pos; pure x) = (pairTrees [some k] [v] X.env pos).map fun p => (some p.1, p.2) := by rfl
  rw [arm_eval_Dict, hshape, dictDisplay_pairs _ (by intro z; cases z) (by show 1 < 17; decide)]
  have hp : PPs X pos [some k] [v] [(tk, tv)] := pps_cons hk hv pps_nil
  refine wpAny_bind (wpAny_standAt (wpAny_bind (wpAny_subDictH (knd := nestedKind X.prog X.w) (show X.A.units + 8 < cLine from by omega) (by show 1 ≤ 15; decide) ?_)))
  refine thn (hp.run pins _ σ _ (fun ps H2 => match ps with | [(x, y)] => H2 s.heap.objs.size = some (DnO X.prog X.w s.heap.objs.size []) ∧ ∃ k b, x = .ref b ∧ KeyAt H2 k (.ref b) ∧ k.depth ≤ 8 ∧ Q (.ref s.heap.objs.size) (upd H2 s.heap.objs.size (DnO X.prog X.w s.heap.objs.size [(k, b, y)])) | _ => False) I1 (q _ hn)) fun ws s2 ⟨ps, H2, I2, rel, q1⟩ => ?_
  match ps, q1 with
  | [(x, y)], ⟨e, kk, b, ex, hka, hd, q2⟩ =>
  subst ex
  cases rel with
  | @cons _ z _ _ r1 r2 =>
    cases r2
    obtain ⟨z1, z2⟩ := z
    obtain ⟨ra, rb⟩ := r1
    obtain rfl : z1 = Value.ref b := ra
    obtain ⟨_, sy, xs, r, d⟩ := dn_of I2.hok e (fun _ hp => nomatch hp)
    cases r
    refine ⟨[(kk, b, z2)], ⟨rfl, rfl, ⟨KeyAt.is I2.hok _ _ _ hka rfl, hd⟩, True.intro⟩, d, fun h' tk' dk hs => wpAny_pure ⟨.ref s.heap.objs.size, _, ?_, rfl, q2⟩⟩
    have he : ∃ q, h'.get? s.heap.objs.size = some q := let ⟨q, _, _, hq, _⟩ := dk; ⟨q, hq⟩
    exact d_write I2 (by rw [e]; exact True.intro) hs he (dn_new (by show 1 ≤ sizeLine; rw [sizeLine_eq]; decide) sy (.cons ⟨rfl, rfl, rb⟩ .nil) dk)
def tM2N (P : Program) (w : World) (r : V → List V → Hp → VK → Prop) (td ty tx : TE) : TE := fun σ H Q => td σ H fun x H1 => ∃ a kvs, x = .ref a ∧ H1 a = some (DnO P w a kvs) ∧ ty σ H1 fun y H2 => tx σ H2 fun z H3 => r x [y, z] H3 Q
theorem pe_m2N {name : Str} {id : String} {r : V → List V → Hp → VK → Prop} {o e f : Expr} {td ty tx : TE} {apos cpos : Pos} (P : Program) (w : World) (slot : Slot "dict" name id) (hty : typeOf (.builtin id) = pure (.type "method_descriptor")) (hm : MtR X id r) (ho : PE X o td) (he : PE X e ty) (hf : PE X f tx) (m : M2 X o name apos e f cpos) (h1 : X.prog = P := by rfl) (h2 : X.w = w := by rfl) :
    PE X (.Call (.Attribute o name apos) [e, f] [] cpos) (tM2N P w r td ty tx) := by
  subst h1 h2
  refine ⟨fun pins s σ H Q I h => ?_⟩
  refine wpAny_Call_method m.base m.few m.line PySem.F.plainAttrs_dict slot hty (thn (ho.run pins s σ H _ I h) fun u s1 ⟨x, H1, I1, rx, a, kvs, ex, d, q1⟩ => ?_)
  subst ex
  obtain rfl : u = Value.ref a := rx
  obtain ⟨_, _, es, ep, hraw, _⟩ := dn_raw I1.hok d
  refine ⟨hraw.typeIs, fun b eb => ?_, ?_⟩
  · cases eb
    obtain ⟨ob, h1, h2, _⟩ := hraw
    exact ⟨ob, h1, h2.2.1⟩
  rw [m.trees]
  refine Calls.callWith_builtin rfl (Calls.evalArgs_plain (Calls.spliced_cons (thn (he.run pins s1 σ H1 _ I1 q1) fun iv s2 ⟨y, H2, I2, ry, q2⟩ =>
    Calls.spliced_cons (thn (hf.run pins s2 σ H2 _ I2 q2) fun fv s3 ⟨z, H3, I3, rz, q3⟩ => Calls.spliced_nil ?_))))
  exact hm pins s3 σ H3 (.ref a) [y, z] (.ref a) [iv, fv] Q I3 rfl (.cons ry (.cons rz .nil)) q3
end
end Sw
namespace Sw
open PySem PySem.Spec PyProof.Rows L2
def over (D : Hp) (L : List Addr) (G : Hp) : Hp := fun b => if b ∈ L then D b else G b
end Sw
namespace Sw
open PySem PySem.Spec PyProof.Rows L2
section
variable {P : Program} {wo : World} {G H : Hp} {R : Res} {Q : VK} {a b : Addr} {kvs : NKvs} {k : NestedKey}
theorem keyW (w : Wd G R H) {v : V} (h : KeyAt G k v) : KeyAt H k v := KeyAt.same (fun _ _ z => w.get z) _ _ h
theorem nkW (w : Wd G R H) (h : NKeys G kvs) : NKeys H kvs := h.same fun _ _ z => w.get z
theorem g_ixN (w : Wd G R H) (hd : G a = some (DnO P wo a kvs)) (kk : NKeys G kvs) (hk : KeyAt G k (.ref b)) (h8 : k.depth ≤ 8) {v : V} (hv : valN kvs k = some v) (q : Q v H) : rIxN P wo (.ref a) (.ref b) H Q := ⟨a, kvs, k, b, v, rfl, rfl, w.get hd, nkW w kk, keyW w hk, h8, hv, q⟩
theorem g_inN {f : Bool → Bool} (w : Wd G R H) (hd : G a = some (DnO P wo a kvs)) (kk : NKeys G kvs) (hk : KeyAt G k (.ref b)) (h8 : k.depth ≤ 8) (q : Q (.bl (f (valN kvs k).isSome)) H) : rInNk P wo f (.ref b) (.ref a) H Q := ⟨a, kvs, k, b, rfl, rfl, w.get hd, nkW w kk, keyW w hk, h8, q⟩
theorem g_getN (w : Wd G R H) (hd : G a = some (DnO P wo a kvs)) (kk : NKeys G kvs) (hk : KeyAt G k (.ref b)) (h8 : k.depth ≤ 8) {v : V} (q : Q ((valN kvs k).getD v) H) : rGetN P wo (.ref a) [.ref b, v] H Q := ⟨a, kvs, k, b, v, rfl, rfl, w.get hd, nkW w kk, keyW w hk, h8, q⟩
end
end Sw
namespace Sw
open PySem PySem.Spec PyProof.Rows L2
def tExcM (C : Addr) (fl : List Str) (ta : TA) : L2.St → Hp → XK → Prop := fun σ H Q => ta σ H fun vs H1 => vs.length = fl.length ∧ vs.length ≤ 10 ∧ ∀ d, H1 d = none → Q (.ref C) (some d) (upd H1 d (.xd (fl.zip vs).reverse))
section
variable {X : Cx} {x : Str} {fl : List Str} {C : Addr} {e : Expr} {es : List Expr} {p pos : Pos} {ta : TA}
theorem g_excM {σ : L2.St} {H : Hp} {E : XK} (k : ta σ H fun vs H1 => vs.length = fl.length ∧ vs.length ≤ 10 ∧ ∀ d, H1 d = none → E (.ref C) (some d) (upd H1 d (.xd (fl.zip vs).reverse))) : tExcM C fl ta σ H E := k
end
def XQm (G : Hp) (R : Res) (C : Addr) (fs : List (Str × V)) (E : XK) : Prop := ∀ G' d H', Same G G' → G d = none → G' d = some (.xd fs) → Wd G' R H' → E (.ref C) (some d) H'
theorem XQm.up {G G1 : Hp} {R : Res} {C : Addr} {fs : List (Str × V)} {E : XK} (k : XQm G R C fs E) (e : Same G G1) : XQm G1 R C fs E := fun G' d H' s n h w => k G' d H' (Same.trans e s) (Same.free e n) h w
end Sw
namespace Sw
open PySem PySem.Spec PyProof.Rows L2
inductive EqX (K : PySem.W.Frag) (H : Hp) : Nat → V → V → Bool → Prop
  | flat {n : Nat} {x y : V} : flatV x = true → flatV y = true → EqX K H n x y (eqV x y)
  | same {n : Nat} {a : Addr} : EqX K H n (.ref a) (.ref a) true
  | lsts {n : Nat} {a b : Addr} {xs ys : List V} {e : Nat → Bool} {c : Bool} : SqL K H a xs → SqL K H b ys → xs.length = ys.length → (∀ j x y, xs[j]? = some x → ys[j]? = some y → EqX K H n x y (e j)) → c = (List.range xs.length).all e → (a = b → c = true) → EqX K H (n + 1) (.ref a) (.ref b) c
  | lstn {n : Nat} {a b : Addr} {xs ys : List V} : a ≠ b → SqL K H a xs → SqL K H b ys → xs.length ≠ ys.length → EqX K H (n + 1) (.ref a) (.ref b) false
  | tups {n : Nat} {a b : Addr} {xs ys : List V} {e : Nat → Bool} {c : Bool} : SqT K H a xs → SqT K H b ys → xs.length = ys.length → (∀ j x y, xs[j]? = some x → ys[j]? = some y → EqX K H n x y (e j)) → c = (List.range xs.length).all e → (a = b → c = true) → EqX K H (n + 1) (.ref a) (.ref b) c
  | dics {n : Nat} {a b : Addr} {ks ls : List (Key × V)} {e : Key → Bool} {c : Bool} : H a = some (.dK ks) → H b = some (.dK ls) → (∀ p ∈ ks, ∀ u, valV ls p.1 = some u → EqX K H n p.2 u (e p.1)) → c = (ks.length == ls.length && ks.all fun p => (valV ls p.1).isSome && e p.1) → (a = b → c = true) → EqX K H (n + 1) (.ref a) (.ref b) c
theorem EqX.mono {K : PySem.W.Frag} {G H : Hp} (s : Same G H) {n : Nat} {x y : V} {c : Bool} (h : EqX K G n x y c) : EqX K H n x y c := by
  induction h with
  | flat h1 h2 => exact .flat h1 h2
  | same => exact .same
  | lsts h1 h2 h3 _ h5 h6 ih => exact .lsts (Evl.ex_l s h1) (Evl.ex_l s h2) h3 ih h5 h6
  | lstn h0 h1 h2 h3 => exact .lstn h0 (Evl.ex_l s h1) (Evl.ex_l s h2) h3
  | tups h1 h2 h3 _ h5 h6 ih => exact .tups (Evl.ex_t s h1) (Evl.ex_t s h2) h3 ih h5 h6
  | dics h1 h2 _ h4 h5 ih => exact .dics (s _ _ h1) (s _ _ h2) ih h4 h5
end Sw
namespace PySem.SeqAt
open AutoSeq1 (wpAny_loadPart')
open MeetsSeq MeetsSeq2 MeetsSeq3 SeqRoads2
end PySem.SeqAt
namespace Sw
open PySem PySem.Spec PyProof.Rows L2
open PySem.W (EqTree)
end Sw
namespace Sw
open PySem PySem.Spec PyProof.Rows L2
end Sw
namespace Sw
open PySem PySem.Spec PyProof.Rows L2
end Sw
namespace Sw
open PySem PySem.Spec PyProof.Rows L2
end Sw
namespace Sw
open PySem PySem.Spec PyProof.Rows L2
def KwTo {α : Type} (D : Addr) : List (Str × Value) → Sem α → Sem α → Prop
  | [], t, T => t = T
  | q :: l, t, T => ∃ (β γ : Type) (k1 : Option Value → Sem β) (k2 : β → Sem γ) (k3 : γ → Sem α) (a : β), t = ((nsGet D q.1 >>= k1) >>= k2) >>= k3 ∧ k1 (some q.2) = pure a ∧ KwTo D l (k2 a >>= k3) T
theorem KwTo.run {α : Type} {K : PySem.W.Frag} {M : Model} {D : Addr} {A : Around} {Q : α → Shared → Prop} {E : Value → Shared → Prop} {s : Shared} (X : K.In s.heap) {T : Sem α} (h : wpAny M A T Q E s) : ∀ {l : List (Str × Value)} {t : Sem α}, (∀ q ∈ l, PySem.W.nsIn K D q.1 = some (some q.2)) → KwTo D l t T → wpAny M A t Q E s
  | [], t, _, e => by
    have e' : t = T := e
    rw [e']
    exact h
  | q :: l, t, hl, e => by
    obtain ⟨β, γ, k1, k2, k3, a, e1, e2, e3⟩ := e
    have l1 : PySem.W.Looks M s.heap (nsGet D q.1 >>= k1) a := (PySem.W.looks_nsIn X (hl q (List.mem_cons_self ..))).andThen (PySem.W.Looks.of_pure e2)
    rw [e1, bind_assoc]
    exact wpAny_bind (l1 _ _ _ _ (fun _ _ e => e) (KwTo.run X h (fun p hp => hl p (List.mem_cons_of_mem _ hp)) e3))
end Sw
namespace Sw
open PySem PySem.Spec PyProof.Rows L2
end Sw
namespace Sw
open PySem PySem.Spec PyProof.Rows L2
end Sw
namespace Sw
open PySem PySem.Spec PyProof.Rows L2
def DcW (J : It) (g : TG) (tt : TT) (tk tv : TE) (vs : List Nat) (σ : L2.St) (Q : VK) (H1 : Hp) : Prop := ∀ D, H1 D = none → ∃ W : Nat → Nat → Hp → Prop, (∃ m, W 0 m (upd H1 D (.dK []))) ∧ ∀ i m H, W i m H →
  (J.stop i H ∧ Q (.ref D) H) ∨ (J.go i H ∧ ∃ Nx : Hp → Prop, (∀ H', Nx H' → ∃ m', m' < m ∧ W (i + 1) m' H') ∧ ∀ x H', J.yld i H x H' → g x (wipe σ vs) H' fun σ2 H2 => wipe σ2 vs = wipe σ vs ∧ tt σ2 H2 fun b H3 =>
    if b = true then tk σ2 H3 fun y H4 => tv σ2 H4 fun z H5 => ∃ kvs k, y = kV k ∧ H5 D = some (.dK kvs) ∧ kvs.length < sizeLine ∧ Nx (upd H5 D (.dK (putK kvs k z))) else Nx H3)
end Sw
namespace Sw
open PySem PySem.Spec PyProof.Rows L2
end Sw
namespace Sw
open PySem PySem.Spec PyProof.Rows L2
end Sw
namespace Sw
open PySem PySem.Spec PyProof.Rows L2
end Sw
namespace Sw
open PySem PySem.Spec PyProof.Rows L2
section
variable {K : PySem.W.Frag} {td ty tx ta : TE} {σ : L2.St} {H : Hp} {Q : VK} {D : Ends} {f : Str}
theorem g_dget2 (k : td σ H fun x H1 => ∃ a, x = .ref a ∧ IsD H1 a ∧ ty σ H1 fun y H2 => tx σ H2 fun z H3 => ∃ o, DGet H3 a y o ∧ Q (o.getD z) H3) : tDGet2 td ty tx σ H Q := k
theorem g_ddel (k : td σ H fun x H1 => ty σ H1 fun y H2 => ∃ a kvs k, x = .ref a ∧ H2 a = some (.dK kvs) ∧ y = kV k ∧ (valV kvs k).isSome = true ∧ D.nx σ (upd H2 a (.dK (dropK kvs k)))) : sDDel td ty D σ H := k
theorem g_dcK {tk tv : TE} {g : TG} {tt : TT} {vs : List Nat} (k : td σ H fun x H1 => ∃ d o, x = .ref d ∧ ((∃ kvs, H1 d = some (.frz o (.dK kvs)) ∧ DcW (Itk d o kvs) g tt tk tv vs σ Q H1) ∨ ∃ kvs, H1 d = some (.frz o (.dT kvs)) ∧ DcW (Itkt d o kvs) g tt tk tv vs σ Q H1)) : tDc (iKeys td) g tt tk tv vs σ H Q := k
end
theorem g_cval {K : PySem.W.Frag} {ta : TE} {f : Str} {σ : L2.St} {H : Hp} {Q : VK} (k : ta σ H fun x H1 => ∃ C mc v u, x = .ref C ∧ ClX.CRead K C mc ∧ ClX.CVal K C mc f v u ∧ Q v H1) : ClX.tCVal K ta f σ H Q := k
theorem jSeq {s1 s2 : TS} {D : Ends} {σ : L2.St} {H : Hp} {C : L2.St → Hp → Prop} (h : ∀ N : L2.St → Hp → Prop, (∀ σ' H', C σ' H' → N σ' H') → s1 { D with nx := N } σ H) (k : ∀ σ' H', C σ' H' → s2 D σ' H') : tSeq s1 s2 D σ H := h (s2 D) k
end Sw
namespace PySem
open Sem (wp)
open AutoSeq1 (wpAny_loadPart')
end PySem
namespace Sw
open PySem PySem.Spec PyProof.Rows L2
def SqB (t : Bool) (K : PySem.W.Frag) (H : Hp) (a : Addr) (xs : List V) : Prop := match t with
  | true => SqT K H a xs
  | false => SqL K H a xs
theorem SqB.ex {t : Bool} {K : PySem.W.Frag} {G H : Hp} {a : Addr} {xs : List V} (e : Same G H) (h : SqB t K G a xs) : SqB t K H a xs := by
  cases t with
  | true => exact Evl.ex_t e h
  | false => exact Evl.ex_l e h
theorem SqB.or {t : Bool} {K : PySem.W.Frag} {H : Hp} {a : Addr} {xs : List V} (h : SqB t K H a xs) : SqL K H a xs ∨ SqT K H a xs := by
  cases t with
  | true => exact .inr h
  | false => exact .inl h
end Sw
namespace Sw
open PySem PySem.Spec PyProof.Rows L2
def Itsq (K : PySem.W.Frag) (a : Addr) : Bool → It
  | true => Itt K a
  | false => Itl K a
theorem itf_seqB {K : PySem.W.Frag} {a : Addr} {xs : List V} : ∀ t : Bool, Itf (Itsq K a t) xs.length (fun H => SqB t K H a xs) (fun i x H H' => H' = H ∧ xs[i]? = some x)
  | true => itf_tup
  | false => itf_list
def iSeqB (K : PySem.W.Frag) (tl : TE) : TI := fun σ H R => tl σ H fun v H1 => ∃ a xs t, v = .ref a ∧ SqB t K H1 a xs ∧ R (Itsq K a t) H1
theorem pi_seqB {X : Cx} {tg l : Expr} {tl : TE} (hl : PE X l tl) : PI X tg l (iSeqB X.K tl) := by
  refine ⟨fun pins s σ H R I h => ?_⟩
  refine thn (hl.run pins s σ H _ I h) fun v s1 ⟨x, H1, I1, r1, q1⟩ => ?_
  obtain ⟨a, xs, t, e, hq, q⟩ := q1
  subst e
  cases r1
  cases t with
  | true =>
    obtain ⟨its, rv, p, hz⟩ := I1.tuple hq
    refine wpAny_pyIter_tuple (show s1.heap.IsTuple a its.toArray from p) ?_
    refine ⟨s1.heap.objs.size, [s1.heap.objs.size], _, _, H1, rfl, I1.kept (t' := s1.toks) fun b o e => Heap.get?_push_of_some _ e, turn_tuple a _, ⟨_, Heap.get?_push_size _ rfl, rfl, rfl⟩, fun b hb => ?_, q⟩
    have e : b = s1.heap.objs.size := by simpa using hb
    subst e
    exact I1.fpOk (Nat.le_refl _) (I1.hok.fresh (Nat.le_refl _))
  | false =>
    obtain ⟨its, rv, p, hz⟩ := I1.list hq
    refine wpAny_pyIter_list p.isList ?_
    refine ⟨s1.heap.objs.size, [s1.heap.objs.size], _, _, H1, rfl, I1.kept (t' := s1.toks) fun b o e => Heap.get?_push_of_some _ e, turn_list a _, ⟨_, Heap.get?_push_size _ rfl, rfl, rfl⟩, fun b hb => ?_, q⟩
    have e : b = s1.heap.objs.size := by simpa using hb
    subst e
    exact I1.fpOk (Nat.le_refl _) (I1.hok.fresh (Nat.le_refl _))
theorem ki_seqB {X : Cx} (K : PySem.W.Frag) {tg l : Expr} {tl : TE} (hl : PE X l tl) (hK : X.K = K := by rfl) : PI X tg l (iSeqB K tl) := by subst hK; exact pi_seqB hl
theorem g_lcSB {K : PySem.W.Frag} {g : TG} {tt : TT} {te : TE} {vs : List Nat} {σ : L2.St} {H : Hp} {Q : VK} {tl : TE} (k : tl σ H fun v H1 => ∃ a xs t, v = .ref a ∧ SqB t K H1 a xs ∧ LcW (Itsq K a t) g tt te vs σ Q H1) : tLc (iSeqB K tl) g tt te vs σ H Q := k
end Sw
namespace Sw
open PySem PySem.Spec PyProof.Rows L2
theorem ke_revL {X : Cx} {e : Expr} {te : TE} {k : Nat} {p1 p2 p3 pos : Pos} (K : PySem.W.Frag) (he : PE X e te) (hK : X.K = K := by rfl) : PE X (.Subscript e (.Slice none none (some (.UnaryOp .USub (.Constant (.int 1) k p1) p2)) p3) pos) (tRevL K te) := by subst hK; exact pe_revL he
theorem g_revL {K : PySem.W.Frag} {te : TE} {σ : L2.St} {H : Hp} {Q : VK} (k : te σ H fun x H1 => ∃ a xs, x = .ref a ∧ SqL K H1 a xs ∧ ∀ p, H1 p = none → Q (.ref p) (upd H1 p (.lst xs.reverse))) : tRevL K te σ H Q := k
end Sw
namespace Sw
open PySem PySem.Spec PyProof.Rows L2
theorem ka_inDL {X : Cx} (K : PySem.W.Frag) (hu : X.A.units + 65 < cLine) (hK : X.K = K := by rfl) : OpR X (compareOp .In) (rInD K) := by subst hK; exact op_inD hu
theorem ka_niDL {X : Cx} (K : PySem.W.Frag) (hu : X.A.units + 65 < cLine) (hK : X.K = K := by rfl) : OpR X (compareOp .NotIn) (rNotInD K) := by subst hK; exact op_notInD hu
section
variable {td : TE} {g : TG} {tt : TT} {te : TE} {tb : TS} {D : Ends} {vs : List Nat} {σ : L2.St} {H G : Hp} {R : Res} {Q : VK} {d : Addr} {u : HO}
theorem g_lockEX {t : TE} (w : Wd G R H) (h : G d = some u) (m : Mut (some u)) (k : ∀ od H1, Wd (upd G d (.frz od u)) R H1 → t σ H1 fun v H' => H' d = some (.frz od u) ∧ Q v (upd H' d u)) : tLockE t σ H Q :=
  ⟨d, u, w.get h, m, fun od => k od _ (w.set h)⟩
theorem g_lockSX {t : TS} (w : Wd G R H) (h : G d = some u) (m : Mut (some u)) (k : ∀ od H1, Wd (upd G d (.frz od u)) R H1 → t ⟨fun σ' H' => H' d = some (.frz od u) ∧ D.nx σ' (upd H' d u), fun v H' => H' d = some (.frz od u) ∧ D.rt v (upd H' d u), fun σ' H' => H' d = some (.frz od u) ∧ D.bk σ' (upd H' d u), fun σ' H' => H' d = some (.frz od u) ∧ D.ct σ' (upd H' d u)⟩ σ H1) : tLock t D σ H :=
  ⟨d, u, w.get h, m, fun od => k od _ (w.set h)⟩
theorem g_unlockX {G1 H' : Hp} {od : Obj} {P : Hp → Prop} (w : Wd G1 R H') (e : G1 d = some (.frz od u)) (k : Wd (upd G1 d u) R (upd H' d u) → P (upd H' d u)) : H' d = some (.frz od u) ∧ P (upd H' d u) :=
  ⟨w.get e, k (w.set e)⟩
theorem g_forN {P : Program} {wo : World} (k : td σ H fun x H1 => ∃ d o kvs, x = .ref d ∧ H1 d = some (.frz o (DnO P wo d kvs)) ∧ ForW (ItN P wo d o kvs) g tb D σ H1) : tFor (iKeysN P wo td) g tb D σ H := k
theorem g_lcN {P : Program} {wo : World} (k : td σ H fun x H1 => ∃ d o kvs, x = .ref d ∧ H1 d = some (.frz o (DnO P wo d kvs)) ∧ LcW (ItN P wo d o kvs) g tt te vs σ Q H1) : tLc (iKeysN P wo td) g tt te vs σ H Q := k
end
end Sw
namespace Sw
open PySem PySem.Spec PyProof.Rows L2
structure Plain {P : Program} {w : World} {κ : Type} [DecidableEq κ] (knd : KeyKind P w κ) : Prop where
  cls : ∀ n k v, knd.is k v = true → ofAClassStatement n v = pure false
  hsh : ∀ n k v, knd.is k v = true → ∃ b, hashByValue n v = pure b
theorem plain_mix {P : Program} {w : World} : Plain (mixKind P w) where
  cls := fun n k v h => by
    rcases keyIs_shape (show keyIs k v = true from h) with ⟨i, t, _, rfl⟩ | ⟨x, t, _, rfl⟩ <;> cases n <;> rfl
  hsh := fun n k v h => by
    rcases keyIs_shape (show keyIs k v = true from h) with ⟨i, t, _, rfl⟩ | ⟨x, t, _, rfl⟩ <;> cases n <;> exact ⟨_, rfl⟩
section
variable {P : Program} {w : World} {A : Around} {E : Value → Shared → Prop} {s : Shared} {κ : Type} [DecidableEq κ] {knd : KeyKind P w κ}
theorem each_plain {f : Value → Sem Bool} {b : Bool} (hf : ∀ k v, knd.is k v = true → f v = pure b) {ks : List κ} {vs : List Value} (h : ItemsAre knd ks vs) : ∀ v ∈ vs, f v = pure b := by
  induction h with
  | nil => exact fun v hv => absurd hv List.not_mem_nil
  | cons h1 _ ih => exact fun v hv => (List.mem_cons.mp hv).elim (fun e => e ▸ hf _ _ h1) (ih v)
theorem st_cls (pl : Plain knd) {k : List κ} {b : Addr} {Q : Bool → Shared → Prop} (hk : IsTupleKey knd s.heap k b) (h : Q false s) : wpAny (model P w) A (ofAClassStatement 8 (.ref b)) Q E s := by
  have ty := hk.typeIs
  obtain ⟨o, items, n, ho, _, hd, hi⟩ := hk
  have all := each_plain (f := ofAClassStatement 7) (fun k v => pl.cls 7 k v) hi
  unfold ofAClassStatement
  refine wpAny_bind (wpAny_typeOf ty ?_)
  simp only [show (("tuple" : String) == "tuple") = true from by decide, if_true, Bool.not_true, Bool.false_eq_true, if_false]
  show wpAny _ _ (seqItems? (.ref b) >>= _) _ _ s
  refine wpAny_bind (wpAny_seqItems ho hd (wpAny_bind ?_))
  show wpAny _ _ (forIn items _ _) _ _ s
  rw [← Array.forIn_toList]
  refine wpAny_forIn_list _ (fun rest r s' => r.1 = none ∧ s' = s ∧ ∀ v ∈ rest, ofAClassStatement 7 v = pure false) _ ?_ ?_ _ _ ⟨rfl, rfl, all⟩
  · rintro v rest r s' ⟨hr, rfl, ha⟩
    rw [ha v List.mem_cons_self]
    refine wpAny_bind (wpAny_pure ?_)
    simp only [Bool.false_eq_true, if_false]
    exact wpAny_pure ⟨rfl, rfl, fun u hu => ha u (List.mem_cons_of_mem _ hu)⟩
  · rintro ⟨r1, r2⟩ s' ⟨hr, rfl, _⟩
    obtain rfl : r1 = none := hr
    exact wpAny_pure h
theorem each_some (pl : Plain knd) {ks : List κ} {vs : List Value} (h : ItemsAre knd ks vs) : ∀ v ∈ vs, ∃ b, hashByValue 7 v = pure b := by
  induction h with
  | nil => exact fun v hv => absurd hv List.not_mem_nil
  | cons h1 _ ih => exact fun v hv => (List.mem_cons.mp hv).elim (fun e => e ▸ pl.hsh 7 _ _ h1) (ih v)
theorem st_hsh (pl : Plain knd) {k : List κ} {b : Addr} {Q : Bool → Shared → Prop} (hk : IsTupleKey knd s.heap k b) (h : ∀ y, Q y s) : wpAny (model P w) A (hashByValue 8 (.ref b)) Q E s := by
  have ty := hk.typeIs
  obtain ⟨o, items, n, ho, _, hd, hi⟩ := hk
  have all := each_some pl hi
  unfold hashByValue
  refine wpAny_bind (wpAny_specialOf ty F.slot_tuple_hash.lookup ?_)
  show wpAny _ _ (seqItems? (.ref b) >>= _) _ _ s
  refine wpAny_bind (wpAny_seqItems ho hd (wpAny_bind ?_))
  show wpAny _ _ (forIn items _ _) _ _ s
  rw [← Array.forIn_toList]
  refine wpAny_forIn_list _ (fun rest r s' => (r.1 = none ∧ ∀ v ∈ rest, ∃ b, hashByValue 7 v = pure b) ∧ s' = s) _ ?_ ?_ _ _ ⟨⟨rfl, all⟩, rfl⟩
  · rintro v rest r s' ⟨⟨hr, ha⟩, rfl⟩
    obtain ⟨y, hy⟩ := ha v List.mem_cons_self
    rw [hy]
    refine wpAny_bind (wpAny_pure ?_)
    cases y with
    | true =>
      simp only [Bool.not_true, Bool.false_eq_true, if_false]
      exact wpAny_pure ⟨⟨rfl, fun u hu => ha u (List.mem_cons_of_mem _ hu)⟩, rfl⟩
    | false =>
      simp only [Bool.not_false, if_true]
      exact wpAny_pure (wpAny_pure (h _))
  · rintro ⟨r1, r2⟩ s' ⟨⟨hr, _⟩, rfl⟩
    obtain rfl : r1 = none := hr
    exact wpAny_pure (h _)
theorem st_seen (pl : Plain knd) {k : List κ} {b : Addr} {Q : Bool → Shared → Prop} (hk : IsTupleKey knd s.heap k b) {ys : List Value} (hy : ∀ y ∈ ys, ∃ k' c, y = Value.ref c ∧ IsTupleKey knd s.heap k' c) (h : Q false s) : wpAny (model P w) A (searchCouldBeSeen (.ref b) ys) Q E s := by
  unfold searchCouldBeSeen
  refine wpAny_bind (wpAny_forIn_list _ (fun rest r s' => r.1 = none ∧ s' = s ∧ ∀ y ∈ rest, ∃ k' c, y = Value.ref c ∧ IsTupleKey knd s.heap k' c) _ ?_ ?_ _ _ ⟨rfl, rfl, hy⟩)
  · rintro v rest r s' ⟨hr, rfl, ha⟩
    obtain ⟨k', c, rfl, hc⟩ := ha v List.mem_cons_self
    have on : ∀ y ∈ rest, ∃ k' c, y = Value.ref c ∧ IsTupleKey knd s'.heap k' c := fun u hu => ha u (List.mem_cons_of_mem _ hu)
    dsimp only
    by_cases hv : (b == c || (carriedByValue (.ref b) && carriedByValue (.ref c))) = true
    · exact wp_if_pos hv (wpAny_pure ⟨rfl, rfl, on⟩)
    · refine wp_if_neg hv (wpAny_bind (wpAny_eqIsQuiet_tuple hk ?_))
      simp only [Bool.not_true, Bool.false_eq_true, if_false]
      refine wpAny_bind (wpAny_eqIsQuiet_tuple hc ?_)
      simp only [Bool.not_true, Bool.false_eq_true, if_false]
      refine wpAny_bind (st_cls pl hk ?_)
      simp only [Bool.false_eq_true, if_false]
      refine wpAny_bind (st_cls pl hc ?_)
      simp only [Bool.false_eq_true, if_false]
      exact wpAny_pure ⟨rfl, rfl, on⟩
  · rintro ⟨r1, r2⟩ s' ⟨hr, rfl, _⟩
    obtain rfl : r1 = none := hr
    exact wpAny_pure h
theorem nth_dm (m : Nat) : ∀ (n : Nat) (p : SetTable.Probe), p.dummy = none → (nth m p n).dummy = none
  | 0, _, h => h
  | n + 1, p, h => nth_dm m n (adv m p) (by unfold adv; split <;> exact h)
structure SetD (knd : KeyKind P w κ) (h : Heap) (a : Addr) (L : List (Addr × List κ)) (es : Array (Int × Value)) (ep : Nat) (t : SetTable) : Prop where
  obj : ∃ o, h.get? a = some o ∧ o.ExactSet ∧ o.data = .set es ep t
  ents : es.toList = L.map fun p => (tupleKeyHash knd p.2, Value.ref p.1)
  tab : TabOk t (L.map fun p => tupleKeyHash knd p.2)
  keys : ∀ p ∈ L, IsTupleKey knd h p.2 p.1
  room : L.length * 5 < t.mask * 3
  few : L.length < 64
variable {a : Addr} {L : List (Addr × List κ)} {es : Array (Int × Value)} {ep : Nat} {t : SetTable}
theorem SetD.size (R : SetD knd s.heap a L es ep t) : es.size = L.length := by rw [← Array.length_toList, R.ents, List.length_map]
theorem SetD.fits (R : SetD knd s.heap a L es ep t) : t.fits es.size = true := by
  have q1 := R.tab.sz
  rw [List.length_map] at q1
  have q2 := R.size
  have q3 := R.room
  unfold SetTable.fits SetTable.fill
  rw [R.tab.dm, Bool.and_eq_true, beq_iff_eq, decide_eq_true_eq]
  exact ⟨by omega, by show t.place.size + 0 ≤ t.mask; omega⟩
theorem SetD.ent (R : SetD knd s.heap a L es ep t) {i : Nat} {p : Addr × List κ} (h : L[i]? = some p) : es[i]? = some (tupleKeyHash knd p.2, Value.ref p.1) := by
  rw [← Array.getElem?_toList, R.ents, List.getElem?_map, h]
  rfl
theorem sd_from (pl : Plain knd) (R : SetD knd s.heap a L es ep t) {x : Addr} {k : List κ} (hx : IsTupleKey knd s.heap k x) (hu : A.units < cLine) (hk : ∀ p ∈ L, p.2 ≠ k) {K : Nat} (lK : K < 10 * SetTable.turns t.mask)
    (hK : way t.mask (tupleKeyHash knd k) K ∉ t.place.toList) (hb : ∀ c, c < K → way t.mask (tupleKeyHash knd k) c ∈ t.place.toList) {Q : SetFound → Shared → Prop} (hq : Q (.free (way t.mask (tupleKeyHash knd k) K) false) s) :
    ∀ (f c : Nat) (stand : Option SetTable.Probe), stand.getD (t.probeStart (tupleKeyHash knd k)) = nth t.mask (runAt t.mask (SetTable.bits (tupleKeyHash knd k) % (t.mask + 1)) (SetTable.bits (tupleKeyHash knd k))) c → c ≤ K → K - c < f →
      wpAny (model P w) A (setSearchFrom a (.ref x) (tupleKeyHash knd k) true f stand) Q E s := by
  generalize hh : tupleKeyHash knd k = hv at *
  obtain ⟨o, ho, hex, hd⟩ := R.obj
  intro f
  induction f with
  | zero => exact fun c _ _ _ h => absurd h (Nat.not_lt_zero _)
  | succ f ih =>
    intro c stand hst hc hf
    generalize hp0 : runAt t.mask (SetTable.bits hv % (t.mask + 1)) (SetTable.bits hv) = p0 at *
    have wy : ∀ q, way t.mask hv q = (nth t.mask p0 q).j := fun q => by rw [← hp0]
    have sh : ∀ q, nth t.mask (nth t.mask p0 c) q = nth t.mask p0 (c + q) := fun q => (nth_add t.mask c p0 q).symm
    rw [setSearchFrom_succ]
    refine wpAny_bind (wpAny_setState_of ho hd R.fits ?_)
    dsimp only
    refine wp_if_neg (by unfold SetTable.gaveWay; rw [mask_odd R.tab.mok]; decide) ?_
    try refine wpAny_bind (wpAny_pure ?_)
    have spec := go_spec t R.tab.ris R.tab.dm (fun i => (es[i]?.map (·.1)).getD 0) hv (10 * SetTable.turns t.mask) (K - c) (nth t.mask p0 c) (nth_dm _ _ _ (by rw [← hp0]; rfl)) (by omega)
      (fun q lq => by rw [sh, ← wy]; exact hb _ (by omega)) (by rw [sh, ← wy, show c + (K - c) = K by omega]; exact hK)
    rcases spec with ⟨q, i, lq, hi, _, _, hpr⟩ | ⟨_, hpr⟩
    · rw [sh, sh, ← wy] at hpr
      rw [sh, ← wy] at hi
      have met : t.probe (fun i => (es[i]?.map (·.1)).getD 0) hv (stand.getD (t.probeStart hv)) = some (.candidate (way t.mask hv (c + q)) i (nth t.mask p0 (c + (q + 1)))) := by
        rw [hst]
        exact hpr
      rw [met]
      dsimp only
      have li : i < L.length := by
        have q1 := (List.getElem?_eq_some_iff.mp hi).1
        have q2 := R.tab.sz
        rw [List.length_map] at q2
        rw [Array.length_toList] at q1
        omega
      have hp : L[i]? = some L[i] := List.getElem?_eq_getElem li
      generalize L[i] = p at hp
      have pm := List.mem_of_getElem? hp
      have ne : ¬ p.2 = k := hk p pm
      have goon : wpAny (model P w) A (searchRest a (.ref x) hv true f es t (way t.mask hv (c + q)) i (nth t.mask p0 (c + (q + 1)))) Q E s := by
        unfold searchRest
        rw [R.ent hp]
        dsimp only
        refine wpAny_bind (wpAny_holding (wpAny_eqBool_tuple hu (R.keys p pm) hx (wpAny_bind (wpAny_setState_of ho hd R.fits ?_))))
        rw [decide_eq_false ne]
        dsimp only
        refine wp_if_neg (by decide) ?_
        try refine wpAny_bind (wpAny_pure ?_)
        rw [sameMem, slot_live R.tab.ris hi]
        dsimp only
        simp only [if_true, R.ent hp]
        refine wpAny_bind (wpAny_isSame_ref_self (wpAny_bind (wpAny_pure ?_)))
        simp only [if_true]
        refine wp_if_neg (by decide) ?_
        exact ih (c + (q + 1)) _ rfl (by omega) (by omega)
      by_cases hl : t.led = true
      · refine wp_if_neg (by simp [hl]) ?_
        try refine wpAny_bind (wpAny_pure ?_)
        exact goon
      · refine wp_if_pos (by simp [hl]) (wpAny_bind (st_seen pl hx (fun y hy => ?_) ?_))
        · obtain ⟨e, he, rfl⟩ := List.mem_map.mp hy
          have he : e ∈ es.toList := by
            rw [Array.toList_filter] at he
            exact (List.mem_filter.mp he).1
          rw [R.ents] at he
          obtain ⟨p2, m2, rfl⟩ := List.mem_map.mp he
          exact ⟨p2.2, p2.1, rfl, R.keys p2 m2⟩
        · refine wp_if_neg (by decide) ?_
          try refine wpAny_bind (wpAny_pure ?_)
          exact goon
    · rw [sh, ← wy, show c + (K - c) = K by omega] at hpr
      have met : t.probe (fun i => (es[i]?.map (·.1)).getD 0) hv (stand.getD (t.probeStart hv)) = some (.empty (way t.mask hv K) none) := by
        rw [hst]
        exact hpr
      rw [met]
      exact wpAny_pure hq
theorem sd_search (pl : Plain knd) (R : SetD knd s.heap a L es ep t) {x : Addr} {k : List κ} (hx : IsTupleKey knd s.heap k x) (hu : A.units < cLine) (hk : ∀ p ∈ L, p.2 ≠ k) {Q : SetFound → Shared → Prop}
    (hq : ∀ K, way t.mask (tupleKeyHash knd k) K ∉ t.place.toList → (∀ c, c < K → way t.mask (tupleKeyHash knd k) c ∈ t.place.toList) → Q (.free (way t.mask (tupleKeyHash knd k) K) false) s) :
    wpAny (model P w) A (setSearch a (.ref x) (tupleKeyHash knd k) true) Q E s := by
  have rm := R.room
  obtain ⟨K, lK, hK, hb⟩ := R.tab.first (by rw [List.length_map]; omega) (tupleKeyHash knd k)
  have big : K < 100000 := by
    have : SetTable.turns t.mask ≤ 142 := by
      unfold SetTable.turns
      rcases R.tab.mok with e | e | e <;> omega
    omega
  unfold setSearch
  exact sd_from pl R hx hu hk lK hK hb (hq K hK hb) 100000 0 none rfl (Nat.zero_le _) (by omega)
theorem tup_stays {h h' : Heap} {k : List κ} {a b : Addr} {o : Obj} {es : Array (Int × Value)} {ep : Nat} {t : SetTable} (hb : IsTupleKey knd h k b) (ho : h.get? a = some o) (hd : o.data = .set es ep t) (hs : Heap.SameBut a h h') : IsTupleKey knd h' k b := by
  obtain ⟨o2, its, n, e2, c2, d2, i2⟩ := hb
  refine ⟨o2, its, n, (hs.2 b fun q => ?_).trans e2, c2, d2, i2⟩
  rw [q, ho] at e2
  cases e2
  rw [hd] at d2
  exact nomatch d2
theorem ins_perm {α : Type} (L : List α) (n : Nat) (x : α) : (L.take n ++ x :: L.drop n).Perm (x :: L) := by
  have h := List.perm_middle (a := x) (l₁ := L.take n) (l₂ := L.drop n)
  rw [List.take_append_drop] at h
  exact h
theorem pick_all {α : Type} : ∀ L : List α, (List.range L.length).filterMap (fun i => L[i]?) = L
  | [] => rfl
  | x :: r => by
    rw [List.length_cons, List.range_succ_eq_map, List.filterMap_cons_some (f := fun i => (x :: r)[i]?) (b := x) rfl, List.filterMap_map]
    exact congrArg (x :: ·) (pick_all r)
theorem pick_perm {α : Type} (L : List α) {l : List Nat} (h : l.Perm (List.range L.length)) : (l.filterMap fun i => L[i]?).Perm L := by
  have := h.filterMap fun i => L[i]?
  rw [pick_all] at this
  exact this
theorem pick_some {α β : Type} {g : α → Option β} {f : α → β} : ∀ {l : List α}, (∀ i ∈ l, g i = some (f i)) → l.filterMap g = l.map f
  | [], _ => rfl
  | i :: l, h => by rw [List.filterMap_cons_some (h i List.mem_cons_self), List.map_cons, pick_some fun j hj => h j (List.mem_cons_of_mem _ hj)]
theorem pick_map {α β : Type} (L : List α) (f : α → β) {l : List Nat} : (l.filterMap fun i => (L[i]?).map f) = (l.filterMap fun i => L[i]?).map f := by
  induction l with
  | nil => rfl
  | cons i l ih =>
    cases h : L[i]? with
    | none => rw [List.filterMap_cons_none (by rw [h]; rfl), List.filterMap_cons_none h, ih]
    | some x => rw [List.filterMap_cons_some (b := f x) (by rw [h]; rfl), List.filterMap_cons_some h, ih, List.map_cons]
theorem sd_relay {o : Obj} (ho : s.heap.get? a = some o) (hex : o.ExactSet) (hd : o.data = .set es ep t) (he : es.toList = L.map fun p => (tupleKeyHash knd p.2, Value.ref p.1)) (hsz : t.place.size = es.size) (hdm : t.dummies = #[]) (hfl : es.size ≤ t.mask)
    (keys : ∀ p ∈ L, IsTupleKey knd s.heap p.2 p.1) (few : L.length < 64) {wanted M : Nat} (hw : SetTable.sizeAbove wanted - 1 = M) (hM : MaskOk M) (hw2 : SetTable.sizeAbove wanted ≤ 128) (hn : L.length * 5 < M * 3) {Q : Unit → Shared → Prop}
    (hQ : ∀ h' L' es' ep' t', Heap.SameBut a s.heap h' → SetD knd h' a L' es' ep' t' → L'.Perm L → Q () { s with heap := h' }) : wpAny (model P w) A (setRelay a wanted) Q E s := by
  have sl : es.size = L.length := by rw [← Array.length_toList, he, List.length_map]
  have fits : t.fits es.size = true := by
    unfold SetTable.fits SetTable.fill
    rw [hdm, Bool.and_eq_true, beq_iff_eq, decide_eq_true_eq]
    exact ⟨hsz, by show t.place.size + 0 ≤ t.mask; omega⟩
  obtain ⟨t', order, e, hp, T, em, _, _, ed⟩ := relaid_ok t (hs := es.map (·.1)) (wanted := wanted) hw hM (by rw [Array.size_map, sl]; omega)
  rw [Array.size_map, sl] at hp
  have ent : ∀ i, es[i]? = (L[i]?).map fun p : Addr × List κ => (tupleKeyHash knd p.2, Value.ref p.1) := fun i => by rw [← Array.getElem?_toList, he, List.getElem?_map]
  have pm := pick_perm L hp
  have e2 : (order.filterMap (es[·]?)).toList = (order.toList.filterMap fun i => L[i]?).map fun p => (tupleKeyHash knd p.2, Value.ref p.1) := by
    rw [Array.toList_filterMap, ← pick_map]
    exact congrArg (fun g => List.filterMap g order.toList) (funext ent)
  have e3 : (order.toList.map fun i => (es.map (·.1)).getD i 0) = (order.toList.filterMap fun i => L[i]?).map fun p => tupleKeyHash knd p.2 := by
    rw [← pick_map]
    refine (pick_some fun i hi => ?_).symm
    have li := List.mem_range.mp (hp.mem_iff.mp hi)
    have h1 : (es.map (·.1))[i]? = some (tupleKeyHash knd L[i].2) := by rw [Array.getElem?_map, ent, List.getElem?_eq_getElem li]; rfl
    rw [List.getElem?_eq_getElem li, Array.getD_eq_getD_getElem?, h1]
    rfl
  rw [e3] at T
  generalize order.toList.filterMap (fun i => L[i]?) = L2 at *
  have sz2 : (order.filterMap (es[·]?)).size = es.size := by rw [← Array.length_toList, e2, List.length_map, pm.length_eq, sl]
  rw [setRelay_eq]
  refine wpAny_bind (wpAny_setState_of ho hd fits ?_)
  dsimp only
  refine wp_if_neg (by rw [sizeLine_eq]; omega) ?_
  try refine wpAny_bind (wpAny_pure ?_)
  rw [e]
  dsimp only
  refine wpAny_bind (wp_if_neg (by rw [sz2]; simp) ?_)
  try refine wpAny_bind (wpAny_pure ?_)
  refine wpAny_pure ?_
  dsimp only
  refine wpAny_storeSet_of ho hd ?_ (by rw [sz2, sl, sizeLine_eq]; omega)
  have sb : Heap.SameBut a s.heap (s.heap.update a (Obj.putSet (order.filterMap (es[·]?)) t')) := Heap.SameBut.update ..
  exact hQ _ L2 _ (ep + 1) t' sb ⟨⟨_, store_at ho hd, ⟨hex.1, hex.2.1, hex.2.2⟩, rfl⟩, e2, T, fun p hpm => tup_stays (keys p (pm.mem_iff.mp hpm)) ho hd sb, by rw [pm.length_eq, em]; exact hn, by rw [pm.length_eq]; exact few⟩ pm
theorem sd_add (pl : Plain knd) (R : SetD knd s.heap a L es ep t) {x : Addr} {k : List κ} (hx : IsTupleKey knd s.heap k x) (hu : A.units < cLine) (hk : ∀ p ∈ L, p.2 ≠ k) (few : L.length + 1 < 64) {Q : Bool → Shared → Prop}
    (hQ : ∀ b h' L' es' ep' t', Heap.SameBut a s.heap h' → SetD knd h' a L' es' ep' t' → L'.Perm ((x, k) :: L) → Q b { s with heap := h' }) : wpAny (model P w) A (setAddHashed a (.ref x) (tupleKeyHash knd k)) Q E s := by
  obtain ⟨o, ho, hex, hd⟩ := R.obj
  have sl := R.size
  have rm := R.room
  unfold setAddHashed
  refine wpAny_holding ?_
  rw [show (100000 : Nat) = 99999 + 1 from rfl, setAddHashedIn_succ]
  refine wpAny_bind (wpAny_setState_of ho hd R.fits ?_)
  dsimp only
  refine wp_if_neg (by simp [byScan, Value.scannable]) ?_
  try refine wpAny_bind (wpAny_pure ?_)
  refine wpAny_bind (sd_search pl R hx hu hk fun K hK hb => ?_)
  dsimp only
  refine wpAny_bind (wpAny_setState_of ho hd R.fits ?_)
  dsimp only
  obtain ⟨q1, q2, q3, q4, _, _, _, _, q9⟩ := R.tab.put hK hb
  generalize t.put (way t.mask (tupleKeyHash knd k) K) = pt at *
  obtain ⟨t1, n⟩ := pt
  dsimp only at q1 q2 q3 q4 q9 ⊢
  have ins : (SetTable.insertAt es n (tupleKeyHash knd k, Value.ref x)).toList = (L.take n ++ (x, k) :: L.drop n).map fun p => (tupleKeyHash knd p.2, Value.ref p.1) := by
    rw [SetTable.toList_insertAt, R.ents, List.map_append, List.map_cons, List.map_take, List.map_drop]
  rw [← q1] at q2 q3
  have pm := ins_perm L n (x, k)
  have ll : (L.take n ++ (x, k) :: L.drop n).length = L.length + 1 := pm.length_eq
  have hh : (L.take n ++ (x, k) :: L.drop n).map (fun p => tupleKeyHash knd p.2) = (L.map fun p => tupleKeyHash knd p.2).take n ++ tupleKeyHash knd k :: (L.map fun p => tupleKeyHash knd p.2).drop n := by
    rw [List.map_append, List.map_cons, List.map_take, List.map_drop]
  rw [← hh] at q3
  have isz : (SetTable.insertAt es n (tupleKeyHash knd k, Value.ref x)).size = L.length + 1 := by rw [← Array.length_toList, ins, List.length_map, ll]
  generalize SetTable.insertAt es n (tupleKeyHash knd k, Value.ref x) = es1 at *
  generalize L.take n ++ (x, k) :: L.drop n = L1 at *
  have fin : ∀ t2 : SetTable, t2.place = t1.place → t2.dummies = t1.dummies → t2.mask = t1.mask → t2.tooFull = t1.tooFull →
      wpAny (model P w) A (do
        storeSet a es1 t2
        if !false && t2.tooFull then setRelay a (SetTable.grown (es.size + 1))
        return true) Q E s := fun t2 e1 e2 e3 e4 => by
    have T2 : TabOk t2 (L1.map fun p => tupleKeyHash knd p.2) := ⟨by rw [e1]; exact q3.ris, by rw [e2]; exact q3.dm, by rw [e1]; exact q3.sz, by rw [e3]; exact q3.mok, by rw [e1, e3]; exact q3.bd, by rw [e1, e3]; exact q3.reach⟩
    refine wpAny_bind (wpAny_storeSet_of ho hd ?_ (by rw [isz, sizeLine_eq]; omega))
    have sb : Heap.SameBut a s.heap (s.heap.update a (Obj.putSet es1 t2)) := Heap.SameBut.update ..
    have ho1 := store_at (es' := es1) (t' := t2) ho hd
    generalize s.heap.update a (Obj.putSet es1 t2) = h1 at sb ho1 ⊢
    have keys1 : ∀ p ∈ L1, IsTupleKey knd h1 p.2 p.1 := fun p hp => by
      rcases List.mem_cons.mp (pm.mem_iff.mp hp) with e | hp
      · rw [e]; exact tup_stays hx ho hd sb
      · exact tup_stays (R.keys p hp) ho hd sb
    have full : t1.tooFull = decide ((L.length + 1) * 5 ≥ t1.mask * 3) := by
      unfold SetTable.tooFull
      rw [q9, List.length_map]
    by_cases hf : (L.length + 1) * 5 ≥ t1.mask * 3
    · rw [e4, full, decide_eq_true hf]
      have two : (t.mask = 7 ∧ L.length = 4) ∨ (t.mask = 31 ∧ L.length = 18) := by
        rcases R.tab.mok with e | e | e
        · exact .inl ⟨e, by rw [q4, e] at hf; rw [e] at rm; omega⟩
        · exact .inr ⟨e, by rw [q4, e] at hf; rw [e] at rm; omega⟩
        · exfalso; rw [q4, e] at hf; omega
      rw [sl]
      have psz : t2.place.size = es1.size := by
        have := T2.sz
        rw [List.length_map, ll] at this
        rw [this, isz]
      have go : ∀ M, SetTable.sizeAbove (SetTable.grown (L.length + 1)) - 1 = M → MaskOk M → SetTable.sizeAbove (SetTable.grown (L.length + 1)) ≤ 128 → (L.length + 1) * 5 < M * 3 →
          wpAny (model P w) A (setRelay a (SetTable.grown (L.length + 1))) (fun _ s' => wpAny (model P w) A (pure true) Q E s') E { s with heap := h1 } := fun M m1 m2 m3 m4 =>
        sd_relay (s := { s with heap := h1 }) ho1 ⟨hex.1, hex.2.1, hex.2.2⟩ rfl ins psz T2.dm (by rw [isz, e3, q4]; rcases two with ⟨e, e2⟩ | ⟨e, e2⟩ <;> omega) keys1 (by rw [ll]; exact few) m1 m2 m3 (by rw [ll]; exact m4)
          fun h2 L2 es2 ep2 tt2 sb2 R2 pm2 => wpAny_pure (hQ true h2 L2 es2 ep2 tt2 (sb.trans sb2) R2 (pm2.trans pm))
      refine wp_if_pos (by decide) (wpAny_bind ?_)
      rcases two with ⟨_, e2⟩ | ⟨_, e2⟩
      · exact go 31 (by rw [e2, size_20]) (.inr (.inl rfl)) (by rw [e2, size_20]; decide) (by omega)
      · exact go 127 (by rw [e2, size_76]) (.inr (.inr rfl)) (by rw [e2, size_76]; decide) (by omega)
    · rw [e4, full, decide_eq_false hf]
      refine wp_if_neg (by decide) ?_
      try refine wpAny_bind (wpAny_pure ?_)
      exact wpAny_pure (hQ true h1 L1 es1 (ep + 1) t2 sb ⟨⟨_, ho1, ⟨hex.1, hex.2.1, hex.2.2⟩, rfl⟩, ins, T2, keys1, by rw [ll, e3]; omega, by rw [ll]; exact few⟩ pm)
  by_cases hp1 : t1.plain = true
  · refine wp_if_pos hp1 (wpAny_bind (st_hsh pl hx fun y => ?_))
    cases y with
    | true =>
      simp only [if_true]
      exact fin _ rfl rfl rfl rfl
    | false =>
      simp only [Bool.false_eq_true, if_false]
      exact fin _ rfl rfl rfl rfl
  · refine wp_if_neg hp1 (wpAny_bind (wpAny_pure ?_))
    simp only [if_true]
    exact fin _ rfl rfl rfl rfl
theorem SetD.keep {h h' : Heap} (R : SetD knd h a L es ep t) (k : ∀ b o, h.get? b = some o → h'.get? b = some o) : SetD knd h' a L es ep t := by
  obtain ⟨o, ho, z⟩ := R.obj
  exact ⟨⟨o, k _ _ ho, z⟩, R.ents, R.tab, fun p hp => let ⟨o, its, n, e, y⟩ := R.keys p hp; ⟨o, its, n, k _ _ e, y⟩, R.room, R.few⟩
theorem sd_fresh {h : Heap} {led : Bool} (ho : h.get? a = some { cls := .type "set", dict := none, data := .set #[] 0 (.fresh 0 0 led) }) : SetD knd h a [] #[] 0 (.fresh 0 0 led) where
  obj := ⟨_, ho, ⟨rfl, rfl, rfl⟩, rfl⟩
  ents := rfl
  tab := ⟨List.Pairwise.nil, rfl, rfl, .inl rfl, fun x hx => absurd hx List.not_mem_nil, fun i h j hi => by simp at hi⟩
  keys := fun p hp => absurd hp List.not_mem_nil
  room := by show 0 * 5 < 7 * 3; decide
  few := by show 0 < 64; decide
end
end Sw
namespace Sw
open PySem PySem.Spec PyProof.Rows L2
section
variable {P : Program} {w : World} {A : Around} {R : Result → Shared → Prop} {κ : Type} [DecidableEq κ] {knd : KeyKind P w κ} {I : Addr} {fp wr : List Addr} {G : Array GenState → Array GenState → Prop} {n : Nat} {Pv : Nat → Value → Prop} {St : Nat → Shared → Prop}
theorem sd_loop (pl : Plain knd) (W : WalksS P w A.in1 I fp wr G n Pv St) (S : Addr) (out : S ∉ fp) (ks : List (Addr × List κ)) (hn : n = ks.length) (few : ks.length < 64) (nd : (ks.map Prod.snd).Nodup) (hval : ∀ i v, Pv i v → ∃ p, ks[i]? = some p ∧ v = .ref p.1) (h0 : Heap) (hk : ∀ p ∈ ks, IsTupleKey knd h0 p.2 p.1)
    (hS0 : h0.get? S = none) (hw0 : ∀ b ∈ wr, h0.get? b = none) (hu : A.in1.units < cLine) :
    ∀ (j i : Nat) (s : Shared), n - i = j → i ≤ n → St i s → (∀ b o, h0.get? b = some o → s.heap.get? b = some o) → (∃ L es ep t, SetD knd s.heap S L es ep t ∧ L.Perm (ks.take i)) →
      (∀ s' L es ep t, Moved (S :: wr) G s s' → SetD knd s'.heap S L es ep t → L.Perm ks → R (.ok (.ret .none)) s') → codeAny (model P w) A (.builtin "set.update.loop" ⟨[.ref S, .ref I], []⟩) R s := by
  have outW : S ∉ wr := fun z => out (W.sub _ z)
  have more : ∀ b ∈ wr, b ∈ S :: wr := fun b z => List.mem_cons_of_mem _ z
  have moves : ∀ {s s' : Shared}, Moved wr G s s' → (∀ b o, h0.get? b = some o → s.heap.get? b = some o) → ∀ b o, h0.get? b = some o → s'.heap.get? b = some o := fun mv k b o e => mv.heap b o (fun z => by rw [hw0 b z] at e; cases e) (k b o e)
  have stays : ∀ {h : Heap}, (∀ b o, h0.get? b = some o → h.get? b = some o) → ∀ p ∈ ks, IsTupleKey knd h p.2 p.1 := fun k p hp => let ⟨o, its, m, e, y⟩ := hk p hp; ⟨o, its, m, k _ _ e, y⟩
  have moved : ∀ {s s' : Shared} {L es ep t}, Moved wr G s s' → (∀ b o, h0.get? b = some o → s.heap.get? b = some o) → (∀ p ∈ L, p ∈ ks) → SetD knd s.heap S L es ep t → SetD knd s'.heap S L es ep t := fun mv k sub x => by
    obtain ⟨o, ho, z⟩ := x.obj
    exact ⟨⟨o, mv.heap S o outW ho, z⟩, x.ents, x.tab, fun p hp => stays (moves mv k) p (sub p hp), x.room, x.few⟩
  intro j
  induction j with
  | zero =>
    intro i s hj hi st kp ⟨L, es, ep, t, hS, pm⟩ fin
    obtain rfl : i = n := by omega
    refine codeAny_builtin F.entry_set_update_loop ?_
    rw [Around.under_plainId F.plain_set_update_loop _]
    show wpAny _ A.in1 (pyNext (.ref I) >>= _) _ _ s
    refine wpAny_bind (W.done s _ _ st fun s' mv => ?_)
    have pm2 : L.Perm ks := by rw [hn, List.take_length] at pm; exact pm
    exact wpAny_pure (fin s' L es ep t (mv.mono more) (moved mv kp (fun p hp => pm2.mem_iff.mp hp) hS) pm2)
  | succ j ih =>
    intro i s hj hi st kp ⟨L, es, ep, t, hS, pm⟩ fin
    have lt : i < n := by omega
    refine codeAny_builtin F.entry_set_update_loop ?_
    rw [Around.under_plainId F.plain_set_update_loop _]
    show wpAny _ A.in1 (pyNext (.ref I) >>= _) _ _ s
    refine wpAny_bind (W.item i s _ _ lt st fun v s' hP st' mv => ?_)
    obtain ⟨p, hp, rfl⟩ := hval i v hP
    have kp' := moves mv kp
    have hS' := moved mv kp (fun p hp => List.mem_of_mem_take (pm.mem_iff.mp hp)) hS
    have hx := stays kp' p (List.mem_of_getElem? hp)
    have tk : ks.take (i + 1) = ks.take i ++ [p] := by
      rw [List.take_add_one, hp]
      rfl
    have new : ∀ q ∈ L, q.2 ≠ p.2 := fun q hq e => by
      have : ((ks.take (i + 1)).map Prod.snd).Nodup := nd.sublist ((List.take_sublist _ _).map _)
      rw [tk, List.map_append, List.nodup_append] at this
      exact this.2.2 q.2 (List.mem_map_of_mem (pm.mem_iff.mp hq)) p.2 (List.mem_singleton.mpr rfl) e
    have lL : L.length ≤ i := by rw [pm.length_eq, List.length_take]; exact Nat.min_le_left _ _
    show wpAny _ A.in1 (holding [Value.ref p.1] (setAdd S (.ref p.1)) >>= _) _ _ s'
    refine wpAny_bind (wpAny_holding ?_)
    unfold setAdd
    refine wpAny_holding (wpAny_bind (wpAny_pyHash_tuple hu hx ?_))
    refine sd_add pl (s := { s' with toks := s'.toks + (p.2.length + 1) }) hS' hx hu new (by omega) fun b h' L' es' ep' t' sb hS2 pm2 => ?_
    have kp2 : ∀ b o, h0.get? b = some o → h'.get? b = some o := fun b o e => (sb.2 b (fun z => by rw [z, hS0] at e; cases e)).trans (kp' b o e)
    refine wpAny_pure ⟨plainId_quiet F.plain_set_update_loop _, ih (i + 1) _ (by omega) lt (W.frame _ s' _ _ st' (Nat.le_add_right _ _) fun b hb o e => (sb.2 b fun q => out (q ▸ hb)).trans e) kp2 ⟨L', es', ep', t', hS2, ?_⟩ fun s'' L2 es2 ep2 t2 mv2 hS3 pm3 => ?_⟩
    · rw [tk]
      exact pm2.trans ((pm.cons p).trans (List.perm_append_singleton _ _).symm)
    · exact fin s'' L2 es2 ep2 t2 (Moved.trans W.gtrans ((mv.mono more).then_heap (Nat.le_add_right _ _) fun b o hb e => (sb.2 b fun q => hb (q ▸ List.mem_cons_self)).trans e) mv2) hS3 pm3
end
section
variable {P : Program} {w : World} {A : Around} {E : Value → Shared → Prop} {s : Shared} {κ : Type} [DecidableEq κ] {knd : KeyKind P w κ}
set_option maxHeartbeats 8000000 in
theorem call_setT (pl : Plain knd) {l : Addr} {items : Array Value} (ks : List (Addr × List κ)) {Q : Value → Shared → Prop} (hh : A.handled = none) (hl : s.heap.IsTuple l items) (hit : items.toList = ks.map fun p => Value.ref p.1) (hk : ∀ p ∈ ks, IsTupleKey knd s.heap p.2 p.1) (few : ks.length < 64) (nd : (ks.map Prod.snd).Nodup) (hu : A.units + 3 < cLine)
    (fin : ∀ (h' : Heap) (tk : Nat) L es ep t, SetD knd h' s.heap.objs.size L es ep t → L.Perm ks → (∀ b o, b < s.heap.objs.size → s.heap.get? b = some o → h'.get? b = some o) → Q (.ref s.heap.objs.size) { s with heap := h', toks := tk }) :
    wpAny (model P w) A (call (.type "set") [.ref l]) Q E s := by
  have isz : items.size = ks.length := by rw [← Array.length_toList, hit, List.length_map]
  obtain ⟨c, tl, hmro⟩ := PySem.F.called_set.mro
  have hmade := PySem.F.called_set.made
  have hsub := PySem.F.called_set.sub
  refine wpAny_call (codeAny_of_tree ?_)
  show wpAny _ _ (callAny (.type "set") _) _ _ _
  refine wpAny_pure ⟨Code.quiet_builtin _ (by decide +kernel), codeAny_builtin PySem.F.entry_type_call ?_⟩
  rw [Around.under_plain (weight_type_call_type "set" [.ref l] []) rfl]
  have q1 := PySem.F.called_set.notType
  have q2 := PySem.F.called_set.canCreate
  have q3 := PySem.F.typeCall_set_1 (.ref l)
  repeat (any_goals (first | assumption | wp_step))
  refine codeAny_mono (code_set_new_1 (.ref l) (E := E) (Q₁ := fun obj s₁ => ∃ led : Bool, obj = .ref s.heap.objs.size ∧ s₁ = { s with heap := s.heap.push { cls := .type "set", dict := none, data := .set #[] 0 (.fresh 0 0 led) } }) fun led => ⟨led, rfl, rfl⟩) fun r s₁ hr => ?_
  cases r with
  | error e => exact hr
  | ok fl =>
    cases fl with
    | next => exact hr.elim
    | brk => exact hr.elim
    | cont => exact hr.elim
    | ret obj =>
      obtain ⟨led, rfl, rfl⟩ := hr
      have hS : (s.heap.push { cls := .type "set", dict := none, data := .set #[] 0 (.fresh 0 0 led) }).get? s.heap.objs.size = some { cls := .type "set", dict := none, data := .set #[] 0 (.fresh 0 0 led) } := Heap.get?_push_size _ rfl
      have hT : Shared.TypeIs { s with heap := s.heap.push { cls := .type "set", dict := none, data := .set #[] 0 (.fresh 0 0 led) } } (.ref s.heap.objs.size) "set" := ⟨_, hS, rfl⟩
      have hli := PySem.F.called_set.init.lookup
      have hbi := PySem.F.called_set.init.bind (.ref s.heap.objs.size)
      repeat (any_goals (first | assumption | wp_step))
      refine codeAny_mono (codeAny_call_builtin (R := wants (fun r s₂ => r = .none ∧ ∃ h' tk L es ep t, s₂ = { s with heap := h', toks := tk } ∧ SetD knd h' s.heap.objs.size L es ep t ∧ L.Perm ks ∧
          (∀ b o, b < s.heap.objs.size → s.heap.get? b = some o → h'.get? b = some o)) E) PySem.F.called_set.init.plain PySem.F.entry_set_init (check_set_init_1 hT ?_)) fun r₂ s₂ hr₂ => ?_
      · obtain ⟨⟨cl', di', da', sl'⟩, hol, hcl, nl, hdl⟩ := hl
        simp only at hcl hdl
        subst hcl hdl
        have hol' : (s.heap.push { cls := .type "set", dict := none, data := .set #[] 0 (.fresh 0 0 led) }).get? l = some { cls := .type "tuple", dict := di', data := .seq items nl, slots := sl' } := Heap.get?_push_of_some _ hol
        have z1 := PySem.F.sub_tuple_set
        have z2 := PySem.F.sub_tuple_frozenset
        have z3 : (Value.type "tuple" == Value.type "dict") = false := by decide
        have hl1 : (s.heap.push { cls := .type "set", dict := none, data := .set #[] 0 (.fresh 0 0 led) }).IsTuple l items := ⟨_, hol', rfl, nl, rfl⟩
        unfold Builtin.«set.__init__» noKeywords Builtin.Frozenset.updateFrom
        generalize hPI : pyIter = PI
        wp_walk
        subst hPI
        refine wpAny_pyIter_tuple hl1 (wpAny_bind (wpAny_runValue ?_))
        have lt := Heap.lt_size hol
        have hh3 : A.in1.in1.in1.handled = none := by simp [hh]
        have ne1 : l ≠ (s.heap.push { cls := .type "set", dict := none, data := .set #[] 0 (.fresh 0 0 led) }).objs.size := by
          rw [Heap.size_push]
          exact Nat.ne_of_lt (Nat.lt_succ_of_lt lt)
        have nf : s.heap.objs.size ∉ [(s.heap.push { cls := .type "set", dict := none, data := .set #[] 0 (.fresh 0 0 led) }).objs.size, l] := by
          rw [Heap.size_push]
          simp only [List.mem_cons, List.mem_singleton, List.not_mem_nil, or_false, not_or]
          exact ⟨Nat.ne_of_lt (Nat.lt_succ_self _), Nat.ne_of_gt lt⟩
        have away : ∀ b, s.heap.objs.size ≤ b → s.heap.get? b = none := fun b hb => by
          cases q : s.heap.get? b with
          | none => rfl
          | some o => exact absurd (Nat.lt_of_lt_of_le (Heap.lt_size q) hb) (Nat.lt_irrefl _)
        refine sd_loop pl ((Walks.tuple hh3 _ l ne1 items).toS) s.heap.objs.size nf ks isz few nd (fun i v hv => ?hv) s.heap hk (away _ (Nat.le_refl _)) (fun b hb => away b ?hb) ?hu (items.size - 0) 0 _ (by omega) (Nat.zero_le _) ⟨⟨_, Heap.get?_push_size _ rfl, rfl, rfl⟩, (hl1.push _)⟩ (fun b o e => Heap.get?_push_of_some _ (Heap.get?_push_of_some _ e)) ?begin ?finish
        case hv =>
          have q : items.toList[i]? = some v := by rw [Array.getElem?_toList]; exact hv
          rw [hit, List.getElem?_map] at q
          obtain ⟨p, hp, rfl⟩ := Option.map_eq_some_iff.mp q
          exact ⟨p, hp, rfl⟩
        case hb =>
          rw [List.mem_singleton.mp hb, Heap.size_push]
          exact Nat.le_succ _
        case hu =>
          show A.units + 1 + 1 + 1 < cLine
          omega
        case begin =>
          have hget : ((s.heap.push { cls := .type "set", dict := none, data := .set #[] 0 (.fresh 0 0 led) }).push { cls := .type "tuple_iterator", data := .fields #[.ref l, .int 0 0] }).get? s.heap.objs.size
              = some { cls := .type "set", dict := none, data := .set #[] 0 (.fresh 0 0 led) } := Heap.get?_push_of_some _ hS
          exact ⟨[], #[], 0, _, sd_fresh hget, List.Perm.refl _⟩
        case finish =>
          intro s' L es ep t mv hS' pm
          obtain ⟨h', g', d', tk', os'⟩ := s'
          have eg : g' = s.gens := mv.gens
          have ed : d' = s.drawn := mv.drawn
          have eo : os' = s.os := mv.os
          subst eg ed eo
          show wpAny _ _ _ _ _ _
          refine wpAny_pure ?_
          show wpAny _ _ (ret Value.none) _ _ _
          refine wpAny_pure ⟨rfl, h', tk', L, es, ep, t, rfl, hS', pm, fun b o hb z => ?_⟩
          have ne2 : b ≠ (s.heap.push { cls := .type "set", dict := none, data := .set #[] 0 (.fresh 0 0 led) }).objs.size := by
            rw [Heap.size_push]
            exact Nat.ne_of_lt (Nat.lt_succ_of_lt hb)
          have k1 := Heap.get?_push_of_some ({ cls := .type "set", dict := none, data := .set #[] 0 (.fresh 0 0 led) } : Obj) z
          exact mv.heap b o (by simp only [List.mem_cons, List.mem_singleton, List.not_mem_nil, or_false, not_or]; exact ⟨Nat.ne_of_lt hb, ne2⟩) (Heap.get?_push_of_some _ k1)
      · cases r₂ with
        | error e => exact hr₂
        | ok fl₂ =>
          cases fl₂ with
          | ret r =>
            obtain ⟨rfl, h', tk, L, es, ep, t, rfl, hS', pm, hk'⟩ := hr₂
            repeat (any_goals (first | assumption | wp_step))
            exact fin _ _ _ _ _ _ hS' pm hk'
          | next => exact hr₂.elim
          | brk => exact hr₂.elim
          | cont => exact hr₂.elim
end
def keyVs (k : List Key) : List V := k.map kV
def tLenSetR (K : PySem.W.Frag) (ta : TE) : TE := fun σ H Q => ta σ H fun x H1 => ∃ l, ∃ ks : List (Addr × List Key), x = .ref l ∧ SqT K H1 l (ks.map fun p => V.ref p.1) ∧ (∀ p ∈ ks, SqT K H1 p.1 (keyVs p.2)) ∧ ks.length ≤ 20 ∧ (ks.map Prod.snd).Nodup ∧ Q (.int ks.length) H1
theorem items_keys {P : Program} {w : World} : ∀ {k : List Key} {its : List Value}, Vals (keyVs k) its → ItemsAre (mixKind P w) k its
  | [], _, h => by
    cases h
    exact .nil
  | x :: k, _, h => by
    cases h with
    | cons h1 h2 =>
      refine .cons ?_ (items_keys h2)
      cases x with
      | inl i =>
        obtain ⟨t, rfl⟩ := h1
        show keyIs (Sum.inl i) (.int i t) = true
        simp [keyIs, Value.isInt]
      | inr z =>
        obtain ⟨t, rfl⟩ := h1
        show keyIs (Sum.inr z) (.str z t) = true
        simp [keyIs, Value.isStrOf]
theorem refs_keys : ∀ {ks : List (Addr × List Key)} {its : List Value}, Vals (ks.map fun p => V.ref p.1) its → its = ks.map fun p => Value.ref p.1
  | [], _, h => by
    cases h
    rfl
  | p :: ks, _, h => by
    cases h with
    | cons h1 h2 =>
      cases h1
      rw [refs_keys h2]
      rfl
theorem pe_lenSetR {X : Cx} {a : Expr} {ta : TE} {p p2 q pos : Pos} (K : PySem.W.Frag) (hc : X.calm = true) (hu : X.A.units + 32 < cLine) (hg : Gl X "len") (hm : X.mg "len" = none) (hg2 : Gl X "set") (hm2 : X.mg "set" = none) (ha : PE X a ta) (hK : X.K = K := by rfl)
    (na : starEach [a] X.env = (false, eval a X.env) :: starEach [] X.env := by rfl) : PE X (.Call (.Name "len" p) [.Call (.Name "set" p2) [a] [] q] [] pos) (tLenSetR K ta) := by
  subst hK
  refine ⟨fun pins s σ H Q I h => ?_⟩
  refine Call_ (ld_blt I hg hm boot_len ?_)
  refine PyProof.Rows.callWith_builtin1 (PyProof.Rows.args_cons ?_ rfl) rfl rfl
  refine Call_ (ld_blt I hg2 hm2 boot_set ?_)
  refine PyProof.Rows.callWith_type1 (PyProof.Rows.args_cons (thn (ha.run pins s σ H _ I h) fun v s1 ⟨x, H1, I1, r1, q1⟩ => PyProof.Rows.args_nil ?_) na) na rfl
  obtain ⟨l, ks, rfl, hq, hks, hl, nd, q1⟩ := q1
  cases r1
  obtain ⟨its, r, pt, hz⟩ := I1.tuple hq
  have ei := refs_keys r
  refine call_setT (knd := mixKind X.prog X.w) plain_mix ks (I1.ok.hd hc) pt (by simpa using ei) (fun p hp => ?_) (by omega) nd (by omega) fun h' tk L es ep t hS pm hk => ?_
  · obtain ⟨i2, r2, ⟨o, ho, hcl, m, hd⟩, _⟩ := I1.tuple (hks p hp)
    exact ⟨o, _, m, ho, hcl, hd, by simpa using items_keys r2⟩
  · refine PyProof.Rows.args_nil ?_
    obtain ⟨o, ho, hex, hd⟩ := hS.obj
    have I2 : Inv X pins σ H1 { s1 with heap := h', toks := tk } := I1.kept fun b o e => hk b o (Heap.lt_size e) e
    have sz := hS.size (s := { s1 with heap := h', toks := tk })
    refine call_len_set ho hex hd (hS.fits (s := { s1 with heap := h', toks := tk })) (by rw [sz, pm.length_eq]; omega) ⟨.int ks.length, H1, I2.tok _, ⟨_, by rw [sz, pm.length_eq]⟩, q1⟩
end Sw
namespace Sw
open PySem PySem.Spec PyProof.Rows L2 RZ PySem.W
abbrev ZipX (h : Heap) (z TI TO : Addr) (f0 : Value) (f : Bool) : Prop := h.get? z = some { cls := .type "zip", dict := none, data := .fields #[f0, .bool f, .bool false, .ref TI, .ref TO], slots := #[] }
def OutV (v : Value) : Prop := v = .none ∨ ∃ T : Addr, v = rawInt T
section
variable {prog : Program} {w : World} {A : Around} {E : Value → Shared → Prop} {s : Shared} {z TI TO i1 i2 : Addr} {p1 p2 : List Addr} {n1 n2 i : Nat} {P1 P2 : Nat → Value → Prop} {S1 S2 : Nat → Heap → Prop} {a1 a2 f0 : Value} {f : Bool}
theorem zx_dead {a : Addr} {Q : Option Obj → Shared → Prop} (ho : s.heap.get? a = none) (h : Q none s) : wpAny (model prog w) A (loadIfAlive a) Q E s :=
  fun _ _ _ => (show Q (s.heap.get? a) s by rw [ho]; exact h)
theorem zx_owned (hz : ZipX s.heap z TI TO f0 f) (hf : OutV f0) {Q : Bool → Shared → Prop} (k1 : Q true s) (k2 : ∀ h', ZipX h' z TI TO f0 true → Heap.SameBut z s.heap h' → Q false { s with heap := h' }) :
    wpAny (model prog w) A (Builtin.SmallTypes.ownedTupleIsFree (.ref z)) Q E s := by
  unfold Builtin.SmallTypes.ownedTupleIsFree
  rcases hf with rfl | ⟨T, rfl⟩
  · exact wpAny_bind (wpAny_field hz rfl (x := .none) rfl (wpAny_pure k1))
  refine wpAny_bind (wpAny_field hz rfl (x := rawInt T) rfl ?_)
  show wpAny _ _ (loadIfAlive ((T : Int).toNat) >>= _) _ _ _
  rw [Int.toNat_natCast]
  cases hT : s.heap.get? T with
  | none =>
    refine wpAny_bind (zx_dead hT ?_)
    simp only [Option.isNone_none, if_true]
    exact wpAny_pure k1
  | some o =>
    refine wpAny_bind (kdx_alive hT ?_)
    simp only [Option.isNone_some, Bool.false_eq_true, if_false]
    refine wpAny_bind (wpAny_field hz rfl (x := .bool f) rfl ?_)
    cases f with
    | true =>
      rw [if_neg (show ¬ ((Value.bool true != Value.bool true) = true) from by decide)]
      exact wpAny_pure (k2 _ hz (Heap.SameBut.refl ..))
    | false =>
      rw [if_pos (show (Value.bool false != Value.bool true) = true from by decide)]
      exact wpAny_bind (wpAny_setField_rec hz (by simp) fun _ y1 y2 => wpAny_pure (k2 _ y1 y2))
theorem zx_next {Q : Value → Shared → Prop} (S : ZipSep2 z TI TO i1 i2 p1 p2) (D1 : Draws prog w A i1 p1 n1 P1 S1) (D2 : Draws prog w A i2 p2 n2 P2 S2)
    (hz : ZipX s.heap z TI TO f0 f) (hf : OutV f0) (hTI : IsTupOf2 s.heap TI (.ref i1) (.ref i2)) (hTO : IsTupOf2 s.heap TO a1 a2) (t1 : S1 i s.heap) (t2 : S2 i s.heap) (lt1 : i < n1) (lt2 : i < n2)
    (hQ : ∀ x1 x2 h' tk g0 g b1 b2, P1 i x1 → P2 i x2 → ZipX h' z TI TO g0 g → OutV g0 → IsTupOf2 h' TO b1 b2 → S1 (i + 1) h' → S2 (i + 1) h' → IsTupOf2 h' s.heap.objs.size x1 x2 →
      (∀ c o, c ≠ z → c ≠ TO → c ≠ i1 → c ≠ i2 → s.heap.get? c = some o → h'.get? c = some o) → Q (.ref s.heap.objs.size) { s with heap := h', toks := tk }) :
    wpAny (model prog w) A (Builtin.«zip.__next__» ⟨[.ref z], []⟩) (fun fin s' => ∃ v, fin = .done (.ret v) ∧ Q v s') E s := by
  obtain ⟨hp, gs, dr, tk0, os⟩ := s
  show wpAny _ _ (field (.ref z) 2 >>= _) _ _ _
  refine wpAny_bind (wpAny_field hz rfl (x := .bool false) rfl ?_)
  show wpAny _ _ (field (.ref z) 3 >>= _) _ _ _
  refine wpAny_bind (wpAny_field hz rfl (x := .ref TI) rfl (wpAny_bind (wpAny_seqItems hTI rfl ?_)))
  show wpAny _ _ (Builtin.SmallTypes.ownedTupleIsFree (.ref z) >>= _) _ _ _
  refine wpAny_bind (zx_owned hz hf ?free fun g0 hz0 hs0 => ?kept)
  case free =>
    simp only [if_true]
    refine wpAny_bind (wpAny_rule (wpAny_bind (wpAny_field hz rfl (x := .ref TO) rfl (wpAny_bind (wpAny_setField_rec hz (by simp) fun g0 hz0 hs0 => ?_)))))
    replace hz0 : ZipX g0 z TI TO .ellipsis f := hz0
    replace hs0 : Heap.SameBut z hp g0 := hs0
    refine wpAny_bind ?_
    simp only [List.zipIdx_cons, List.zipIdx_nil, List.forIn_cons, List.forIn_nil]
    refine wpAny_bind (wpAny_bind (wpAny_onRaise ?_))
    show wpAny _ _ (Builtin.SmallTypes.nextOf (.ref i1) >>= _) _ _ ⟨g0, gs, dr, tk0, os⟩
    refine wpAny_bind (D1.item i _ _ _ lt1 (D1.over t1 hs0 S.zf1) fun x1 q1 tk1 hx1 sn1 hq1 => wpAny_pure ?_)
    replace hq1 : Heap.SameBut i1 g0 q1 := hq1
    have u1 : IsTupOf2 q1 TO a1 a2 := hq1.extBut _ _ S.Ti1 (hs0.extBut _ _ S.TOz hTO)
    refine wpAny_bind (wpAny_seqItems (s := ⟨q1, gs, dr, tk1, os⟩) u1 rfl (wpAny_bind (updateSeq_IsTupOf2 (s := ⟨q1, gs, dr, tk1, os⟩) u1 fun g1 hT1 hs1 => ?_)))
    replace hT1 : IsTupOf2 g1 TO x1 a2 := hT1
    replace hs1 : Heap.SameBut TO q1 g1 := hs1
    refine wpAny_bind (wpAny_letGo (wpAny_pure (wpAny_bind (wpAny_bind (wpAny_onRaise ?_)))))
    show wpAny _ _ (Builtin.SmallTypes.nextOf (.ref i2) >>= _) _ _ ⟨g1, gs, dr, tk1, os⟩
    refine wpAny_bind (D2.item i _ _ _ lt2 (D2.over (D2.over (D2.over t2 hs0 S.zf2) hq1 S.sep1_2) hs1 S.Tf2) fun x2 q2 tk2 hx2 sn2 hq2 => wpAny_pure ?_)
    replace hq2 : Heap.SameBut i2 g1 q2 := hq2
    have u2 : IsTupOf2 q2 TO x1 a2 := hq2.extBut _ _ S.Ti2 hT1
    refine wpAny_bind (wpAny_seqItems (s := ⟨q2, gs, dr, tk2, os⟩) u2 rfl (wpAny_bind (updateSeq_IsTupOf2 (s := ⟨q2, gs, dr, tk2, os⟩) u2 fun g2 hT2 hs2 => ?_)))
    replace hT2 : IsTupOf2 g2 TO x1 x2 := hT2
    replace hs2 : Heap.SameBut TO q2 g2 := hs2
    refine wpAny_bind (wpAny_letGo (wpAny_pure (wpAny_pure (wpAny_bind (wpAny_seqItems (s := ⟨g2, gs, dr, tk2, os⟩) hT2 rfl (wpAny_bind (wpAny_newTuple ?_)))))))
    have sz : g2.objs.size = hp.objs.size := ((hs2.1.trans hq2.1).trans (hs1.1.trans hq1.1)).trans hs0.1
    have hzz : ZipX g2 z TI TO .ellipsis f := hs2.extBut _ _ S.TOz.symm (hq2.extBut _ _ S.zi2 (hs1.extBut _ _ S.TOz.symm (hq1.extBut _ _ S.zi1 hz0)))
    have kk : ∀ c o, c ≠ z → c ≠ TO → c ≠ i1 → c ≠ i2 → hp.get? c = some o → g2.get? c = some o := fun c o cz cT c1 c2 e => hs2.extBut _ _ cT (hq2.extBut _ _ c2 (hs1.extBut _ _ cT (hq1.extBut _ _ c1 (hs0.extBut _ _ cz e))))
    have j1 : S1 (i + 1) g2 := D1.over (D1.over (D1.over sn1 hs1 S.Tf1) hq2 S.sep2_1) hs2 S.Tf1
    have j2 : S2 (i + 1) g2 := D2.over sn2 hs2 S.Tf2
    have lz := Heap.lt_size hzz
    show wpAny _ _ (Builtin.SmallTypes.ownedTupleHandOut (.ref z) (.ref g2.objs.size) >>= _) _ _ ⟨g2.push { cls := .type "tuple", data := .seq #[x1, x2] }, gs, dr, tk2, os⟩
    refine wpAny_bind ?_
    unfold Builtin.SmallTypes.ownedTupleHandOut
    have hz6 : ZipX (g2.push { cls := .type "tuple", data := .seq #[x1, x2] }) z TI TO .ellipsis f := Heap.get?_push_of_some _ hzz
    refine wpAny_bind (wpAny_setField_rec hz6 (by simp) fun h7 hz7 hs7 => ?_)
    replace hz7 : ZipX h7 z TI TO (rawInt g2.objs.size) f := hz7
    refine wpAny_setField_rec hz7 (by simp) fun h8 hz8 hs8 => ?_
    replace hz8 : ZipX h8 z TI TO (rawInt g2.objs.size) false := hz8
    replace hs7 : Heap.SameBut z (g2.push { cls := .type "tuple", data := .seq #[x1, x2] }) h7 := hs7
    replace hs8 : Heap.SameBut z h7 h8 := hs8
    have up : ∀ c o, c ≠ z → g2.get? c = some o → h8.get? c = some o := fun c o c1 e => hs8.extBut _ _ c1 (hs7.extBut _ _ c1 (Heap.get?_push_of_some _ e))
    have hT8 : IsTupOf2 h8 g2.objs.size x1 x2 := hs8.extBut _ _ (Nat.ne_of_gt lz) (hs7.extBut _ _ (Nat.ne_of_gt lz) (Heap.get?_push_size _ rfl))
    refine wpAny_pure ⟨_, rfl, ?_⟩
    show Q (.ref g2.objs.size) ⟨h8, gs, dr, tk2, os⟩
    rw [sz] at hT8 ⊢
    exact hQ x1 x2 h8 tk2 _ _ _ _ hx1 hx2 hz8 (.inr ⟨_, rfl⟩) (up _ _ S.TOz hT2) (D1.frame _ _ _ j1 fun b hb o e => up b o (fun q => S.zf1 (q ▸ hb)) e) (D2.frame _ _ _ j2 fun b hb o e => up b o (fun q => S.zf2 (q ▸ hb)) e) hT8 fun c o cz cT c1 c2 e => up c o cz (kk c o cz cT c1 c2 e)
  case kept =>
    replace hs0 : Heap.SameBut z hp g0 := hs0
    simp only [Bool.false_eq_true, if_false]
    refine wpAny_bind ?_
    rw [← Array.forIn_toList]
    simp only [List.forIn_cons, List.forIn_nil]
    refine wpAny_bind (wpAny_bind (wpAny_holding ?_))
    show wpAny _ _ (Builtin.SmallTypes.nextOf (.ref i1) >>= _) _ _ ⟨g0, gs, dr, tk0, os⟩
    refine wpAny_bind (D1.item i _ _ _ lt1 (D1.over t1 hs0 S.zf1) fun x1 q1 tk1 hx1 sn1 hq1 => wpAny_pure (wpAny_pure ?_))
    replace hq1 : Heap.SameBut i1 g0 q1 := hq1
    refine wpAny_bind (wpAny_bind (wpAny_holding ?_))
    show wpAny _ _ (Builtin.SmallTypes.nextOf (.ref i2) >>= _) _ _ ⟨q1, gs, dr, tk1, os⟩
    refine wpAny_bind (D2.item i _ _ _ lt2 (D2.over (D2.over t2 hs0 S.zf2) hq1 S.sep1_2) fun x2 q2 tk2 hx2 sn2 hq2 => wpAny_pure (wpAny_pure (wpAny_pure ?_)))
    replace hq2 : Heap.SameBut i2 q1 q2 := hq2
    show wpAny _ _ (newTuple [x1, x2] >>= _) _ _ ⟨q2, gs, dr, tk2, os⟩
    refine wpAny_bind (wpAny_newTuple (wpAny_pure ⟨_, rfl, ?_⟩))
    have sz : q2.objs.size = hp.objs.size := (hq2.1.trans hq1.1).trans hs0.1
    have up : ∀ c o, q2.get? c = some o → (q2.push { cls := .type "tuple", data := .seq #[x1, x2] }).get? c = some o := fun c o e => Heap.get?_push_of_some _ e
    have hT8 : IsTupOf2 (q2.push { cls := .type "tuple", data := .seq #[x1, x2] }) q2.objs.size x1 x2 := Heap.get?_push_size _ rfl
    show Q (.ref q2.objs.size) ⟨q2.push { cls := .type "tuple", data := .seq #[x1, x2] }, gs, dr, tk2, os⟩
    rw [sz] at hT8 ⊢
    exact hQ x1 x2 _ tk2 f0 true _ _ hx1 hx2 (up _ _ (hq2.extBut _ _ S.zi2 (hq1.extBut _ _ S.zi1 hz0))) hf (up _ _ (hq2.extBut _ _ S.Ti2 (hq1.extBut _ _ S.Ti1 (hs0.extBut _ _ S.TOz hTO))))
      (D1.frame _ _ _ (D1.over sn1 hq2 S.sep2_1) fun b _ o e => up b o e) (D2.frame _ _ _ sn2 fun b _ o e => up b o e) hT8 fun c o cz cT c1 c2 e => up c o (hq2.extBut _ _ c2 (hq1.extBut _ _ c1 (hs0.extBut _ _ cz e)))
theorem zx_stop {Q : Fin → Shared → Prop} (S : ZipSep2 z TI TO i1 i2 p1 p2) (D1 : Draws prog w A i1 p1 n1 P1 S1) (D2 : Draws prog w A i2 p2 n2 P2 S2)
    (hz : ZipX s.heap z TI TO f0 f) (hf : OutV f0) (hTI : IsTupOf2 s.heap TI (.ref i1) (.ref i2)) (hTO : IsTupOf2 s.heap TO a1 a2) (t1 : S1 i s.heap) (t2 : S2 i s.heap) (le1 : i ≤ n1) (le2 : i ≤ n2) (hend : i = n1 ∨ i = n2)
    (hE : ∀ h' tk e, (∀ c o, c ≠ z → c ≠ TO → c ≠ i1 → c ≠ i2 → s.heap.get? c = some o → h'.get? c = some o) → (∃ o, h'.get? e = some o ∧ o.cls = .type "StopIteration") → E (.ref e) { s with heap := h', toks := tk }) :
    wpAny (model prog w) A (Builtin.«zip.__next__» ⟨[.ref z], []⟩) Q E s := by
  obtain ⟨hp, gs, dr, tk0, os⟩ := s
  show wpAny _ _ (field (.ref z) 2 >>= _) _ _ _
  refine wpAny_bind (wpAny_field hz rfl (x := .bool false) rfl ?_)
  show wpAny _ _ (field (.ref z) 3 >>= _) _ _ _
  refine wpAny_bind (wpAny_field hz rfl (x := .ref TI) rfl (wpAny_bind (wpAny_seqItems hTI rfl ?_)))
  show wpAny _ _ (Builtin.SmallTypes.ownedTupleIsFree (.ref z) >>= _) _ _ _
  refine wpAny_bind (zx_owned hz hf ?free fun g0 hz0 hs0 => ?kept)
  case free =>
    simp only [if_true]
    refine wpAny_bind (wpAny_rule (wpAny_bind (wpAny_field hz rfl (x := .ref TO) rfl (wpAny_bind (wpAny_setField_rec hz (by simp) fun g0 hz0 hs0 => ?_)))))
    replace hz0 : ZipX g0 z TI TO .ellipsis f := hz0
    replace hs0 : Heap.SameBut z hp g0 := hs0
    have last : ∀ (it : Addr) (q0 q : Heap) (tk : Nat) (e : Addr), z ≠ it → it = i1 ∨ it = i2 → ZipX q0 z TI TO .ellipsis f → (∀ c o, c ≠ z → c ≠ TO → c ≠ i1 → c ≠ i2 → hp.get? c = some o → q0.get? c = some o) → Heap.ExtBut it q0 q → (∃ o, q.get? e = some o ∧ o.cls = .type "StopIteration") →
        wpAny (model prog w) A (setField (.ref z) 0 .none) (fun _ s' => E (.ref e) s') E ⟨q, gs, dr, tk, os⟩ := fun it q0 q tk e ne hit hzq hk hq ⟨oe, hoe, hce⟩ => by
      have hzz : ZipX q z TI TO .ellipsis f := hq _ _ ne hzq
      have ez : e ≠ z := fun x => by subst x; rw [hzz] at hoe; cases hoe; simp at hce
      refine wpAny_setField_rec (s := ⟨q, gs, dr, tk, os⟩) hzz (by simp) fun q' _ hq' => ?_
      replace hq' : Heap.SameBut z q q' := hq'
      exact hE q' tk e (fun c o cz cT c1 c2 x => hq'.extBut _ _ cz (hq _ _ (by rcases hit with rfl | rfl; exact c1; exact c2) (hk c o cz cT c1 c2 x))) ⟨oe, hq'.extBut _ _ ez hoe, hce⟩
    refine wpAny_bind ?_
    simp only [List.zipIdx_cons, List.zipIdx_nil, List.forIn_cons, List.forIn_nil]
    refine wpAny_bind (wpAny_bind (wpAny_onRaise ?_))
    show wpAny _ _ (Builtin.SmallTypes.nextOf (.ref i1) >>= _) _ _ ⟨g0, gs, dr, tk0, os⟩
    by_cases lt1 : i < n1
    · refine wpAny_bind (D1.item i _ _ _ lt1 (D1.over t1 hs0 S.zf1) fun x1 q1 tk1 hx1 sn1 hq1 => wpAny_pure ?_)
      replace hq1 : Heap.SameBut i1 g0 q1 := hq1
      have u1 : IsTupOf2 q1 TO a1 a2 := hq1.extBut _ _ S.Ti1 (hs0.extBut _ _ S.TOz hTO)
      refine wpAny_bind (wpAny_seqItems (s := ⟨q1, gs, dr, tk1, os⟩) u1 rfl (wpAny_bind (updateSeq_IsTupOf2 (s := ⟨q1, gs, dr, tk1, os⟩) u1 fun g1 hT1 hs1 => ?_)))
      replace hs1 : Heap.SameBut TO q1 g1 := hs1
      have e2 : i = n2 := by omega
      refine wpAny_bind (wpAny_letGo (wpAny_pure (wpAny_bind (wpAny_bind (wpAny_onRaise ?_)))))
      show wpAny _ _ (Builtin.SmallTypes.nextOf (.ref i2) >>= _) _ _ ⟨g1, gs, dr, tk1, os⟩
      refine wpAny_bind (D2.done ⟨g1, gs, dr, tk1, os⟩ _ _ (by rw [← e2]; exact D2.over (D2.over (D2.over t2 hs0 S.zf2) hq1 S.sep1_2) hs1 S.Tf2) fun q e hq he => ?_)
      exact last i2 g1 q tk1 e S.zi2 (.inr rfl) (hs1.extBut _ _ S.TOz.symm (hq1.extBut _ _ S.zi1 hz0)) (fun c o cz cT c1 c2 x => hs1.extBut _ _ cT (hq1.extBut _ _ c1 (hs0.extBut _ _ cz x))) hq he
    · have e1 : i = n1 := by omega
      refine wpAny_bind (D1.done ⟨g0, gs, dr, tk0, os⟩ _ _ (by rw [← e1]; exact D1.over t1 hs0 S.zf1) fun q e hq he => ?_)
      exact last i1 g0 q tk0 e S.zi1 (.inl rfl) hz0 (fun c o cz cT c1 c2 x => hs0.extBut _ _ cz x) hq he
  case kept =>
    replace hs0 : Heap.SameBut z hp g0 := hs0
    simp only [Bool.false_eq_true, if_false]
    refine wpAny_bind ?_
    rw [← Array.forIn_toList]
    simp only [List.forIn_cons, List.forIn_nil]
    refine wpAny_bind (wpAny_bind (wpAny_holding ?_))
    show wpAny _ _ (Builtin.SmallTypes.nextOf (.ref i1) >>= _) _ _ ⟨g0, gs, dr, tk0, os⟩
    by_cases lt1 : i < n1
    · refine wpAny_bind (D1.item i _ _ _ lt1 (D1.over t1 hs0 S.zf1) fun x1 q1 tk1 hx1 sn1 hq1 => wpAny_pure (wpAny_pure ?_))
      replace hq1 : Heap.SameBut i1 g0 q1 := hq1
      have e2 : i = n2 := by omega
      refine wpAny_bind (wpAny_bind (wpAny_holding ?_))
      show wpAny _ _ (Builtin.SmallTypes.nextOf (.ref i2) >>= _) _ _ ⟨q1, gs, dr, tk1, os⟩
      refine wpAny_bind (D2.done ⟨q1, gs, dr, tk1, os⟩ _ _ (by rw [← e2]; exact D2.over (D2.over t2 hs0 S.zf2) hq1 S.sep1_2) fun q e hq he => ?_)
      exact hE q tk1 e (fun c o cz cT c1 c2 x => hq _ _ c2 (hq1.extBut _ _ c1 (hs0.extBut _ _ cz x))) he
    · have e1 : i = n1 := by omega
      refine wpAny_bind (D1.done ⟨g0, gs, dr, tk0, os⟩ _ _ (by rw [← e1]; exact D1.over t1 hs0 S.zf1) fun q e hq he => ?_)
      exact hE q tk0 e (fun c o cz cT c1 c2 x => hq _ _ c1 (hs0.extBut _ _ cz x)) he
theorem zx_item {Q : Option Value → Shared → Prop} (S : ZipSep2 z TI TO i1 i2 p1 p2) (D1 : Draws prog w A.in1 i1 p1 n1 P1 S1) (D2 : Draws prog w A.in1 i2 p2 n2 P2 S2)
    (hz : ZipX s.heap z TI TO f0 f) (hf : OutV f0) (hTI : IsTupOf2 s.heap TI (.ref i1) (.ref i2)) (hTO : IsTupOf2 s.heap TO a1 a2) (t1 : S1 i s.heap) (t2 : S2 i s.heap) (lt1 : i < n1) (lt2 : i < n2)
    (hQ : ∀ x1 x2 h' tk g0 g b1 b2, P1 i x1 → P2 i x2 → ZipX h' z TI TO g0 g → OutV g0 → IsTupOf2 h' TO b1 b2 → S1 (i + 1) h' → S2 (i + 1) h' → IsTupOf2 h' s.heap.objs.size x1 x2 →
      (∀ c o, c ≠ z → c ≠ TO → c ≠ i1 → c ≠ i2 → s.heap.get? c = some o → h'.get? c = some o) → Q (some (.ref s.heap.objs.size)) { s with heap := h', toks := tk }) :
    wpAny (model prog w) A (pyNext (.ref z)) Q E s := by
  have hT : s.TypeIs (.ref z) "zip" := ⟨_, hz, rfl⟩
  unfold pyNext
  exact wpAny_bind (wpAny_attempt (wpAny_callSpecial?_slot (name := Str.ofString "__next__") hT F.slot_zip_next (wpAny_call_entry F.slot_zip_next hT F.entry_zip_next
    (zx_next S D1 D2 hz hf hTI hTO t1 t2 lt1 lt2 fun x1 x2 h' tk g0 g b1 b2 c1 c2 c3 c4 c5 c6 c7 c8 c9 => wpAny_pure (hQ x1 x2 h' tk g0 g b1 b2 c1 c2 c3 c4 c5 c6 c7 c8 c9)) (F.args_zip_next_1 _))))
theorem zx_end {Q : Option Value → Shared → Prop} (S : ZipSep2 z TI TO i1 i2 p1 p2) (D1 : Draws prog w A.in1 i1 p1 n1 P1 S1) (D2 : Draws prog w A.in1 i2 p2 n2 P2 S2)
    (hz : ZipX s.heap z TI TO f0 f) (hf : OutV f0) (hTI : IsTupOf2 s.heap TI (.ref i1) (.ref i2)) (hTO : IsTupOf2 s.heap TO a1 a2) (t1 : S1 i s.heap) (t2 : S2 i s.heap) (le1 : i ≤ n1) (le2 : i ≤ n2) (hend : i = n1 ∨ i = n2)
    (hQ : ∀ h' tk, (∀ c o, c ≠ z → c ≠ TO → c ≠ i1 → c ≠ i2 → s.heap.get? c = some o → h'.get? c = some o) → Q none { s with heap := h', toks := tk }) : wpAny (model prog w) A (pyNext (.ref z)) Q E s := by
  have hT : s.TypeIs (.ref z) "zip" := ⟨_, hz, rfl⟩
  unfold pyNext
  refine wpAny_bind (wpAny_attempt (wpAny_callSpecial?_slot (name := Str.ofString "__next__") hT F.slot_zip_next (wpAny_call_entry F.slot_zip_next hT F.entry_zip_next
    (zx_stop S D1 D2 hz hf hTI hTO t1 t2 le1 le2 hend fun h' tk e hk ⟨o, ho, hc⟩ => ?_) (F.args_zip_next_1 _))))
  exact wpAny_bind (wpAny_isInstance (T := "StopIteration") (b := true) ⟨o, ho, hc⟩ isSubtype_stop (wpAny_pure (hQ _ _ hk)))
end
end Sw
namespace Sw
open PySem PySem.Spec PyProof.Rows L2 RZ PySem.W
def Itzb (K : PySem.W.Frag) (t : Bool) (a b : Addr) : It where
  go := fun i H => ∃ (xs ys : List V) (x y : V), SqB t K H a xs ∧ SqB t K H b ys ∧ xs[i]? = some x ∧ ys[i]? = some y
  yld := fun i H v H' => ∃ T x y, v = .ref T ∧ H T = none ∧ H' = upd H T (.tup [x, y]) ∧ (∀ xs, SqB t K H a xs → xs[i]? = some x) ∧ ∀ ys, SqB t K H b ys → ys[i]? = some y
  stop := fun i H => ∃ xs ys : List V, SqB t K H a xs ∧ SqB t K H b ys ∧ xs.length = i ∧ ys.length = i
theorem itf_zipb {K : PySem.W.Frag} {t : Bool} {a b : Addr} {xs ys : List V} (hl : xs.length = ys.length) : Itf (Itzb K t a b) xs.length (fun H => SqB t K H a xs ∧ SqB t K H b ys) (fun i v H H' => ∃ T x y, v = .ref T ∧ H T = none ∧ H' = upd H T (.tup [x, y]) ∧ xs[i]? = some x ∧ ys[i]? = some y) where
  go := fun i H hi h => ⟨xs, ys, xs[i], ys[i], h.1, h.2, List.getElem?_eq_getElem hi, List.getElem?_eq_getElem (by omega)⟩
  stop := fun H h => ⟨xs, ys, h.1, h.2, rfl, hl.symm⟩
  yld := fun i H v H' _ h ⟨T, x, y, e1, e2, e3, e4, e5⟩ => ⟨T, x, y, e1, e2, e3, e4 xs h.1, e5 ys h.2⟩
def SeqIt (t : Bool) (h : Heap) (it l : Addr) (i : Nat) (its : Array Value) : Prop := match t with
  | true => h.IsTupleIter it l i ∧ h.IsTuple l its
  | false => h.IsListIter it l i ∧ h.IsList l its
def ItAt (t : Bool) (h : Heap) (it l : Addr) (i : Nat) : Prop := match t with
  | true => h.IsTupleIter it l i
  | false => h.IsListIter it l i
theorem ItAt.there {t : Bool} {h : Heap} {it l : Addr} {i : Nat} (x : ItAt t h it l i) : ∃ o, h.get? it = some o ∧ ∀ v, o.data ≠ .cell v := by
  cases t with
  | true => obtain ⟨o, e, _, d⟩ := x; exact ⟨o, e, fun v q => by rw [d] at q; cases q⟩
  | false => obtain ⟨o, e, _, d⟩ := x; exact ⟨o, e, fun v q => by rw [d] at q; cases q⟩
theorem ItAt.keep {t : Bool} {h h' : Heap} {it l : Addr} {i : Nat} (x : ItAt t h it l i) (k : ∀ o, h.get? it = some o → h'.get? it = some o) : ItAt t h' it l i := by
  cases t with
  | true => exact Heap.IsTupleIter.at x k
  | false => exact Heap.IsListIter.at x k
theorem drawB {P : Program} {w : World} {A : Around} (hh : A.handled = none) (t : Bool) (it l : Addr) (ne : l ≠ it) (its : Array Value) : Draws P w A it [it, l] its.size (fun i v => its[i]? = some v) (fun i h => SeqIt t h it l i its) := by
  cases t with
  | true => exact Draws.tuple hh it l ne its
  | false => exact Draws.list hh it l ne its
section
variable {X : Cx} {pins : List (Addr × Obj)} {σ : L2.St} {H : Hp} {s : Shared}
theorem rawB (I : Inv X pins σ H s) {t : Bool} {l : Addr} {xs : List V} (h : SqB t X.K H l xs) : ∃ its, Vals xs its ∧ (∀ it i, ItAt t s.heap it l i → SeqIt t s.heap it l i its.toArray) ∧ l < s.heap.objs.size := by
  cases t with
  | true =>
    obtain ⟨its, rv, p, hz⟩ := I.tuple h
    exact ⟨its, rv, fun it i x => ⟨x, p⟩, by obtain ⟨o, ho, _⟩ := id p; exact Heap.lt_size ho⟩
  | false =>
    obtain ⟨its, rv, p, hz⟩ := I.list h
    exact ⟨its, rv, fun it i x => ⟨x, p.isList⟩, p.lt⟩
theorem injB (I : Inv X pins σ H s) {t : Bool} {l : Addr} {xs ys : List V} (h : SqB t X.K H l xs) (k : SqB t X.K H l ys) : xs = ys := by
  cases t with
  | true => exact I.tuple_inj h k
  | false => exact I.list_inj h k
end
theorem seqIt_at {t : Bool} {h : Heap} {it l : Addr} {i : Nat} {its : Array Value} (x : SeqIt t h it l i its) : ItAt t h it l i := by
  cases t with
  | true => exact x.1
  | false => exact x.1
theorem sepOf {z TI TO i1 i2 a b : Addr} (D : ZipApart z TI TO i1 i2 a b) : ZipSep2 z TI TO i1 i2 [i1, a] [i2, b] where
  TIz := D.TIz
  TOz := D.TOz
  TITO := D.TITO
  TIi1 := D.TIi1
  mem1 := List.mem_cons_self
  zf1 := fun q => by
    rcases List.mem_cons.mp q with e | q
    · exact D.i1z e.symm
    · exact D.l1z (List.mem_singleton.mp q).symm
  Tf1 := fun q => by
    rcases List.mem_cons.mp q with e | q
    · exact D.TOi1 e
    · exact D.l1TO (List.mem_singleton.mp q).symm
  TIi2 := D.TIi2
  mem2 := List.mem_cons_self
  zf2 := fun q => by
    rcases List.mem_cons.mp q with e | q
    · exact D.i2z e.symm
    · exact D.l2z (List.mem_singleton.mp q).symm
  Tf2 := fun q => by
    rcases List.mem_cons.mp q with e | q
    · exact D.TOi2 e
    · exact D.l2TO (List.mem_singleton.mp q).symm
  sep1_2 := fun q => by
    rcases List.mem_cons.mp q with e | q
    · exact D.i12 e
    · exact D.l2i1 (List.mem_singleton.mp q).symm
  sep2_1 := fun q => by
    rcases List.mem_cons.mp q with e | q
    · exact D.i12 e.symm
    · exact D.l1i2 (List.mem_singleton.mp q).symm
def Holds (tg : Expr) : Prop := ∀ it v, letOwnedTupleGo tg it v = pure ()
theorem turn_zipb {P : Program} {w : World} {K : PySem.W.Frag} {tg : Expr} (hg : Holds tg) {t : Bool} {a b z TI TO i1 i2 : Addr} (D : ZipApart z TI TO i1 i2 a b) :
    Turn P w K tg (Itzb K t a b) [z, TI, TO, i1, i2] z (fun i h => (∃ f0 f, ZipX h z TI TO f0 f ∧ OutV f0) ∧ IsTupOf2 h TI (.ref i1) (.ref i2) ∧ (∃ x y, IsTupOf2 h TO x y) ∧ ItAt t h i1 a i ∧ ItAt t h i2 b i) where
  mem := List.mem_cons_self
  obj := fun i h st c hc => by
    obtain ⟨⟨f0, f, hz, _⟩, hTI, ⟨x, y, hTO⟩, h1, h2⟩ := st
    have hc : c = z ∨ c = TI ∨ c = TO ∨ c = i1 ∨ c = i2 := by simpa using hc
    rcases hc with rfl | rfl | rfl | rfl | rfl
    · exact ⟨_, hz, fun v q => nomatch q⟩
    · exact ⟨_, hTI, fun v q => nomatch q⟩
    · exact ⟨_, hTO, fun v q => nomatch q⟩
    · exact h1.there
    · exact h2.there
  keep := fun i h h' st k => by
    obtain ⟨⟨f0, f, hz, ov⟩, hTI, ⟨x, y, hTO⟩, h1, h2⟩ := st
    exact ⟨⟨f0, f, k z (by simp) _ hz, ov⟩, k TI (by simp) _ hTI, ⟨x, y, k TO (by simp) _ hTO⟩, h1.keep fun o q => k i1 (by simp) o q, h2.keep fun o q => k i2 (by simp) o q⟩
  item := by
    intro X hP hw hK hc i pins s σ H E I hf st hgo
    subst hP hw hK
    obtain ⟨⟨f0, f, hz, ov⟩, hTI, ⟨x0, y0, hTO⟩, h1, h2⟩ := st
    obtain ⟨xs, ys, x, y, hqx, hqy, hx, hy⟩ := hgo
    obtain ⟨its, rv, sq1, la⟩ := rawB I hqx
    obtain ⟨its2, rv2, sq2, lb⟩ := rawB I hqy
    obtain ⟨u, hu, ru⟩ := rv.get hx
    obtain ⟨u2, hu2, ru2⟩ := rv2.get hy
    have hh : X.A.in1.handled = none := I.ok.hd hc
    refine zx_item (sepOf D) (drawB hh t i1 a D.l1i1 its.toArray) (drawB hh t i2 b D.l2i2 its2.toArray) hz ov hTI hTO (sq1 _ _ h1) (sq2 _ _ h2) (by
      rw [List.size_toArray]; exact (List.getElem?_eq_some_iff.mp hu).1) (by rw [List.size_toArray]; exact (List.getElem?_eq_some_iff.mp hu2).1) fun v1 v2 h' tk g0 g b1 b2 e1 e2 z' ov' TO' n1 n2 hT hk => ?_
    have e1 : its[i]? = some v1 := by simpa using e1
    have e2 : its2[i]? = some v2 := by simpa using e2
    obtain rfl : u = v1 := by rw [hu] at e1; exact Option.some.inj e1
    obtain rfl : u2 = v2 := by rw [hu2] at e2; exact Option.some.inj e2
    refine ⟨_, rfl, ?_⟩
    rw [hg]
    have fresh := I.hok.fresh (Nat.le_refl s.heap.objs.size)
    have new : ObjOk X.prog X.w (upd H s.heap.objs.size (.tup [x, y])) h' s.heap.objs.size (.tup [x, y]) := ⟨by show 2 ≤ sizeLine; decide, [u, u2], .cons ru (.cons ru2 .nil), ⟨_, hT, rfl, _, rfl⟩⟩
    have I1 : Inv X pins σ (upd H s.heap.objs.size (.tup [x, y])) { s with heap := h', toks := tk } :=
      I.turnedNew (ch := [z, TI, TO, i1, i2]) (fun c o hb q => hk c o (fun e => hb (by simp [e])) (fun e => hb (by simp [e])) (fun e => hb (by simp [e])) (fun e => hb (by simp [e])) q) hf (Nat.le_refl _) new
    refine wpAny_pure ⟨.ref s.heap.objs.size, _, I1, rfl, ⟨_, x, y, rfl, fresh, rfl, fun l hl => by rw [injB I hl hqx]; exact hx, fun l hl => by rw [injB I hl hqy]; exact hy⟩, ⟨⟨g0, g, z', ov'⟩, hk _ _ D.TIz D.TITO D.TIi1 D.TIi2 hTI, ⟨_, _, TO'⟩, seqIt_at n1, seqIt_at n2⟩, fun c hcm => ?_⟩
    have lt : c < s.heap.objs.size := by
      have hcm : c = z ∨ c = TI ∨ c = TO ∨ c = i1 ∨ c = i2 := by simpa using hcm
      rcases hcm with rfl | rfl | rfl | rfl | rfl
      · exact Heap.lt_size hz
      · exact Heap.lt_size hTI
      · exact Heap.lt_size hTO
      · obtain ⟨o, e, _⟩ := h1.there; exact Heap.lt_size e
      · obtain ⟨o, e, _⟩ := h2.there; exact Heap.lt_size e
    rw [upd_ne (Nat.ne_of_lt lt)]
    exact (hf c hcm).1
  done := by
    intro X hP hw hK hc i pins s σ H E I hf st hst
    subst hP hw hK
    obtain ⟨⟨f0, f, hz, ov⟩, hTI, ⟨x0, y0, hTO⟩, h1, h2⟩ := st
    obtain ⟨xs, ys, hqx, hqy, l1, l2⟩ := hst
    obtain ⟨its, rv, sq1, la⟩ := rawB I hqx
    obtain ⟨its2, rv2, sq2, lb⟩ := rawB I hqy
    have hh : X.A.in1.handled = none := I.ok.hd hc
    have m1 := rv.length
    have m2 := rv2.length
    refine zx_end (sepOf D) (drawB hh t i1 a D.l1i1 its.toArray) (drawB hh t i2 b D.l2i2 its2.toArray) hz ov hTI hTO (sq1 _ _ h1) (sq2 _ _ h2) (by rw [List.size_toArray]; omega) (by rw [List.size_toArray]; omega) (.inl (by rw [List.size_toArray]; omega)) fun h' tk hk => ?_
    exact ⟨rfl, I.turnedL (ch := [z, TI, TO, i1, i2]) (fun c o hb q => hk c o (fun e => hb (by simp [e])) (fun e => hb (by simp [e])) (fun e => hb (by simp [e])) (fun e => hb (by simp [e])) q) hf⟩
  self := fun A i s Q E st h => by
    obtain ⟨⟨f0, f, hz, _⟩, _⟩ := st
    have hT : s.TypeIs (.ref z) "zip" := ⟨_, hz, rfl⟩
    refine wpAny_pyIter_slot hT F.slot_zip_iter (wpAny_call_entry F.slot_zip_iter hT F.entry_zip_iter ?_ (F.args_zip_iter_1 _))
    show wpAny _ _ (ret (.ref z)) _ _ s
    exact wpAny_pure ⟨_, rfl, "zip", _, hT, F.slot_zip_next.lookup, h⟩
def iZipB (K : PySem.W.Frag) (ta : TA) : TI := fun σ H R => ta σ H fun vs H1 => ∃ a b xs ys t, vs = [.ref a, .ref b] ∧ SqB t K H1 a xs ∧ SqB t K H1 b ys ∧ R (Itzb K t a b) H1
theorem zip_run {X : Cx} {tg : Expr} (hgo : Holds tg) {e e2 : Expr} {ta : TA} {p pos : Pos} (hg : Gl X "zip") (hm : X.mg "zip" = none) (ha : PA X [e, e2] ta) (hs : starEach [e, e2] X.env = (false, eval e X.env) :: starEach [e2] X.env := by rfl)
    (hpl : (backTo pos (starEach [e2] X.env)).any (·.1) = false := by rfl) {pins : List (Addr × Obj)} {s : Shared} {σ : L2.St} {H : Hp} {R : It → Hp → Prop} (I : Inv X pins σ H s) (h : iZipB X.K ta σ H R) :
    wpAny (model X.prog X.w) X.A (eval (.Call (.Name "zip" p) [e, e2] [] pos) X.env) (fun v s1 => s1.TypeIs v "zip" ∧ PIE X pins σ tg R v s1) X.xe s := by
  refine Call_ (ld_blt I hg hm PyProof.Rows.boot_zip (PyProof.Rows.callWith_type1 (thn (ha.run pos pins s σ H _ I h) fun us s1 ⟨vs, H1, I1, r1, q1⟩ => ?_) hs hpl))
  obtain ⟨a, b, xs, ys, t, rfl, hqx, hqy, q⟩ := q1
  cases r1 with
  | cons ra rr =>
  cases rr with
  | cons rb rr =>
    cases rr
    cases ra
    cases rb
    obtain ⟨its, rv, sq1, la⟩ := rawB I1 hqx
    obtain ⟨its2, rv2, sq2, lb⟩ := rawB I1 hqy
    have fresh5 : ∀ c, c ∈ [s1.heap.objs.size + 4, s1.heap.objs.size + 2, s1.heap.objs.size + 3, s1.heap.objs.size, s1.heap.objs.size + 1] → FpOk X pins H1 c := fun c hcm => by
      have le : s1.heap.objs.size ≤ c := by
        have hcm : c = s1.heap.objs.size + 4 ∨ c = s1.heap.objs.size + 2 ∨ c = s1.heap.objs.size + 3 ∨ c = s1.heap.objs.size ∨ c = s1.heap.objs.size + 1 := by simpa using hcm
        rcases hcm with e | e | e | e | e <;> (rw [e]; first | exact Nat.le_add_right _ _ | exact Nat.le_refl _)
      exact I1.fpOk le (I1.hok.fresh le)
    have D := PySem.W.ktu_apart s1.heap.objs.size a b la lb
    have fin : ∀ h', IsZip h' (s1.heap.objs.size + 4) (s1.heap.objs.size + 2) (s1.heap.objs.size + 3) .none → IsPair h' (s1.heap.objs.size + 2) (.ref s1.heap.objs.size) (.ref (s1.heap.objs.size + 1)) → IsPair h' (s1.heap.objs.size + 3) .none .none →
        ItAt t h' s1.heap.objs.size a 0 → ItAt t h' (s1.heap.objs.size + 1) b 0 → h'.objs.size = s1.heap.objs.size + 5 → (∀ c o, s1.heap.get? c = some o → h'.get? c = some o) →
        Shared.TypeIs { s1 with heap := h' } (.ref (s1.heap.objs.size + 4)) "zip" ∧ PIE X pins σ tg R (.ref (s1.heap.objs.size + 4)) { s1 with heap := h' } := fun h' hz hTI hTO h1 h2 hsz hk =>
      ⟨⟨_, hz, rfl⟩, s1.heap.objs.size + 4, _, _, _, H1, rfl, I1.kept (t' := s1.toks) hk, turn_zipb hgo D, ⟨⟨.none, false, hz, .inl rfl⟩, hTI, ⟨_, _, hTO⟩, h1, h2⟩, fresh5, q⟩
    cases t with
    | true =>
      have p1 := (sq1 a 0)
      obtain ⟨i1, r1, q1, _⟩ := I1.tuple hqx
      obtain ⟨i2, r2, q2, _⟩ := I1.tuple hqy
      exact call_zipT (show s1.heap.IsTuple a i1.toArray from q1) (show s1.heap.IsTuple b i2.toArray from q2) fin
    | false =>
      obtain ⟨i1, r1, q1, _⟩ := I1.list hqx
      obtain ⟨i2, r2, q2, _⟩ := I1.list hqy
      exact call_zip_2 q1.isList q2.isList fin
theorem pi_zipN {X : Cx} {x : Str} {np : Pos} {e e2 : Expr} {ta : TA} {p pos : Pos} (K : PySem.W.Frag) (hg : Gl X "zip") (hm : X.mg "zip" = none) (ha : PA X [e, e2] ta) (hK : X.K = K := by rfl) (hs : starEach [e, e2] X.env = (false, eval e X.env) :: starEach [e2] X.env := by rfl)
    (hpl : (backTo pos (starEach [e2] X.env)).any (·.1) = false := by rfl) : PI X (.Name x np) (.Call (.Name "zip" p) [e, e2] [] pos) (iZipB K ta) := by
  subst hK
  refine ⟨fun pins s σ H R I h => thn (zip_run (tg := .Name x np) (fun _ _ => rfl) hg hm ha hs hpl I h) fun v s1 ⟨_, z, fp, tn, J, H', ev, I1, T, t0, f, r⟩ => ?_⟩
  subst ev
  exact T.self _ _ _ _ _ t0 ⟨z, fp, tn, J, H', rfl, I1, T, t0, f, r⟩
section
variable {tg : TG} {tt : TT} {te : TE} {tb : TS} {D : Ends} {vs : List Nat} {σ : L2.St} {H : Hp} {Q : VK}
theorem g_lcZ {K : PySem.W.Frag} {ta : TA} (k : ta σ H fun us H1 => ∃ a b xs ys t, us = [.ref a, .ref b] ∧ SqB t K H1 a xs ∧ SqB t K H1 b ys ∧ LcW (Itzb K t a b) tg tt te vs σ Q H1) : tLc (iZipB K ta) tg tt te vs σ H Q := k
end
end Sw
namespace Sw
open PySem PySem.Spec PyProof.Rows L2 HT
end Sw
namespace Sw
open PySem PySem.Spec PyProof.Rows L2
end Sw
namespace Sw
open PySem PySem.Spec PyProof.Rows L2
section
variable {G H : Hp} {R : Res} {K : PySem.W.Frag} {Q : VK} {a b : Addr} {xs ys : List V} {σ : L2.St} {te : TE}
theorem cut_to {n : Nat} : cutV xs none (some (n : Int)) = xs.take n := by
  have h2 : HT.sIx xs.length xs.length (some (n : Int)) = min n xs.length := HT.sIx_nat _ _ n
  unfold cutV
  rw [h2]
  show (xs.drop 0).take (min n xs.length - 0) = _
  rw [List.drop_zero, Nat.sub_zero]
  by_cases h : n ≤ xs.length
  · rw [Nat.min_eq_left h]
  · rw [Nat.min_eq_right (by omega), List.take_length, List.take_of_length_le (by omega)]
theorem cut_from {n : Nat} : cutV xs (some (n : Int)) none = xs.drop n := by
  have h1 : HT.sIx xs.length 0 (some (n : Int)) = min n xs.length := HT.sIx_nat _ _ n
  unfold cutV
  rw [h1]
  show (xs.drop (min n xs.length)).take (xs.length - min n xs.length) = _
  by_cases h : n ≤ xs.length
  · rw [Nat.min_eq_left h, List.take_of_length_le (by rw [List.length_drop]; omega)]
  · rw [Nat.min_eq_right (by omega), List.drop_length, List.drop_eq_nil_of_le (by omega), List.take_nil]
end
end Sw
namespace Sw
open PySem PySem.Spec PyProof.Rows L2 RZ PySem.W
abbrev atA (X : Cx) (B : Around) : Cx := { X with A := B }
theorem Inv_at {X : Cx} {pins : List (Addr × Obj)} {σ : L2.St} {H : Hp} {s : Shared} (I : Inv X pins σ H s) {B : Around} (h1 : B.frames = X.A.frames) (h2 : B.handled = X.A.handled) : Inv (atA X B) pins σ H s where
  ok := { mod := I.ok.mod, kind := I.ok.kind, glob := I.ok.glob, blt := I.ok.blt, above := I.ok.above, inj := I.ok.inj, has := I.ok.has, cab := I.ok.cab, hd := fun h => h2.trans (I.ok.hd h), frames := h1.trans I.ok.frames, stk := I.ok.stk, exf := I.ok.exf, bs := I.ok.bs, bsz := I.ok.bsz, noex := I.ok.noex, exfs := I.ok.exfs, funs := I.ok.funs, frf := I.ok.frf }
  os := I.os
  bare := I.bare
  base := I.base
  loc := I.loc
  cell := I.cell
  free := I.free
  freeC := I.freeC
  pin := I.pin
  hok := I.hok
  len := I.len
theorem Inv_back {X : Cx} {pins : List (Addr × Obj)} {σ : L2.St} {H : Hp} {s : Shared} {B : Around} (I : Inv (atA X B) pins σ H s) (ok : X.Ok) : Inv X pins σ H s := ⟨ok, I.os, I.bare, I.base, I.loc, I.cell, I.free, I.freeC, I.pin, I.hok, I.len⟩
theorem nolen_zip : typeLookup (.type "zip") "__len__" = pure none := am_miss_of_fast (by decide +kernel)
theorem nohint_zip : typeLookup (.type "zip") "__length_hint__" = pure none := am_miss_of_fast (by decide +kernel)
section
variable {X : Cx} {pins : List (Addr × Obj)} {σ : L2.St} {R : Result → Shared → Prop}
theorem fill_loop {tg : Expr} (hg : Holds tg) {J : It} {fp : List Addr} {z S : Addr} {tn : Nat → Heap → Prop} (T : Turn X.prog X.w X.K tg J fp z tn) (hc : X.calm = true) (res : Value) {B : Around} (h1 : B.in1.frames = X.A.frames) (h2 : B.in1.handled = X.A.handled) (ok : X.Ok) {n : Nat} (Pv : Nat → Hp → Prop)
    (hs : ∀ i H, i < n → Pv i H → J.go i H ∧ ∀ x H', J.yld i H x H' → ∃ vs, H' S = some (.lst vs) ∧ vs.length < sizeLine ∧ Pv (i + 1) (upd H' S (.lst (vs ++ [x])))) (he : ∀ H, Pv n H → J.stop n H)
    (hR : ∀ s' H', Inv X pins σ H' s' → Pv n H' → R (.ok (.ret res)) s') :
    ∀ (k i : Nat) (s : Shared) (H : Hp), n - i = k → i ≤ n → Inv X pins σ H s → (∀ b ∈ fp, FpOk X pins H b) → tn i s.heap → Pv i H → codeAny (model X.prog X.w) B (.builtin "list.extend.loop" ⟨[.ref S, .ref z, res], []⟩) R s := by
  intro k
  induction k with
  | zero =>
    intro i s H hk hi I hf ht hp
    obtain rfl : i = n := by omega
    refine codeAny_builtin PySem.F.entry_extend_loop ?_
    rw [Around.under_plainId PySem.F.plain_extend_loop _]
    show wpAny _ B.in1 (pyNext (.ref z) >>= _) _ _ s
    refine wpAny_bind (wpAny_mono (T.done (atA X B.in1) rfl rfl rfl hc i pins s σ H (fun _ _ => False) (Inv_at I h1 h2) hf ht (he H hp)) (fun r s1 ⟨e, I1⟩ => ?_) fun _ _ f => f.elim)
    subst e
    exact wpAny_pure (hR s1 H (Inv_back I1 ok) hp)
  | succ k ih =>
    intro i s H hk hi I hf ht hp
    have lt : i < n := by omega
    obtain ⟨hgo, hy⟩ := hs i H lt hp
    refine codeAny_builtin PySem.F.entry_extend_loop ?_
    rw [Around.under_plainId PySem.F.plain_extend_loop _]
    show wpAny _ B.in1 (pyNext (.ref z) >>= _) _ _ s
    refine wpAny_bind (wpAny_mono (T.item (atA X B.in1) rfl rfl rfl hc i pins s σ H (fun _ _ => False) (Inv_at I h1 h2) hf ht hgo) (fun r s1 ⟨u, e, hw⟩ => ?_) fun _ _ f => f.elim)
    subst e
    rw [hg] at hw
    show wpAny _ B.in1 ((pure () : Sem Unit) >>= fun _ => updateSeq S (·.push u) >>= _) _ _ _
    refine wpAny_bind (wpAny_mono hw (fun _ s1 ⟨x, H', I1, rx, yl, ht', hfree⟩ => ?_) fun _ _ f => f.elim)
    obtain ⟨vs, hS, hl, hp'⟩ := hy x H' yl
    have I2 := Inv_back I1 ok
    obtain ⟨zz, its, m, rv, hlen, e⟩ := I2.lstM hS
    have S_out : S ∉ fp := fun q => by
      have := hfree S q
      rw [hS] at this
      cases this
    refine wpAny_bind (wpAny_updateSeq e rfl (wpAny_pure ⟨plainId_quiet PySem.F.plain_extend_loop _, ih (i + 1) _ _ (by omega) lt
      (I2.lset (its' := its ++ [u]) (f := (·.push u)) (t' := s1.toks) hS e (by simp) (rv.append (.cons rx .nil)) (by rw [List.length_append, List.length_singleton]; omega)) (fun b hb => ?_) ?_ hp'⟩) (by rw [List.size_toArray]; omega) (by simp; omega))
    · obtain ⟨f1, f2⟩ := hf b hb
      exact ⟨by rw [upd_ne (fun (q : b = S) => S_out (by rw [← q]; exact hb))]; exact hfree b hb, f2⟩
    · exact T.keep (i + 1) _ _ ht' fun b hb o q => (Heap.get?_update_other _ _ (fun (w : S = b) => S_out (by rw [w]; exact hb))).trans q
end
def LzR (K : PySem.W.Frag) (Q : VK) (J : It) (H1 : Hp) : Prop := ∃ a b xs ys t, J = Itzb K t a b ∧ SqB t K H1 a xs ∧ SqB t K H1 b ys ∧ xs.length = ys.length ∧ xs.length ≤ sizeLine ∧
  ∃ Pv : Addr → Nat → Hp → Prop, ∀ S, H1 S = none → Pv S 0 (upd H1 S (.lst [])) ∧ (∀ i H, i ≤ xs.length → Pv S i H → (SqB t K H a xs ∧ SqB t K H b ys) ∧ ∃ vs, H S = some (.lst vs) ∧ vs.length = i ∧
    ∀ x y, xs[i]? = some x → ys[i]? = some y → ∀ T, H T = none → Pv S (i + 1) (upd (upd H T (.tup [x, y])) S (.lst (vs ++ [.ref T])))) ∧ ∀ H, Pv S xs.length H → Q (.ref S) H
def tListZip (K : PySem.W.Frag) (ta : TA) : TE := fun σ H Q => iZipB K ta σ H (LzR K Q)
theorem pe_listZip {X : Cx} {e e2 : Expr} {ta : TA} {p p2 q pos : Pos} (K : PySem.W.Frag) (hc : X.calm = true) (hgl : Gl X "list") (hml : X.mg "list" = none) (hg : Gl X "zip") (hm : X.mg "zip" = none) (ha : PA X [e, e2] ta) (hK : X.K = K := by rfl)
    (hs : starEach [e, e2] X.env = (false, eval e X.env) :: starEach [e2] X.env := by rfl) (hpl : (backTo pos (starEach [e2] X.env)).any (·.1) = false := by rfl)
    (na : starEach [Expr.Call (.Name "zip" p2) [e, e2] [] pos] X.env = (false, eval (.Call (.Name "zip" p2) [e, e2] [] pos) X.env) :: starEach [] X.env := by rfl) : PE X (.Call (.Name "list" p) [.Call (.Name "zip" p2) [e, e2] [] pos] [] q) (tListZip K ta) := by
  subst hK
  refine ⟨fun pins s σ H Q I h => ?_⟩
  refine Call_ (ld_blt I hgl hml boot_list (PyProof.Rows.callWith_type1 (PyProof.Rows.args_cons ?_ na) na rfl))
  refine thn (zip_run (tg := .Name "x" pos) (R := LzR X.K Q) (fun _ _ => rfl) hg hm ha hs hpl I h) fun v s1 ⟨hT, z, fp, tn, J, H1, ev, I1, T, t0, hf, hr⟩ => PyProof.Rows.args_nil ?_
  subst ev
  obtain ⟨a, b, xs, ys, t, rfl, qx, qy, hl, hz, Pv, hPv⟩ := hr
  have fresh := I1.hok.fresh (Nat.le_refl s1.heap.objs.size)
  obtain ⟨p0, pstep, pend⟩ := hPv s1.heap.objs.size fresh
  have I2 := I1.lnew (its := []) (ys := []) (t' := s1.toks) .nil (Nat.zero_le _)
  refine callType_codes (Q₁ := fun obj s₂ => obj = .ref s1.heap.objs.size ∧ s₂ = { s1 with heap := s1.heap.push { cls := .type "list", data := .seq #[] } }) PySem.F.called_list (PySem.F.typeCall_list_1 _) PySem.F.entry_list_init
    (code_list_new _ ⟨rfl, rfl⟩) fun obj s₂ h₂ => ?_
  obtain ⟨rfl, rfl⟩ := h₂
  have hS : (s1.heap.push { cls := .type "list", data := .seq #[] }).get? s1.heap.objs.size = some { cls := .type "list", data := .seq #[] } := Heap.get?_push_size _ rfl
  obtain ⟨oz, hoz, hcz⟩ := hT
  have zS : z ≠ s1.heap.objs.size := Nat.ne_of_lt (Heap.lt_size hoz)
  have fpS : ∀ c ∈ fp, c ≠ s1.heap.objs.size := fun c hcm => by
    obtain ⟨o, ho, _⟩ := T.obj 0 _ t0 c hcm
    exact Nat.ne_of_lt (Heap.lt_size ho)
  refine ⟨⟨_, hS, rfl⟩, PySem.F.args_list_init_2 _ _, ?_⟩
  show wpAny _ _ (do let old ← Builtin.List.listItems (.ref s1.heap.objs.size); Builtin.List.listUpdate (.ref s1.heap.objs.size) (fun _ => #[]); letGo old.toList.reverse; Builtin.List.listExtendWith (.ref s1.heap.objs.size) (.ref z) .none) _ _ _
  refine wpAny_bind ?_
  unfold Builtin.List.listItems
  refine wpAny_bind (wpAny_seqItems hS rfl (wpAny_pure ?_))
  show wpAny _ _ (updateSeq s1.heap.objs.size (fun _ => #[]) >>= fun _ => letGo (#[] : Array Value).toList.reverse >>= fun _ => Builtin.List.listExtendWith (.ref s1.heap.objs.size) (.ref z) .none) _ _ _
  refine wpAny_bind (wpAny_updateSeq hS rfl (wpAny_bind (wpAny_letGo ?_)))
  have u1 : ∀ c o, c ≠ s1.heap.objs.size → s1.heap.get? c = some o → ((s1.heap.push { cls := .type "list", data := .seq #[] }).update s1.heap.objs.size (Obj.mapSeq (fun _ => (#[] : Array Value)))).get? c = some o :=
    fun c o hb e => (Heap.get?_update_other _ _ (Ne.symm hb)).trans (Heap.get?_push_of_some _ e)
  have I3 := I2.lset (its := []) (its' := []) (f := fun _ => (#[] : Array Value)) (t' := s1.toks) upd_same hS rfl .nil (Nat.zero_le _)
  have hS3 := Heap.get?_update_self (Obj.mapSeq (fun _ => (#[] : Array Value))) hS rfl
  rw [upd_upd] at I3
  generalize (s1.heap.push { cls := .type "list", data := .seq #[] }).update s1.heap.objs.size (Obj.mapSeq (fun _ => (#[] : Array Value))) = h3 at *
  unfold Builtin.List.listExtendWith
  refine wpAny_bind (wpAny_typeOf (T := "zip") (show Shared.TypeIs { s1 with heap := h3 } (.ref z) "zip" from ⟨oz, u1 z oz zS hoz, hcz⟩) ?_)
  have k1 : Builtin.List.listSameRef (.ref s1.heap.objs.size) (.ref z) = false := by simp [Builtin.List.listSameRef, Ne.symm zS]
  have k2 : (Value.type "zip" == Value.type "list") = false := by decide
  have k3 : (Value.type "zip" == Value.type "tuple") = false := by decide
  simp only [k1, k2, k3, Bool.or_false, Bool.false_eq_true, if_false]
  have t3 : tn 0 h3 := T.keep 0 _ _ t0 fun c hcm o e => u1 c o (fpS c hcm) e
  refine wpAny_bind (T.self _ 0 _ _ _ t3 ?_)
  refine wpAny_bind (wpAny_holding ?_)
  unfold Builtin.List.listLengthHint
  refine wpAny_bind (wpAny_specialOf (show Shared.TypeIs { s1 with heap := h3 } (.ref z) "zip" from ⟨oz, u1 z oz zS hoz, hcz⟩) nolen_zip ?_)
  show wpAny _ _ (specialOf (Value.ref z) (Str.ofString "__length_hint__") >>= _) _ _ _
  refine wpAny_bind (wpAny_specialOf (show Shared.TypeIs { s1 with heap := h3 } (.ref z) "zip" from ⟨oz, u1 z oz zS hoz, hcz⟩) nohint_zip (wpAny_pure ?_))
  show wpAny _ _ (rule "list.extend.makes-room" >>= fun _ => Builtin.List.listTouch (.ref s1.heap.objs.size) >>= fun _ => again (.builtin "list.extend.loop" ⟨[.ref s1.heap.objs.size, .ref z, .none], []⟩)) _ _ _
  refine wpAny_bind (wpAny_rule (wpAny_bind ?_))
  show wpAny _ _ (updateSeq s1.heap.objs.size (·.push .none) >>= fun _ => updateSeq s1.heap.objs.size (·.pop)) _ _ _
  have I4 := I3.lset (its := []) (its' := [.none]) (ys := [.non]) (f := (·.push Value.none)) (t' := s1.toks) upd_same hS3 rfl (.cons rfl .nil) (by rw [sizeLine_eq]; decide)
  have hS4 := Heap.get?_update_self (Obj.mapSeq (·.push Value.none)) hS3 rfl
  refine wpAny_bind (wpAny_updateSeq hS3 rfl (wpAny_updateSeq hS4 rfl ?_))
  have I5 := I4.lset (its := [.none]) (its' := []) (ys := []) (f := (·.pop)) (t' := s1.toks) upd_same hS4 rfl .nil (Nat.zero_le _)
  rw [upd_upd, upd_upd] at I5
  have u2 : ∀ c o, c ≠ s1.heap.objs.size → h3.get? c = some o → ((h3.update s1.heap.objs.size (Obj.mapSeq (·.push Value.none))).update s1.heap.objs.size (Obj.mapSeq (·.pop))).get? c = some o :=
    fun c o hb e => (Heap.get?_update_other _ _ (Ne.symm hb)).trans ((Heap.get?_update_other _ _ (Ne.symm hb)).trans e)
  have t5 := T.keep 0 _ _ t3 fun c hcm o e => u2 c o (fpS c hcm) e
  refine wpAny_pure ⟨plainId_quiet PySem.F.plain_extend_loop _, ?_⟩
  refine fill_loop (X := X) (B := X.A.in1) (n := xs.length) (fun _ _ => rfl) T hc .none rfl rfl I.ok (Pv s1.heap.objs.size) (fun i H' hi hp => ?_) (fun H' hp => ?_) (fun s' H' I' hp => ?_) xs.length 0 _ _ (Nat.sub_zero _) (Nat.zero_le _) I5 (fun c hcm => ?_) t5 p0
  · obtain ⟨⟨sx, sy⟩, vs, hv, hvl, hst⟩ := pstep i H' (Nat.le_of_lt hi) hp
    have ex : xs[i]? = some xs[i] := List.getElem?_eq_getElem hi
    have ey : ys[i]? = some (ys[i]'(by omega)) := List.getElem?_eq_getElem (by omega)
    refine ⟨⟨xs, ys, _, _, sx, sy, ex, ey⟩, fun x H2 hy => ?_⟩
    obtain ⟨Tt, x1, y1, rfl, hT, rfl, f1, f2⟩ := hy
    have TS : s1.heap.objs.size ≠ Tt := fun e => by rw [e, hT] at hv; cases hv
    exact ⟨vs, by rw [upd_ne TS]; exact hv, by omega, hst x1 y1 (f1 xs sx) (f2 ys sy) Tt hT⟩
  · obtain ⟨⟨sx, sy⟩, _⟩ := pstep _ H' (Nat.le_refl _) hp
    exact ⟨xs, ys, sx, sy, rfl, hl.symm⟩
  · exact ⟨rfl, .ref s1.heap.objs.size, H', I', rfl, pend H' hp⟩
  · obtain ⟨f1, f2⟩ := hf c hcm
    exact ⟨by rw [upd_ne (fpS c hcm)]; exact f1, f2⟩
theorem g_lz {K : PySem.W.Frag} {ta : TA} {σ : L2.St} {H : Hp} {Q : VK} (k : ta σ H fun vs H1 => ∃ a b xs ys t, vs = [.ref a, .ref b] ∧ SqB t K H1 a xs ∧ SqB t K H1 b ys ∧ LzR K Q (Itzb K t a b) H1) : tListZip K ta σ H Q := k
theorem g_lzW {K : PySem.W.Frag} {G H : Hp} {R : Res} {Q : VK} {a b : Addr} {xs ys : List V} {t : Bool} (w : Wd G R H) (ha : SqB t K G a xs) (hb : SqB t K G b ys) (hl : xs.length = ys.length) (hz : xs.length ≤ sizeLine)
    (k : ∀ (S : Addr) (ts : List Addr) (G' H' : Hp), Same G G' → G S = none → G' S = some (.lst (ts.map V.ref)) → ts.length = xs.length → (∀ (i : Nat) (T : Addr) (x y : V), ts[i]? = some T → xs[i]? = some x → ys[i]? = some y → G' T = some (.tup [x, y])) → Wd G' R H' → Q (.ref S) H') :
    ∃ a' b' xs' ys' t', [V.ref a, V.ref b] = [.ref a', .ref b'] ∧ SqB t' K H a' xs' ∧ SqB t' K H b' ys' ∧ LzR K Q (Itzb K t' a' b') H := by
  refine ⟨a, b, xs, ys, t, rfl, SqB.ex w.sub ha, SqB.ex w.sub hb, a, b, xs, ys, t, rfl, SqB.ex w.sub ha, SqB.ex w.sub hb, hl, hz, fun S i H' => G S = none ∧ ∃ (ts : List Addr) (Gi : Hp), Same G Gi ∧ Gi S = some (.lst (ts.map V.ref)) ∧ ts.length = i ∧ (∀ (j : Nat) (T : Addr) (x y : V), ts[j]? = some T → xs[j]? = some x → ys[j]? = some y → Gi T = some (.tup [x, y])) ∧ Wd Gi R H', fun S hS => ⟨?_, ?_, ?_⟩⟩
  · exact ⟨w.free hS, [], _, Same.newG (w.free hS), upd_same, rfl, fun j T x y h => by simp at h, w.new hS⟩
  · rintro i H' hi ⟨gS, ts, Gi, si, hSi, hti, hts, wi⟩
    refine ⟨⟨SqB.ex (Same.trans si wi.sub) ha, SqB.ex (Same.trans si wi.sub) hb⟩, ts.map V.ref, wi.get hSi, by rw [List.length_map]; exact hti, fun x y hx hy T hT => ?_⟩
    have gT := wi.free hT
    have TS : S ≠ T := fun e => by rw [← e, hSi] at gT; cases gT
    have w2 := (wi.new (o := .tup [x, y]) hT).set (o' := .lst ((ts ++ [T]).map V.ref)) (p := S) (by rw [upd_ne TS]; exact hSi)
    have e2 : (ts ++ [T]).map V.ref = ts.map V.ref ++ [V.ref T] := by rw [List.map_append]; rfl
    rw [e2] at w2
    refine ⟨gS, ts ++ [T], _, fun c o e => ?_, by rw [e2]; exact upd_same, by rw [List.length_append, hti]; rfl, fun j T' x' y' h1 h2 h3 => ?_, w2⟩
    · rw [upd_ne (fun q => by rw [q, gS] at e; cases e)]
      exact Same.newG gT _ _ (si _ _ e)
    · by_cases lt : j < ts.length
      · rw [List.getElem?_append_left lt] at h1
        have := hts j T' x' y' h1 h2 h3
        rw [upd_ne (fun q => by rw [q, hSi] at this; cases this)]
        exact Same.newG gT _ _ this
      · have ej : j = ts.length := by
          have := (List.getElem?_eq_some_iff.mp h1).1
          rw [List.length_append, List.length_singleton] at this
          omega
        subst ej
        rw [List.getElem?_append_right (Nat.le_refl _), Nat.sub_self] at h1
        obtain rfl : T = T' := by simpa using h1
        rw [hti, hx] at h2
        rw [hti, hy] at h3
        cases h2
        cases h3
        rw [upd_ne (Ne.symm TS)]
        exact upd_same
  · rintro H' ⟨gS, ts, Gi, si, hSi, hti, hts, wi⟩
    exact k S ts Gi H' si gS hSi hti hts wi
end Sw
namespace Sw
open PySem PySem.Spec PyProof.Rows L2 PySem.W
def rSortedL (K : PySem.W.Frag) : List V → Hp → VK → Prop := fun xs H Q => ∃ a, ∃ bs : List (Addr × PyData), xs = [.ref a] ∧ SqL K H a (bs.map fun b => V.ref b.1) ∧ (∀ b ∈ bs, Dp K H (.ref b.1) b.2 ∧ b.2.depth ≤ 8) ∧ bs.length ≤ sizeLine ∧
  AllAlike (bs.map Prod.snd) ∧ Sortable (bs.map Prod.snd) ∧ ∀ p, H p = none → Q (.ref p) (upd H p (.lst ((bs.mergeSort (dataLe false Prod.snd)).map fun b => V.ref b.1)))
theorem each_in : ∀ {bs : List (Addr × PyData)} {its : List Value}, Vals (bs.map fun b => V.ref b.1) its → EachIs (fun v (b : Addr × PyData) => v = Value.ref b.1) its bs
  | [], _, h => by
    cases h
    exact .nil
  | b :: bs, _, h => by
    cases h with
    | cons h1 h2 => exact .cons h1 (each_in h2)
theorem call_sortedL {X : Cx} (hu : X.A.units + 32 < cLine) : CallR X (.builtin "sorted") (rSortedL X.K) := by
  intro pins s σ H xs us Q I r h
  obtain ⟨a, bs, rfl, hq, hd, hL, hal, hso, q⟩ := h
  cases r with
  | cons r1 rr =>
    cases rr
    cases r1
    obtain ⟨its, rv, pl, hz⟩ := I.list hq
    have es := each_in rv
    have er : EachIs (fun v (b : Addr × PyData) => ∃ as, Reads s.heap v b.2 as) its bs := by
      refine (each_mem es).mono fun v b hh => ?_
      obtain ⟨ev, hb⟩ := hh
      subst ev
      exact Dp.reads I b.2 _ (Value.ref b.1) (hd b hb).1 rfl
    have hdp : ∀ b, b ∈ bs → X.A.units + 2 + b.2.depth < cLine := fun b hb => by
      have := (hd b hb).2
      omega
    refine sorted_data (R := fun v (b : Addr × PyData) => v = Value.ref b.1) (enc := Prod.snd) pl.isList es er hal hso hL hdp ?_
    intro out lo eo
    obtain ⟨c, hc⟩ := sortedAll_at s.heap its out.toArray
    have n1 := I.hok.fresh (Nat.le_succ s.heap.objs.size)
    exact ⟨.ref (s.heap.objs.size + 1), _, I.laid (t' := s.toks) (a := s.heap.objs.size + 1) (o := .lst ((bs.mergeSort (dataLe false Prod.snd)).map fun b => V.ref b.1)) (fun b u eb => sortedAll_old eb) (Nat.le_succ _)
        (show ObjOk X.prog X.w _ _ _ (.lst _) from ⟨by rw [List.length_map, List.length_mergeSort]; exact hL, out, c, each_out eo, hc⟩), rfl, q _ n1⟩
theorem ka_sortedL {X : Cx} (K : PySem.W.Frag) (hu : X.A.units + 32 < cLine) (hK : X.K = K := by rfl) : CallR X (.builtin "sorted") (rSortedL K) := by subst hK; exact call_sortedL hu
end Sw
namespace Sv
open PySem L2
def top (i : Nat) : Stmt := PySem.Challenge.pw_savewise_k28_shortest_cycles.main.body.getD i (.Pass ⟨0, 0, 0, 0⟩)
abbrev s_followers : Stmt := top 1
abbrev s_path_to : Stmt := top 2
abbrev s_cycle_from : Stmt := top 3
abbrev s_shortest_cycle : Stmt := top 4
abbrev s__law_begun : Stmt := top 6
abbrev s__law_draw : Stmt := top 7
abbrev s__law_pick : Stmt := top 8
abbrev s__law_mixed : Stmt := top 9
abbrev s__law_least : Stmt := top 10
abbrev s__law_is_cycle : Stmt := top 11
abbrev s__law_pairs : Stmt := top 12
abbrev s_law : Stmt := top 13
structure Ad where
  (unit : Addr)
structure Txt (K : PySem.W.Frag) (mg : Str → Option Value) (A : Ad) : Prop where
  nb_dict : mg "dict" = none
  nb_sorted : mg "sorted" = none
  nb_tuple : mg "tuple" = none
  nb_len : mg "len" = none
  nb_abs : mg "abs" = none
  nb_list : mg "list" = none
  nb_range : mg "range" = none
  nb_isinstance : mg "isinstance" = none
  nb_set : mg "set" = none
  nb_zip : mg "zip" = none
  nb_repr : mg "repr" = none
end Sv
namespace Sv
open PySem PySem.Spec PyProof.Rows L2 Sw
def spLaw0 (K : PySem.W.Frag) : Sp := fun vs H Q _ => ∃ (s : Addr) (ns : List Int), vs = [.ref s] ∧ SqL K H s (ns.map V.int) ∧ ∀ H', Q (.bl true) H'
def x_f1 (K : PySem.W.Frag) : Addr := Hk.adOf (PySem.W.nsIn K mainGlobals "shortest_cycle")
def x_D2 (K : PySem.W.Frag) : Addr := Hk.kvA K (x_f1 K)
def x_ea3 (K : PySem.W.Frag) : Addr := Hk.adOf (PySem.W.nsIn K (x_D2 K) "without")
def x_f33 (K : PySem.W.Frag) : Addr := Hk.adOf (PySem.W.nsIn K mainGlobals "followers")
def x_f47 (K : PySem.W.Frag) : Addr := Hk.adOf (PySem.W.nsIn K mainGlobals "path_to")
def x_f61 (K : PySem.W.Frag) : Addr := Hk.adOf (PySem.W.nsIn K mainGlobals "cycle_from")
def x_f75 (K : PySem.W.Frag) : Addr := Hk.adOf (PySem.W.nsIn K mainGlobals "_law_begun")
def x_f89 (K : PySem.W.Frag) : Addr := Hk.adOf (PySem.W.nsIn K mainGlobals "_law_draw")
def x_f103 (K : PySem.W.Frag) : Addr := Hk.adOf (PySem.W.nsIn K mainGlobals "_law_pick")
def x_f117 (K : PySem.W.Frag) : Addr := Hk.adOf (PySem.W.nsIn K mainGlobals "_law_mixed")
def x_f131 (K : PySem.W.Frag) : Addr := Hk.adOf (PySem.W.nsIn K mainGlobals "_law_least")
def x_f145 (K : PySem.W.Frag) : Addr := Hk.adOf (PySem.W.nsIn K mainGlobals "_law_is_cycle")
def x_f159 (K : PySem.W.Frag) : Addr := Hk.adOf (PySem.W.nsIn K mainGlobals "_law_pairs")
def x_f173 (K : PySem.W.Frag) : Addr := Hk.adOf (PySem.W.nsIn K mainGlobals "law")
def b_0 : Hk.FB := fun K => Hk.eqV (PySem.W.nsIn K mainGlobals "shortest_cycle") (some (some (.ref (x_f1 K))))
def b_1 : Hk.FB := fun K => Hk.codB K (x_f1 K) "shortest_cycle"
def b_2 : Hk.FB := fun K => Hk.kvR K (x_f1 K)
def b_3 : Hk.FB := fun K => PySem.W.keepIn K (.ref (x_f1 K))
def b_4 : Hk.FB := fun K => Hk.eqV (PySem.W.nsIn K (x_D2 K) "without") (some (some (.ref (x_ea3 K))))
def b_5 : Hk.FB := fun K => Hk.tupC K (x_ea3 K) []
def b_6 : Hk.FB := fun K => decide (PySem.W.nsIn K mainGlobals "dict" = some none)
def b_7 : Hk.FB := fun K => decide (PySem.W.nsIn K mainGlobals "sorted" = some none)
def b_8 : Hk.FB := fun K => decide (PySem.W.nsIn K mainGlobals "tuple" = some none)
def b_9 : Hk.FB := fun K => decide (PySem.W.nsIn K mainGlobals "len" = some none)
def b_10 : Hk.FB := fun K => decide (PySem.W.nsIn K mainGlobals "abs" = some none)
def b_11 : Hk.FB := fun K => decide (PySem.W.nsIn K mainGlobals "list" = some none)
def b_12 : Hk.FB := fun K => decide (PySem.W.nsIn K mainGlobals "range" = some none)
def b_13 : Hk.FB := fun K => decide (PySem.W.nsIn K mainGlobals "isinstance" = some none)
def b_14 : Hk.FB := fun K => decide (PySem.W.nsIn K mainGlobals "set" = some none)
def b_15 : Hk.FB := fun K => decide (PySem.W.nsIn K mainGlobals "zip" = some none)
def b_16 : Hk.FB := fun K => decide (PySem.W.nsIn K mainGlobals "repr" = some none)
def b_17 : Hk.FB := fun K => Hk.eqV (PySem.W.nsIn K mainGlobals "followers") (some (some (.ref (x_f33 K))))
def b_18 : Hk.FB := fun K => Hk.codB K (x_f33 K) "followers"
def b_19 : Hk.FB := fun K => Hk.dvB K (x_f33 K)
def b_20 : Hk.FB := fun K => PySem.W.keepIn K (.ref (x_f33 K))
def b_21 : Hk.FB := fun K => Hk.eqV (PySem.W.nsIn K mainGlobals "path_to") (some (some (.ref (x_f47 K))))
def b_22 : Hk.FB := fun K => Hk.codB K (x_f47 K) "path_to"
def b_23 : Hk.FB := fun K => Hk.dvB K (x_f47 K)
def b_24 : Hk.FB := fun K => PySem.W.keepIn K (.ref (x_f47 K))
def b_25 : Hk.FB := fun K => Hk.eqV (PySem.W.nsIn K mainGlobals "cycle_from") (some (some (.ref (x_f61 K))))
def b_26 : Hk.FB := fun K => Hk.codB K (x_f61 K) "cycle_from"
def b_27 : Hk.FB := fun K => Hk.dvB K (x_f61 K)
def b_28 : Hk.FB := fun K => PySem.W.keepIn K (.ref (x_f61 K))
def b_29 : Hk.FB := fun K => Hk.eqV (PySem.W.nsIn K mainGlobals "_law_begun") (some (some (.ref (x_f75 K))))
def b_30 : Hk.FB := fun K => Hk.codB K (x_f75 K) "_law_begun"
def b_31 : Hk.FB := fun K => Hk.dvB K (x_f75 K)
def b_32 : Hk.FB := fun K => PySem.W.keepIn K (.ref (x_f75 K))
def b_33 : Hk.FB := fun K => Hk.eqV (PySem.W.nsIn K mainGlobals "_law_draw") (some (some (.ref (x_f89 K))))
def b_34 : Hk.FB := fun K => Hk.codB K (x_f89 K) "_law_draw"
def b_35 : Hk.FB := fun K => Hk.dvB K (x_f89 K)
def b_36 : Hk.FB := fun K => PySem.W.keepIn K (.ref (x_f89 K))
def b_37 : Hk.FB := fun K => Hk.eqV (PySem.W.nsIn K mainGlobals "_law_pick") (some (some (.ref (x_f103 K))))
def b_38 : Hk.FB := fun K => Hk.codB K (x_f103 K) "_law_pick"
def b_39 : Hk.FB := fun K => Hk.dvB K (x_f103 K)
def b_40 : Hk.FB := fun K => PySem.W.keepIn K (.ref (x_f103 K))
def b_41 : Hk.FB := fun K => Hk.eqV (PySem.W.nsIn K mainGlobals "_law_mixed") (some (some (.ref (x_f117 K))))
def b_42 : Hk.FB := fun K => Hk.codB K (x_f117 K) "_law_mixed"
def b_43 : Hk.FB := fun K => Hk.dvB K (x_f117 K)
def b_44 : Hk.FB := fun K => PySem.W.keepIn K (.ref (x_f117 K))
def b_45 : Hk.FB := fun K => Hk.eqV (PySem.W.nsIn K mainGlobals "_law_least") (some (some (.ref (x_f131 K))))
def b_46 : Hk.FB := fun K => Hk.codB K (x_f131 K) "_law_least"
def b_47 : Hk.FB := fun K => Hk.dvB K (x_f131 K)
def b_48 : Hk.FB := fun K => PySem.W.keepIn K (.ref (x_f131 K))
def b_49 : Hk.FB := fun K => Hk.eqV (PySem.W.nsIn K mainGlobals "_law_is_cycle") (some (some (.ref (x_f145 K))))
def b_50 : Hk.FB := fun K => Hk.codB K (x_f145 K) "_law_is_cycle"
def b_51 : Hk.FB := fun K => Hk.dvB K (x_f145 K)
def b_52 : Hk.FB := fun K => PySem.W.keepIn K (.ref (x_f145 K))
def b_53 : Hk.FB := fun K => Hk.eqV (PySem.W.nsIn K mainGlobals "_law_pairs") (some (some (.ref (x_f159 K))))
def b_54 : Hk.FB := fun K => Hk.codB K (x_f159 K) "_law_pairs"
def b_55 : Hk.FB := fun K => Hk.dvB K (x_f159 K)
def b_56 : Hk.FB := fun K => PySem.W.keepIn K (.ref (x_f159 K))
def b_57 : Hk.FB := fun K => Hk.eqV (PySem.W.nsIn K mainGlobals "law") (some (some (.ref (x_f173 K))))
def b_58 : Hk.FB := fun K => Hk.codB K (x_f173 K) "law"
def b_59 : Hk.FB := fun K => Hk.dvB K (x_f173 K)
def b_60 : Hk.FB := fun K => PySem.W.keepIn K (.ref (x_f173 K))
def fb0 : List Hk.FB := [b_0, b_1, b_2, b_3, b_4, b_5, b_6, b_7, b_8, b_9, b_10, b_11, b_12, b_13, b_14, b_15, b_16, b_17, b_18, b_19, b_20, b_21, b_22, b_23, b_24, b_25, b_26, b_27, b_28, b_29, b_30, b_31, b_32, b_33, b_34, b_35, b_36, b_37, b_38, b_39]
def fb1 : List Hk.FB := [b_40, b_41, b_42, b_43, b_44, b_45, b_46, b_47, b_48, b_49, b_50, b_51, b_52, b_53, b_54, b_55, b_56, b_57, b_58, b_59, b_60]
def fbs : List (List Hk.FB) := [fb0, fb1]
def d_0 : Hk.FD := ⟨fun K => x_f1 K, "shortest_cycle", "shortest_cycle", defArgs s_shortest_cycle, defBody s_shortest_cycle, defScope s_shortest_cycle, []⟩
def d_1 : Hk.FD := ⟨fun K => x_f33 K, "followers", "followers", defArgs s_followers, defBody s_followers, defScope s_followers, []⟩
def d_2 : Hk.FD := ⟨fun K => x_f47 K, "path_to", "path_to", defArgs s_path_to, defBody s_path_to, defScope s_path_to, []⟩
def d_3 : Hk.FD := ⟨fun K => x_f61 K, "cycle_from", "cycle_from", defArgs s_cycle_from, defBody s_cycle_from, defScope s_cycle_from, []⟩
def d_4 : Hk.FD := ⟨fun K => x_f75 K, "_law_begun", "_law_begun", defArgs s__law_begun, defBody s__law_begun, defScope s__law_begun, []⟩
def d_5 : Hk.FD := ⟨fun K => x_f89 K, "_law_draw", "_law_draw", defArgs s__law_draw, defBody s__law_draw, defScope s__law_draw, []⟩
def d_6 : Hk.FD := ⟨fun K => x_f103 K, "_law_pick", "_law_pick", defArgs s__law_pick, defBody s__law_pick, defScope s__law_pick, []⟩
def d_7 : Hk.FD := ⟨fun K => x_f117 K, "_law_mixed", "_law_mixed", defArgs s__law_mixed, defBody s__law_mixed, defScope s__law_mixed, []⟩
def d_8 : Hk.FD := ⟨fun K => x_f131 K, "_law_least", "_law_least", defArgs s__law_least, defBody s__law_least, defScope s__law_least, []⟩
def d_9 : Hk.FD := ⟨fun K => x_f145 K, "_law_is_cycle", "_law_is_cycle", defArgs s__law_is_cycle, defBody s__law_is_cycle, defScope s__law_is_cycle, []⟩
def d_10 : Hk.FD := ⟨fun K => x_f159 K, "_law_pairs", "_law_pairs", defArgs s__law_pairs, defBody s__law_pairs, defScope s__law_pairs, []⟩
def d_11 : Hk.FD := ⟨fun K => x_f173 K, "law", "law", defArgs s_law, defBody s_law, defScope s_law, []⟩
def fns : List Hk.FD := [d_0, d_1, d_2, d_3, d_4, d_5, d_6, d_7, d_8, d_9, d_10, d_11]
def asL : List Addr := [2, 3, 6, 35, 19, 26, 33, 42, 47, 54, 61, 68, 73, 78, 85, 90, 18, 25, 32, 41, 46, 53, 60, 67, 72, 77, 84, 89, 15, 20, 22, 23, 27, 29, 30, 34, 36, 38, 39, 43, 48, 50, 51, 55, 57, 58, 62, 64, 65, 69, 74, 79, 81, 82, 86]
abbrev Rr : PySem.W.OpenRow := PySem.W.OpenLaw.row PySem.Challenge.rw_savewise_k28_shortest_cycles
def lo : List PySem.Str := (["followers", "path_to", "cycle_from", "shortest_cycle", "_law_begun", "_law_draw", "_law_pick", "_law_mixed", "_law_least", "_law_is_cycle", "_law_pairs"] : List PySem.Str)
abbrev hk : PySem.W.Hook := Hk.hookX asL fbs fns
def ob (s : PySem.W.SharedT) : Hk.AlX := Hk.obsG asL fbs fns (HandSHeadRun.getT s)
theorem ob_eq (s : PySem.W.SharedT) : ob s = hk.obs s.abs := Hk.obsG_eq (HandSHeadRun.getT_eq s)
set_option maxHeartbeats 0 in
theorem run (w : World) : HandSHeadRun.RunEq Rr (PySem.W.view Rr.prog [13]) hk ob 12000 lo w := by
  intro os
  kernel_rfl
def EndT : Prop := ∀ {P : Program} {wo : World} {K : PySem.W.Frag} {h : Heap} {mg : Str → Option Value} {fa : Addr} (X : K.In h) (G : h.Ns mainGlobals mg) (hfa : mg "law" = some (.ref fa)) (hfile : ((P.main.file : Str) == "/claim/cut.py") = true) (htop : (P.main.scope.names.lookup ("super" : Str)).isSome = false) (c : Hk.SaysX fbs fns K), ∃ fd : FuncData, (∀ (s : Shared) (v : Value), BindsTo s fd ⟨[v], []⟩ [("_law_script", v)]) ∧ ∀ base : Heap, K.In base → base.Ns mainGlobals mg → FnG P wo K mg base (L2.CX P wo) 4 fa fd ["_law_script"] (spLaw0 K)
end Sv
open PySem PySem.W PySem.Calls PyProof.Rows in
set_option maxHeartbeats 0 in
theorem Sv.headA (F : Sv.EndT) : PySem.Challenge.rw_savewise_k28_shortest_cycles.Holds := by
  w_on; o_law
  refine HandSHeadRun.head_any (r := OpenLaw.row PySem.Challenge.rw_savewise_k28_shortest_cycles) (q := view (OpenLaw.row PySem.Challenge.rw_savewise_k28_shortest_cycles).prog [13]) (H := Sv.hk) (ob := Sv.ob) (M := 12000) (loose := Sv.lo) (d := HandSHeadRun.topDef (OpenLaw.row PySem.Challenge.rw_savewise_k28_shortest_cycles).prog 13) (kwd := []) Sv.ob_eq
    (by kernel_rfl) (fun s => by kernel_rfl) Sv.run (by kernel_rfl) (by kernel_rfl) (by kernel_rfl) (by rfl) (by first | assumption | decide +kernel) (by decide +kernel) ⟨rfl, rfl, rfl, rfl, rfl, by decide +kernel⟩ ?hw ?hc
  case hw => w_witness2
  case hc =>
    refine Sw.walk_ofEG (l := PySem.Challenge.rw_savewise_k28_shortest_cycles) (n := 63) (k := 4) (x := "_law_script") (CX := fun w => L2.CX (PySem.Challenge.rw_savewise_k28_shortest_cycles).prog w) rfl (by rw [sizeLine_eq]; decide) (by kernel_rfl) ⟨rfl, by decide, by decide⟩ ?F (fun _ _ _ _ _ ⟨_, _, _, _, _, _, _, _, _, _, _, _, z⟩ => z)
    intro w mg fa h Y G hmg0
    obtain ⟨K, KX, c⟩ := Y
    have hmg : mg ("law" : PySem.Str) = some (.ref fa) := by
      have e : (HandSHeadRun.topDef (OpenLaw.row PySem.Challenge.rw_savewise_k28_shortest_cycles).prog 13).name = ("law" : PySem.Str) := by kernel_rfl
      rw [← e]
      exact hmg0
    obtain ⟨fd, hb, hF⟩ := F (P := (PySem.Challenge.rw_savewise_k28_shortest_cycles).prog) (wo := w) KX G hmg (by decide +kernel) (by decide +kernel) c
    exact ⟨K, fd, Sv.spLaw0 K, KX, hb, fun H a ns hl _ hS => ⟨a, ns, rfl, hS, fun _ => rfl⟩, hF⟩
namespace Bfs
variable {α : Type} [DecidableEq α]
abbrev Par (α : Type) := List (α × Option α)
def Par.has (p : Par α) (a : α) : Bool := p.any fun x => decide (x.1 = a)
def inner (st here : α) : List α → Par α → List α → Option (Par α × List α)
  | [], p, q => some (p, q)
  | b :: r, p, q => if b = st then none else if p.has b then inner st here r p q else inner st here r (p ++ [(b, some here)]) (q ++ [b])
def innerP (st here : α) : List α → Par α → List α → Par α
  | [], p, _ => p
  | b :: r, p, q => if b = st then p else if p.has b then innerP st here r p q else innerP st here r (p ++ [(b, some here)]) (q ++ [b])
def bfs (nx : α → List α) (st : α) : Nat → Par α → List α → Option (α × Par α)
  | _, _, [] => none
  | 0, _, _ => none
  | n + 1, p, here :: q => match inner st here (nx here) p q with
    | none => some (here, innerP st here (nx here) p q)
    | some (p', q') => bfs nx st n p' q'
inductive Up (p : Par α) : α → List α → Prop
  | one {a : α} : (a, none) ∈ p → Up p a [a]
  | cons {a b : α} {l : List α} : (a, some b) ∈ p → Up p b l → Up p a (a :: l)
theorem Up.mono {p q : Par α} (h : ∀ x ∈ p, x ∈ q) {a : α} {l : List α} (u : Up p a l) : Up q a l := by
  induction u with
  | one h1 => exact .one (h _ h1)
  | cons h1 _ ih => exact .cons (h _ h1) ih
theorem has_iff {p : Par α} {a : α} : p.has a = true ↔ ∃ o, (a, o) ∈ p := by
  unfold Par.has
  rw [List.any_eq_true]
  constructor
  · rintro ⟨x, hx, e⟩
    have e := of_decide_eq_true e
    exact ⟨x.2, by rw [← e]; exact hx⟩
  · rintro ⟨o, h⟩
    exact ⟨_, h, by simp⟩
structure Inv (nx ox : α → List α) (st : α) (p : Par α) (done q : List α) (D : α → Nat) : Prop where
  nd : (p.map Prod.fst).Nodup
  all : ∀ a, p.has a = true ↔ a ∈ done ∨ a ∈ q
  st0 : (st, none) ∈ p ∧ D st = 0
  one : ∀ a, (a, none) ∈ p → a = st
  up : ∀ a, p.has a = true → ∃ l, Up p a l ∧ l.length = D a + 1 ∧ l.Nodup ∧ ∀ b ∈ l, D b ≤ D a ∧ p.has b = true
  edge : ∀ a b, (a, some b) ∈ p → a ∈ nx b ∧ D a = D b + 1 ∧ p.has b = true
  old : ∀ a ∈ done, ∀ b ∈ ox a, b ≠ st ∧ p.has b = true ∧ D b ≤ D a + 1
  dq : ∀ a ∈ done, ∀ b ∈ q, D a ≤ D b
  qs : q.Pairwise fun a b => D a ≤ D b
  ql : ∀ a b, a ∈ q → b ∈ q → D b ≤ D a + 1
inductive Walk (nx : α → List α) : Nat → α → α → Prop
  | nil (a : α) : Walk nx 0 a a
  | step {n : Nat} {a b c : α} : Walk nx n a b → c ∈ nx b → Walk nx (n + 1) a c
theorem far {nx : α → List α} {st : α} {p : Par α} {done q : List α} {D : α → Nat} (I : Inv nx nx st p done q D) (d : Nat) (hd : ∀ a, p.has a = true → D a < d → a ∈ done) : ∀ n b, n ≤ d → Walk nx n st b → p.has b = true ∧ D b ≤ n ∧ (0 < n → b ≠ st) := by
  intro n
  induction n with
  | zero =>
    intro b _ w
    cases w
    exact ⟨has_iff.mpr ⟨_, I.st0.1⟩, by rw [I.st0.2]; exact Nat.le_refl _, fun z => absurd z (Nat.lt_irrefl 0)⟩
  | succ n ih =>
    intro c hn w
    cases w with
    | @step _ _ b _ w1 hc =>
      obtain ⟨h1, h2, _⟩ := ih b (by omega) w1
      have hb := hd b h1 (by omega)
      obtain ⟨e1, e2, e3⟩ := I.old b hb c hc
      exact ⟨e2, by omega, fun _ => e1⟩
theorem has_snoc {p : Par α} {a b : α} {o : Option α} : Par.has (p ++ [(b, o)]) a = true ↔ p.has a = true ∨ a = b := by
  rw [has_iff, has_iff]
  constructor
  · rintro ⟨o', h⟩
    rcases List.mem_append.mp h with h | h
    · exact .inl ⟨o', h⟩
    · cases List.mem_singleton.mp h
      exact .inr rfl
  · rintro (⟨o', h⟩ | rfl)
    · exact ⟨o', List.mem_append_left _ h⟩
    · exact ⟨o, List.mem_append_right _ (List.mem_singleton.mpr rfl)⟩
def setD (D : α → Nat) (b : α) (n : Nat) : α → Nat := fun x => if x = b then n else D x
theorem setD_ne {D : α → Nat} {b x : α} {n : Nat} (h : x ≠ b) : setD D b n x = D x := if_neg h
theorem setD_eq {D : α → Nat} {b : α} {n : Nat} : setD D b n b = n := if_pos rfl
theorem Inv.meet {nx ox ox' : α → List α} {st : α} {p : Par α} {done q : List α} {D : α → Nat} (I : Inv nx ox st p done q D) {here b : α} (hh : here ∈ done) (hm : ∀ a, p.has a = true → D a ≤ D here + 1) (hb : b ≠ st) (hn : ¬ p.has b = true) (hnx : b ∈ nx here)
    (ho : ∀ a ∈ done, ∀ c ∈ ox' a, c ∈ ox a ∨ (a = here ∧ c = b)) : Inv nx ox' st (p ++ [(b, some here)]) done (q ++ [b]) (setD D b (D here + 1)) ∧ (∀ a, Par.has (p ++ [(b, some here)]) a = true → setD D b (D here + 1) a ≤ setD D b (D here + 1) here + 1) := by
  have ne : ∀ a, p.has a = true → a ≠ b := fun a h z => hn (by rw [← z]; exact h)
  have phere : p.has here = true := (I.all here).mpr (.inl hh)
  have dhere : setD D b (D here + 1) here = D here := setD_ne (ne _ phere)
  have pd : ∀ a ∈ done, p.has a = true := fun a h => (I.all a).mpr (.inl h)
  have pq : ∀ a ∈ q, p.has a = true := fun a h => (I.all a).mpr (.inr h)
  refine ⟨⟨?_, fun a => ?_, ⟨List.mem_append_left _ I.st0.1, by rw [setD_ne (Ne.symm hb)]; exact I.st0.2⟩, fun a h => ?_, fun a h => ?_, fun a c h => ?_, fun a ha c hc => ?_, fun a ha x hx => ?_, ?_, fun a x ha hx => ?_⟩, fun a h => ?_⟩
  · rw [List.map_append, List.nodup_append]
    refine ⟨I.nd, by simp, fun x hx y hy z => ?_⟩
    obtain ⟨u, hu, rfl⟩ := List.mem_map.mp hx
    rw [List.mem_singleton.mp hy] at z
    exact ne u.1 (has_iff.mpr ⟨u.2, hu⟩) z
  · rw [has_snoc, I.all a, List.mem_append, List.mem_singleton, or_assoc]
  · rcases List.mem_append.mp h with h | h
    · exact I.one a h
    · cases List.mem_singleton.mp h
  · have old : ∀ a, p.has a = true → ∃ l, Up (p ++ [(b, some here)]) a l ∧ l.length = D a + 1 ∧ l.Nodup ∧ ∀ x ∈ l, D x ≤ D a ∧ p.has x = true := fun a h => by
      obtain ⟨l, h1, h2, h3, h4⟩ := I.up a h
      exact ⟨l, h1.mono fun x hx => List.mem_append_left _ hx, h2, h3, h4⟩
    by_cases e : a = b
    · subst e
      obtain ⟨l, h1, h2, h3, h4⟩ := old here phere
      refine ⟨a :: l, .cons (List.mem_append_right _ (List.mem_singleton.mpr rfl)) h1, by rw [List.length_cons, h2, setD_eq], List.nodup_cons.mpr ⟨fun z => hn (h4 a z).2, h3⟩, fun x hx => ?_⟩
      rcases List.mem_cons.mp hx with rfl | hx
      · exact ⟨Nat.le_refl _, has_snoc.mpr (.inr rfl)⟩
      · rw [setD_ne (ne x (h4 x hx).2), setD_eq]
        exact ⟨by have := (h4 x hx).1; omega, has_snoc.mpr (.inl (h4 x hx).2)⟩
    · have h : p.has a = true := (has_snoc.mp h).resolve_right e
      obtain ⟨l, h1, h2, h3, h4⟩ := old a h
      rw [setD_ne e]
      exact ⟨l, h1, h2, h3, fun x hx => ⟨by rw [setD_ne (ne x (h4 x hx).2)]; exact (h4 x hx).1, has_snoc.mpr (.inl (h4 x hx).2)⟩⟩
  · rcases List.mem_append.mp h with h | h
    · obtain ⟨h1, h2, h3⟩ := I.edge a c h
      have ha : p.has a = true := has_iff.mpr ⟨_, h⟩
      rw [setD_ne (ne a ha), setD_ne (ne c h3)]
      exact ⟨h1, h2, has_snoc.mpr (.inl h3)⟩
    · cases List.mem_singleton.mp h
      rw [setD_eq, dhere]
      exact ⟨hnx, rfl, has_snoc.mpr (.inl phere)⟩
  · rw [setD_ne (ne a (pd a ha))]
    rcases ho a ha c hc with hc | ⟨rfl, rfl⟩
    · obtain ⟨h1, h2, h3⟩ := I.old a ha c hc
      rw [setD_ne (ne c h2)]
      exact ⟨h1, has_snoc.mpr (.inl h2), h3⟩
    · rw [setD_eq]
      exact ⟨hb, has_snoc.mpr (.inr rfl), Nat.le_refl _⟩
  · rw [setD_ne (ne a (pd a ha))]
    rcases List.mem_append.mp hx with hx | hx
    · rw [setD_ne (ne x (pq x hx))]
      exact I.dq a ha x hx
    · rw [List.mem_singleton.mp hx, setD_eq]
      exact hm a (pd a ha)
  · rw [List.pairwise_append]
    refine ⟨I.qs.imp_of_mem fun {x y} hx hy h => by rw [setD_ne (ne x (pq x hx)), setD_ne (ne y (pq y hy))]; exact h, List.pairwise_singleton _ _, fun x hx y hy => ?_⟩
    rw [List.mem_singleton.mp hy, setD_eq, setD_ne (ne x (pq x hx))]
    exact hm x (pq x hx)
  · rcases List.mem_append.mp ha with ha | ha <;> rcases List.mem_append.mp hx with hx | hx
    · rw [setD_ne (ne a (pq a ha)), setD_ne (ne x (pq x hx))]
      exact I.ql a x ha hx
    · rw [List.mem_singleton.mp hx, setD_eq, setD_ne (ne a (pq a ha))]
      have := I.dq here hh a ha
      omega
    · rw [List.mem_singleton.mp ha, setD_eq, setD_ne (ne x (pq x hx))]
      have := hm x (pq x hx)
      omega
    · rw [List.mem_singleton.mp ha, List.mem_singleton.mp hx]
      omega
  · rw [dhere]
    rcases has_snoc.mp h with h | rfl
    · rw [setD_ne (ne a h)]
      exact hm a h
    · rw [setD_eq]
      exact Nat.le_refl _
def oxF (nx : α → List α) (here : α) (pre : List α) : α → List α := fun a => if a = here then pre else nx a
theorem innerP_sub {st here : α} : ∀ (r : List α) (p : Par α) (q : List α), ∀ x ∈ p, x ∈ innerP st here r p q
  | [], p, q, x, h => h
  | b :: r, p, q, x, h => by
    unfold innerP
    split
    · exact h
    · split
      · exact innerP_sub r p q x h
      · exact innerP_sub r _ _ x (List.mem_append_left _ h)
theorem innerP_nd {st here : α} : ∀ (r : List α) (p : Par α) (q : List α), (p.map Prod.fst).Nodup → ((innerP st here r p q).map Prod.fst).Nodup
  | [], p, q, h => h
  | b :: r, p, q, h => by
    unfold innerP
    split
    · exact h
    · split
      · exact innerP_nd r p q h
      · rename_i _ hb
        refine innerP_nd r _ _ ?_
        rw [List.map_append, List.nodup_append]
        refine ⟨h, by simp, fun x hx y hy z => ?_⟩
        obtain ⟨u, hu, rfl⟩ := List.mem_map.mp hx
        rw [List.mem_singleton.mp hy] at z
        have z : u.1 = b := z
        exact hb (has_iff.mpr ⟨u.2, by rw [← z]; exact hu⟩)
theorem inner_none {st here : α} : ∀ (r : List α) (p : Par α) (q : List α), inner st here r p q = none → st ∈ r
  | [], p, q, h => by cases h
  | b :: r, p, q, h => by
    unfold inner at h
    split at h
    · rename_i e
      rw [e]
      exact List.mem_cons_self
    · split at h
      · exact List.mem_cons_of_mem _ (inner_none r p q h)
      · exact List.mem_cons_of_mem _ (inner_none r _ _ h)
theorem inner_some {nx : α → List α} {st here : α} {done : List α} : ∀ (r : List α) (p : Par α) (q : List α) (D : α → Nat) (pre : List α) (p' : Par α) (q' : List α), nx here = pre ++ r → Inv nx (oxF nx here pre) st p done q D → here ∈ done → (∀ a, p.has a = true → D a ≤ D here + 1) →
    inner st here r p q = some (p', q') → ∃ D', Inv nx nx st p' done q' D' ∧ p'.length + q.length = p.length + q'.length ∧ ∀ x ∈ p', x ∈ p ∨ x.1 ∈ r
  | [], p, q, D, pre, p', q', e, I, hh, hm, h => by
    cases h
    rw [List.append_nil] at e
    have eo : oxF nx here pre = nx := by
      funext a
      unfold oxF
      split
      · rename_i z
        rw [z, e]
      · rfl
    rw [eo] at I
    exact ⟨D, I, by omega, fun x hx => .inl hx⟩
  | b :: r, p, q, D, pre, p', q', e, I, hh, hm, h => by
    unfold inner at h
    split at h
    · cases h
    · rename_i hb
      have e2 : nx here = (pre ++ [b]) ++ r := by rw [e, List.append_assoc]; rfl
      split at h
      · rename_i hp
        have hold : ∀ a ∈ done, ∀ c ∈ oxF nx here (pre ++ [b]) a, c ≠ st ∧ p.has c = true ∧ D c ≤ D a + 1 := fun a ha c hc => by
          by_cases ea : a = here
          · subst ea
            unfold oxF at hc
            rw [if_pos rfl] at hc
            rcases List.mem_append.mp hc with hc | hc
            · exact I.old a ha c (by unfold oxF; rw [if_pos rfl]; exact hc)
            · rw [List.mem_singleton.mp hc]
              exact ⟨hb, hp, hm b hp⟩
          · unfold oxF at hc
            rw [if_neg ea] at hc
            exact I.old a ha c (by unfold oxF; rw [if_neg ea]; exact hc)
        have I2 : Inv nx (oxF nx here (pre ++ [b])) st p done q D := { I with old := hold }
        obtain ⟨D', h1, h2, h3⟩ := inner_some r p q D (pre ++ [b]) p' q' e2 I2 hh hm h
        exact ⟨D', h1, h2, fun x hx => (h3 x hx).imp id (List.mem_cons_of_mem _)⟩
      · rename_i hp
        obtain ⟨I2, hm2⟩ := I.meet (ox' := oxF nx here (pre ++ [b])) hh hm hb hp (by rw [e]; exact List.mem_append_right _ List.mem_cons_self) fun a ha c hc => by
          by_cases ea : a = here
          · subst ea
            unfold oxF at hc ⊢
            rw [if_pos rfl] at hc
            rw [if_pos rfl]
            rcases List.mem_append.mp hc with hc | hc
            · exact .inl hc
            · exact .inr ⟨rfl, List.mem_singleton.mp hc⟩
          · unfold oxF at hc ⊢
            rw [if_neg ea] at hc
            rw [if_neg ea]
            exact .inl hc
        obtain ⟨D', h1, h2, h3⟩ := inner_some r _ _ _ (pre ++ [b]) p' q' e2 I2 hh hm2 h
        refine ⟨D', h1, by rw [List.length_append, List.length_append] at h2; simp only [List.length_cons, List.length_nil] at h2; omega, fun x hx => ?_⟩
        rcases h3 x hx with hx | hx
        · rcases List.mem_append.mp hx with hx | hx
          · exact .inl hx
          · rw [List.mem_singleton.mp hx]
            exact .inr List.mem_cons_self
        · exact .inr (List.mem_cons_of_mem _ hx)
theorem Inv.start (nx : α → List α) (st : α) : Inv nx nx st [(st, none)] [] [st] (fun _ => 0) where
  nd := by simp
  all := fun a => by
    rw [has_iff]
    constructor
    · rintro ⟨o, h⟩
      cases List.mem_singleton.mp h
      exact .inr (List.mem_singleton.mpr rfl)
    · rintro (h | h)
      · exact absurd h List.not_mem_nil
      · rw [List.mem_singleton.mp h]
        exact ⟨none, List.mem_singleton.mpr rfl⟩
  st0 := ⟨List.mem_singleton.mpr rfl, rfl⟩
  one := fun a h => by cases List.mem_singleton.mp h; rfl
  up := fun a h => by
    obtain ⟨o, h⟩ := has_iff.mp h
    cases List.mem_singleton.mp h
    exact ⟨[st], .one (List.mem_singleton.mpr rfl), rfl, by simp, fun b hb => by rw [List.mem_singleton.mp hb]; exact ⟨Nat.le_refl _, has_iff.mpr ⟨none, List.mem_singleton.mpr rfl⟩⟩⟩
  edge := fun a b h => by cases List.mem_singleton.mp h
  old := fun a h => absurd h List.not_mem_nil
  dq := fun a h => absurd h List.not_mem_nil
  qs := List.pairwise_singleton _ _
  ql := fun _ _ _ _ => by omega
theorem nodup_le : ∀ {xs ys : List α}, xs.Nodup → (∀ x ∈ xs, x ∈ ys) → xs.length ≤ ys.length
  | [], _, _, _ => Nat.zero_le _
  | x :: xs, ys, nd, h => by
    have hx := h x List.mem_cons_self
    have h1 : xs.length ≤ (ys.erase x).length := nodup_le (List.nodup_cons.mp nd).2 fun z hz => by
      have hne : z ≠ x := fun e => (List.nodup_cons.mp nd).1 (by rw [← e]; exact hz)
      exact (List.mem_erase_of_ne hne).mpr (h z (List.mem_cons_of_mem _ hz))
    rw [List.length_erase_of_mem hx] at h1
    have : 0 < ys.length := List.length_pos_of_mem hx
    rw [List.length_cons]
    omega
structure Ring (nx : α → List α) (st here : α) (l : List α) (p : Par α) : Prop where
  up : Up p here l
  edge : ∀ a b, (a, some b) ∈ p → a ∈ nx b
  one : ∀ a, (a, none) ∈ p → a = st
  back : st ∈ nx here
  nd : l.Nodup
  least : ∀ m, 0 < m → Walk nx m st st → l.length ≤ m
theorem bfs_spec {nx : α → List α} {st : α} {rows : List α} (cl : ∀ a, ∀ b ∈ nx a, b ∈ rows) : ∀ (n : Nat) (p : Par α) (q done : List α) (D : α → Nat), Inv nx nx st p done q D → (∀ x ∈ p, x.1 ∈ rows) → rows.length + q.length ≤ n + p.length →
    (bfs nx st n p q = none ∧ ∀ m, 0 < m → ¬ Walk nx m st st) ∨ ∃ here pp l p0, bfs nx st n p q = some (here, pp) ∧ (pp.map Prod.fst).Nodup ∧ Up pp here l ∧ Ring nx st here l p0
  | n, p, [], done, D, I, _, _ => by
    refine .inl ⟨by cases n <;> rfl, fun m hm w => ?_⟩
    have := far I m (fun a ha _ => by
      rcases (I.all a).mp ha with h | h
      · exact h
      · exact absurd h List.not_mem_nil) m st (Nat.le_refl _) w
    exact this.2.2 hm rfl
  | 0, p, here :: q, done, D, I, hp, hn => by
    have h1 : (p.map Prod.fst).length ≤ rows.length := nodup_le I.nd fun x hx => by
      obtain ⟨u, hu, rfl⟩ := List.mem_map.mp hx
      exact hp u hu
    rw [List.length_map] at h1
    rw [List.length_cons] at hn
    omega
  | n + 1, p, here :: q, done, D, I, hp, hn => by
    have hq := List.pairwise_cons.mp I.qs
    have hmax : ∀ a, p.has a = true → D a ≤ D here + 1 := fun a ha => by
      rcases (I.all a).mp ha with h | h
      · have := I.dq a h here List.mem_cons_self
        omega
      · exact I.ql here a List.mem_cons_self h
    have I1 : Inv nx (oxF nx here []) st p (here :: done) q D :=
      { nd := I.nd
        all := fun a => by
          rw [I.all a, List.mem_cons, List.mem_cons]
          constructor
          · rintro (h | h | h)
            · exact .inl (.inr h)
            · exact .inl (.inl h)
            · exact .inr h
          · rintro ((h | h) | h)
            · exact .inr (.inl h)
            · exact .inl h
            · exact .inr (.inr h)
        st0 := I.st0
        one := I.one
        up := I.up
        edge := I.edge
        old := fun a ha c hc => by
          unfold oxF at hc
          split at hc
          · exact absurd hc List.not_mem_nil
          · rename_i e
            exact I.old a ((List.mem_cons.mp ha).resolve_left e) c hc
        dq := fun a ha b hb => by
          rcases List.mem_cons.mp ha with rfl | ha
          · exact hq.1 b hb
          · exact I.dq a ha b (List.mem_cons_of_mem _ hb)
        qs := hq.2
        ql := fun a b ha hb => I.ql a b (List.mem_cons_of_mem _ ha) (List.mem_cons_of_mem _ hb) }
    have hh : here ∈ here :: done := List.mem_cons_self
    cases h : inner st here (nx here) p q with
    | none =>
      obtain ⟨l, h1, h2, h3, h4⟩ := I.up here ((I.all here).mpr (.inr List.mem_cons_self))
      refine .inr ⟨here, innerP st here (nx here) p q, l, p, ?_, innerP_nd _ _ _ I.nd, h1.mono (innerP_sub _ _ _), h1, fun a b hab => (I.edge a b hab).1, I.one, inner_none _ _ _ h, h3, fun m hm w => ?_⟩
      · show (match inner st here (nx here) p q with | none => some (here, innerP st here (nx here) p q) | some (p', q') => bfs nx st n p' q') = _
        rw [h]
      · rw [h2]
        rcases Nat.lt_or_ge (D here) m with hlt | hge
        · exact hlt
        · have := far I (D here) (fun a ha hd => by
            rcases (I.all a).mp ha with h | h
            · exact h
            · rcases List.mem_cons.mp h with rfl | h
              · exact absurd hd (Nat.lt_irrefl _)
              · have := hq.1 a h
                omega) m st hge w
          exact absurd rfl (this.2.2 hm)
    | some z =>
      obtain ⟨p', q'⟩ := z
      obtain ⟨D', I', hl, hsub⟩ := inner_some (nx here) p q D [] p' q' rfl I1 hh hmax h
      rw [List.length_cons] at hn
      have e : bfs nx st (n + 1) p (here :: q) = bfs nx st n p' q' := by
        show (match inner st here (nx here) p q with | none => some (here, innerP st here (nx here) p q) | some (p', q') => bfs nx st n p' q') = _
        rw [h]
      rw [e]
      exact bfs_spec cl n p' q' (here :: done) D' I' (fun x hx => (hsub x hx).elim (hp x) (cl here x.1)) (by omega)
end Bfs
namespace Bfs
variable {α : Type} [DecidableEq α]
theorem up_walk {nx : α → List α} {st : α} {p : Par α} (edge : ∀ a b, (a, some b) ∈ p → a ∈ nx b) (one : ∀ a, (a, none) ∈ p → a = st) {a : α} {l : List α} (u : Up p a l) : 1 ≤ l.length ∧ Walk nx (l.length - 1) st a := by
  induction u with
  | one h =>
    rw [one _ h]
    exact ⟨Nat.le_refl _, .nil st⟩
  | @cons a b l h _ ih =>
    obtain ⟨h1, h2⟩ := ih
    refine ⟨by rw [List.length_cons]; omega, ?_⟩
    rw [List.length_cons, Nat.add_sub_cancel]
    obtain ⟨n, hn⟩ : ∃ n, l.length = n + 1 := ⟨l.length - 1, by omega⟩
    rw [hn, Nat.add_sub_cancel] at h2
    rw [hn]
    exact .step h2 (edge _ _ h)
theorem Ring.walk {nx : α → List α} {st here : α} {l : List α} {p : Par α} (r : Ring nx st here l p) : 1 ≤ l.length ∧ Walk nx l.length st st := by
  obtain ⟨h1, h2⟩ := up_walk r.edge r.one r.up
  refine ⟨h1, ?_⟩
  obtain ⟨n, hn⟩ : ∃ n, l.length = n + 1 := ⟨l.length - 1, by omega⟩
  rw [hn, Nat.add_sub_cancel] at h2
  rw [hn]
  exact .step h2 r.back
inductive Down (nx : α → List α) (st : α) : α → List α → Prop
  | one : Down nx st st [st]
  | cons {a b : α} {l : List α} : a ∈ nx b → Down nx st b l → Down nx st a (a :: l)
theorem up_down {nx : α → List α} {st : α} {p : Par α} (edge : ∀ a b, (a, some b) ∈ p → a ∈ nx b) (one : ∀ a, (a, none) ∈ p → a = st) {a : α} {l : List α} (u : Up p a l) : Down nx st a l := by
  induction u with
  | one h => rw [one _ h]; exact .one
  | cons h _ ih => exact .cons (edge _ _ h) ih
def pathOf (p : Par α) : Nat → α → List α
  | 0, _ => []
  | n + 1, a => match p.find? fun x => decide (x.1 = a) with
    | some (_, some b) => a :: pathOf p n b
    | _ => [a]
theorem find_of {p : Par α} (nd : (p.map Prod.fst).Nodup) {a : α} {o : Option α} (h : (a, o) ∈ p) : p.find? (fun x => decide (x.1 = a)) = some (a, o) := by
  induction p with
  | nil => exact absurd h List.not_mem_nil
  | cons x r ih =>
    rw [List.map_cons, List.nodup_cons] at nd
    rcases List.mem_cons.mp h with rfl | h
    · rw [List.find?_cons_of_pos (by simp)]
    · rw [List.find?_cons_of_neg (by
        simp only [decide_eq_true_eq]
        intro e
        exact nd.1 (by rw [e]; exact List.mem_map_of_mem (f := Prod.fst) h))]
      exact ih nd.2 h
theorem pathOf_up {p : Par α} (nd : (p.map Prod.fst).Nodup) {a : α} {l : List α} (u : Up p a l) : ∀ n, l.length ≤ n → pathOf p n a = l := by
  induction u with
  | one h =>
    intro n hn
    cases n with
    | zero => exact absurd hn (by simp)
    | succ n =>
      unfold pathOf
      rw [find_of nd h]
  | cons h _ ih =>
    intro n hn
    cases n with
    | zero => exact absurd hn (by simp)
    | succ n =>
      unfold pathOf
      rw [find_of nd h]
      exact congrArg _ (ih n (by simpa using hn))
def cyc (nx : α → List α) (N : Nat) (st : α) : Option (List α) := (bfs nx st N [(st, none)] [st]).map fun x => (pathOf x.2 N x.1).reverse
structure IsCyc (nx : α → List α) (st : α) (c : List α) : Prop where
  down : ∃ here, Down nx st here c.reverse ∧ st ∈ nx here
  nd : c.Nodup
  walk : Walk nx c.length st st
  l1 : 1 ≤ c.length
  least : ∀ m, 0 < m → Walk nx m st st → c.length ≤ m
theorem cyc_spec {nx : α → List α} {rows : List α} (cl : ∀ a, ∀ b ∈ nx a, b ∈ rows) {st : α} (hst : st ∈ rows) : (cyc nx rows.length st = none ∧ ∀ m, 0 < m → ¬ Walk nx m st st) ∨ ∃ c, cyc nx rows.length st = some c ∧ IsCyc nx st c ∧ ∀ a ∈ c, a ∈ rows := by
  rcases bfs_spec cl rows.length _ _ _ _ (Inv.start nx st) (fun x hx => by rw [List.mem_singleton.mp hx]; exact hst) (Nat.le_refl _) with ⟨h, k⟩ | ⟨here, pp, l, p0, h, nd, u, r⟩
  · refine .inl ⟨?_, k⟩
    unfold cyc
    rw [h]
    rfl
  · have hd := up_down r.edge r.one r.up
    have mem : ∀ {a l}, Down nx st a l → ∀ x ∈ l, x ∈ rows := fun {a l} d => by
      induction d with
      | one => exact fun x hx => by rw [List.mem_singleton.mp hx]; exact hst
      | cons h1 _ ih =>
        intro x hx
        rcases List.mem_cons.mp hx with rfl | hx
        · exact cl _ _ h1
        · exact ih x hx
    have ll : l.length ≤ rows.length := nodup_le r.nd (mem hd)
    obtain ⟨w1, w2⟩ := r.walk
    refine .inr ⟨l.reverse, ?_, ⟨⟨here, by rw [List.reverse_reverse]; exact hd, r.back⟩, List.pairwise_reverse.mpr (r.nd.imp fun h => Ne.symm h), by rw [List.length_reverse]; exact w2, by rw [List.length_reverse]; exact w1, by rw [List.length_reverse]; exact r.least⟩, fun a ha => mem hd a (List.mem_reverse.mp ha)⟩
    unfold cyc
    rw [h]
    show some (pathOf pp rows.length here).reverse = _
    rw [pathOf_up nd u _ ll]
def better : Option (List α) → Option (List α) → Option (List α)
  | none, b => b
  | some c, none => some c
  | some c, some d => if c.length < d.length then some c else some d
def bestOf (nx : α → List α) (N : Nat) : List α → Option (List α) → Option (List α)
  | [], b => b
  | s :: r, b => bestOf nx N r (better (cyc nx N s) b)
theorem bestOf_spec {nx : α → List α} {rows : List α} (cl : ∀ a, ∀ b ∈ nx a, b ∈ rows) : ∀ (ss : List α) (b : Option (List α)), (∀ s ∈ ss, s ∈ rows) → (∀ c, b = some c → ∃ s, IsCyc nx s c) →
    (bestOf nx rows.length ss b = none ∧ b = none ∧ ∀ s ∈ ss, ∀ m, 0 < m → ¬ Walk nx m s s) ∨ ∃ c s, bestOf nx rows.length ss b = some c ∧ IsCyc nx s c ∧ (∀ s ∈ ss, ∀ m, 0 < m → Walk nx m s s → c.length ≤ m) ∧ ∀ d, b = some d → c.length ≤ d.length
  | [], none, _, _ => .inl ⟨rfl, rfl, fun s h => absurd h List.not_mem_nil⟩
  | [], some c, _, hb => by
    obtain ⟨s, hs⟩ := hb c rfl
    exact .inr ⟨c, s, rfl, hs, fun s h => absurd h List.not_mem_nil, fun d e => by cases e; exact Nat.le_refl _⟩
  | s :: r, b, hs, hb => by
    have hr : ∀ x ∈ r, x ∈ rows := fun x hx => hs x (List.mem_cons_of_mem _ hx)
    unfold bestOf
    rcases cyc_spec cl (hs s List.mem_cons_self) with ⟨h, k⟩ | ⟨c, h, hc, _⟩
    · rw [h]
      have e : better none b = b := rfl
      rw [e]
      rcases bestOf_spec cl r b hr hb with ⟨h1, h2, h3⟩ | ⟨c, s', h1, h2, h3, h4⟩
      · refine .inl ⟨h1, h2, fun x hx => ?_⟩
        rcases List.mem_cons.mp hx with rfl | hx
        · exact k
        · exact h3 x hx
      · refine .inr ⟨c, s', h1, h2, fun x hx => ?_, h4⟩
        rcases List.mem_cons.mp hx with rfl | hx
        · exact fun m hm w => absurd w (k m hm)
        · exact h3 x hx
    · rw [h]
      cases b with
      | none =>
        rcases bestOf_spec cl r (some c) hr (fun d e => by cases e; exact ⟨s, hc⟩) with ⟨_, h2, _⟩ | ⟨c', s', h1, h2, h3, h4⟩
        · cases h2
        · refine .inr ⟨c', s', h1, h2, fun x hx => ?_, fun d e => by cases e⟩
          rcases List.mem_cons.mp hx with rfl | hx
          · exact fun m hm w => Nat.le_trans (h4 c rfl) (hc.least m hm w)
          · exact h3 x hx
      | some d =>
        obtain ⟨sd, hd⟩ := hb d rfl
        by_cases hlt : c.length < d.length
        · have e : better (some c) (some d) = some c := if_pos hlt
          rw [e]
          rcases bestOf_spec cl r (some c) hr (fun d e => by cases e; exact ⟨s, hc⟩) with ⟨_, h2, _⟩ | ⟨c', s', h1, h2, h3, h4⟩
          · cases h2
          · refine .inr ⟨c', s', h1, h2, fun x hx => ?_, fun e he => by cases he; have := h4 c rfl; omega⟩
            rcases List.mem_cons.mp hx with rfl | hx
            · exact fun m hm w => Nat.le_trans (h4 c rfl) (hc.least m hm w)
            · exact h3 x hx
        · have e : better (some c) (some d) = some d := if_neg hlt
          rw [e]
          rcases bestOf_spec cl r (some d) hr (fun e he => by cases he; exact ⟨sd, hd⟩) with ⟨_, h2, _⟩ | ⟨c', s', h1, h2, h3, h4⟩
          · cases h2
          · refine .inr ⟨c', s', h1, h2, fun x hx => ?_, fun e he => by cases he; exact h4 d rfl⟩
            rcases List.mem_cons.mp hx with rfl | hx
            · exact fun m hm w => by
                have := h4 d rfl
                have := hc.least m hm w
                omega
            · exact h3 x hx
def LeastAt (nx : α → List α) (N : Nat) : Option Nat → Prop
  | none => ∀ m, 0 < m → m ≤ N → ∀ a, ¬ Walk nx m a a
  | some n => 0 < n ∧ n ≤ N ∧ (∃ a, Walk nx n a a) ∧ ∀ m, 0 < m → m < n → ∀ a, ¬ Walk nx m a a
theorem walk_first {nx : α → List α} : ∀ {n : Nat} {a b : α}, Walk nx (n + 1) a b → ∃ c, c ∈ nx a ∧ Walk nx n c b
  | 0, a, b, w => by
    cases w with
    | step w h =>
      cases w
      exact ⟨b, h, .nil b⟩
  | n + 1, a, b, w => by
    cases w with
    | step w h =>
      obtain ⟨c, h1, h2⟩ := walk_first w
      exact ⟨c, h1, .step h2 h⟩
theorem best_least {nx : α → List α} {rows keys : List α} (cl : ∀ a, ∀ b ∈ nx a, b ∈ rows) (hk : ∀ s ∈ keys, s ∈ rows) (hall : ∀ a, nx a ≠ [] → a ∈ keys) {o : Option Nat} (ho : LeastAt nx rows.length o) :
    (bestOf nx rows.length keys none = none ∧ o = none) ∨ ∃ c s, bestOf nx rows.length keys none = some c ∧ o = some c.length ∧ IsCyc nx s c ∧ (∀ a ∈ c, a ∈ rows) := by
  have kin : ∀ {m : Nat} {a : α}, 0 < m → Walk nx m a a → a ∈ keys := fun {m a} hm w => by
    obtain ⟨n, rfl⟩ : ∃ n, m = n + 1 := ⟨m - 1, by omega⟩
    obtain ⟨c, h1, _⟩ := walk_first w
    exact hall a fun z => by rw [z] at h1; exact absurd h1 List.not_mem_nil
  rcases bestOf_spec cl keys none hk (fun c e => by cases e) with ⟨h1, _, h3⟩ | ⟨c, s, h1, h2, h3, _⟩
  · refine .inl ⟨h1, ?_⟩
    cases o with
    | none => rfl
    | some n =>
      obtain ⟨hn, _, ⟨a, w⟩, _⟩ := ho
      exact absurd w (h3 a (kin hn w) n hn)
  · have hs : s ∈ rows := hk s (kin h2.l1 h2.walk)
    have hc : ∀ a ∈ c, a ∈ rows := by
      obtain ⟨here, hd, _⟩ := h2.down
      have mem : ∀ {a l}, Down nx s a l → ∀ x ∈ l, x ∈ rows := fun {a l} d => by
        induction d with
        | one => exact fun x hx => by rw [List.mem_singleton.mp hx]; exact hs
        | cons h1 _ ih =>
          intro x hx
          rcases List.mem_cons.mp hx with rfl | hx
          · exact cl _ _ h1
          · exact ih x hx
      exact fun a ha => mem hd a (List.mem_reverse.mpr ha)
    have hl : c.length ≤ rows.length := nodup_le h2.nd hc
    refine .inr ⟨c, s, h1, ?_, h2, hc⟩
    cases o with
    | none => exact absurd h2.walk (ho c.length h2.l1 hl s)
    | some n =>
      obtain ⟨hn, _, ⟨a, w⟩, k⟩ := ho
      have e1 : c.length ≤ n := h3 a (kin hn w) n hn w
      have e2 : ¬ c.length < n := fun z => k c.length h2.l1 z s h2.walk
      rw [show n = c.length by omega]
end Bfs
namespace Sv
open PySem PySem.Spec PyProof.Rows L2 Sw
local macro_rules | `(tactic| walk_at "go1") => `(tactic| first
  | ((with_reducible refine' g_var ?hv ?_); (case hv => rfl))
  | with_reducible refine g_c ?_
  | with_reducible refine g_op ?_
  | with_reducible refine g_un ?_
  | with_reducible refine g_seq ?_
  | with_reducible refine g_next ?_
  | with_reducible refine g_asg ?_
  | with_reducible refine g_name ?_
  | with_reducible refine g_drop ?_
  | with_reducible refine g_sub ?_
  | with_reducible refine g_ret ?_
  | with_reducible refine g_retN ?_
  | with_reducible refine g_ifS ?_
  | with_reducible refine g_if ?_
  | with_reducible refine g_test ?_
  | with_reducible refine g_bl ?_
  | with_reducible refine g_cons ?_
  | with_reducible refine g_nil ?_
  | with_reducible refine g_and ?_
  | with_reducible refine g_or ?_
  | with_reducible refine g_not ?_
  | with_reducible refine g_callB ?_
  | with_reducible refine g_addI ?_
  | with_reducible refine g_I0 ?_
  | with_reducible refine g_calG ?_
  | with_reducible refine g_mkG ?_
  | with_reducible refine g_tup ?_
  | with_reducible refine g_pairs1 ?_
  | with_reducible refine g_pairs0 ?_
  | with_reducible refine g_dget ?_
  | with_reducible refine g_lvals ?_
  | with_reducible refine g_forT ?_
  | with_reducible refine g_lcT ?_
  | with_reducible refine g_dput ?_
  | with_reducible refine g_lc2L ?_
  | with_reducible refine g_iList ?_
  | with_reducible refine g_lcX ?_
  | with_reducible refine g_js1 ?_
  | with_reducible refine g_js0 ?_
  | with_reducible refine g_fmt ?_
  | with_reducible refine g_tLenSet ?_
  | with_reducible refine g_mkV ?_
  | with_reducible refine g_mkV1 ?_
  | with_reducible refine g_lst ?_
  | with_reducible refine g_forL ?_
  | with_reducible refine g_forR ?_
  | with_reducible refine g_forR2 ?_
  | with_reducible refine g_forS ?_
  | with_reducible refine g_forE ?_
  | with_reducible refine g_lcL ?_
  | with_reducible refine g_lcR ?_
  | with_reducible refine g_lcS ?_
  | with_reducible refine g_lcE ?_
  | with_reducible refine g_orT ?_
  | with_reducible refine g_slc ?_
  | with_reducible refine g_noPart ?_
  | with_reducible refine g_part ?_
  | with_reducible refine g_bm ?_
  | with_reducible refine g_par ?_
  | with_reducible refine g_yes ?_
  | with_reducible refine g_tupG ?_
  | with_reducible refine g_lstG ?_
  | with_reducible refine g_gcons ?_
  | with_reducible refine g_gnil ?_
  | with_reducible refine g_chain ?_
  | with_reducible refine g_truB ?_
  | with_reducible refine g_truN ?_
  | with_reducible refine g_truI ?_
  | with_reducible refine g_m1 ?_
  | with_reducible refine g_fld ?_
  | with_reducible refine g_con ?_
  | with_reducible refine g_tru ?_
  | with_reducible refine g_U ?_
  | with_reducible refine g_xg ?_
  | with_reducible refine g_andT ?_
  | with_reducible refine g_exI ?_
  | with_reducible refine g_dnew ?_
  | with_reducible refine g_intB ?_
  | with_reducible refine g_meth ?_
  | with_reducible refine g_prop ?_
  | with_reducible refine g_exc1 ?_
  | with_reducible refine g_setF ?_
  | with_reducible refine g_star ?_
  | with_reducible refine g_strM ?_
  | with_reducible refine iteT ?_
  | with_reducible refine iteF ?_
  | with_reducible refine iteNT ?_
  | with_reducible refine iteNF ?_)
local macro_rules | `(tactic| walk_at "go") => `(tactic| repeat (walk_at "go1"))
local macro_rules | `(tactic| walk_at "sz") => `(tactic| (first | (rw [sizeLine_eq]; simp only [List.length_cons, List.length_nil, List.length_map, List.length_append, List.length_take]; omega) | (rw [sizeLine_eq]; omega)))
local macro_rules | `(tactic| walk_at "go1") => `(tactic| first
  | with_reducible refine g_excM ?_
  | with_reducible refine g_cval ?_
  | with_reducible refine g_dget2 ?_
  | with_reducible refine g_ddel ?_
  | with_reducible refine g_dcK ?_)
inductive UpN (G : Hp) (pk : NKvs) : Addr → List Addr → Prop
  | one {a : Addr} {k : NestedKey} : KeyAt G k (.ref a) → k.depth ≤ 8 → valN pk k = some .non → UpN G pk a [a]
  | cons {a b : Addr} {k : NestedKey} {l : List Addr} : KeyAt G k (.ref a) → k.depth ≤ 8 → valN pk k = some (.ref b) → UpN G pk b l → UpN G pk a (a :: l)
section
variable {P : Program} {wo : World} {A : Ad} {K : PySem.W.Frag} {mg : Str → Option Value} {base : Heap}
def spPt (K : PySem.W.Frag) (P : Program) (wo : World) : Sp := fun vs H Q _ => ∃ G R d a pk l, vs = [.ref d, .ref a] ∧ Wd G R H ∧ G d = some (DnO P wo d pk) ∧ NKeys G pk ∧ UpN G pk a l ∧ l.length ≤ 1000 ∧ ∀ t G' H', Same G G' → SqT K G' t (l.reverse.map V.ref) → Wd G' R H' → Q (.ref t) H'
theorem sc_path_to : FnScope (["parents", "row", "found"] : List Str) (["parents", "row"] : List Str) (defScope s_path_to) := ⟨rfl, rfl, rfl, by decide +kernel, rfl, by decide +kernel, by decide +kernel⟩
theorem ok_pt {f : Addr} {fd : FuncData} (F : Fun K "path_to" "path_to" s_path_to f fd) (T : Txt K mg A) : FnOk P wo K mg base (L2.CX P wo) 1 f fd (["parents", "row"] : List Str) (spPt K P wo) := by
  refine okT F sc_path_to (fun vs H Q E h => ?_) (fun cdv Ar outer s H vs Q E hr tk po h => ?_)
  · obtain ⟨_, _, _, _, _, _, rfl, _⟩ := h
    rfl
  obtain ⟨G, R, d, a, pk, l, rfl, w, hd, kk, up, hl, k⟩ := h
  refine ⟨_, (pss_cons (ps_set (i := 2) sc_path_to.nd rfl (by first | exact Or.inl rfl | exact Or.inr rfl) (pe_lst pa_nil))
      (pss_cons (ps_while po (pt_cmpR op_notN (pv 1) pe_non (nomark _)) (pss_cons (ps_expr (pe_bm PySem.F.plainAttrs_list PySem.F.slot_list_append PySem.F.type_list_append mt_append (pv 2) (pa_cons (pv 1) pa_nil)))
      (pss_one (ps_set (i := 1) sc_path_to.nd rfl (by first | exact Or.inl rfl | exact Or.inr rfl) (pe_ixN P wo (hu16 hr) (pv 0) (pv 1) (fun _ _ => rfl))))))
      (pss_one (ps_ret (pe_callTy call_tuple_of (by rfl) T.nb_tuple (by decide +kernel) (pa_cons (ke_revL K (pv 2)) pa_nil)))))), ?_⟩
  walk_at "go"
  refine g_newL w (by walk_at "sz") fun p H1 n1 w => ?_
  walk_at "go"
  refine ⟨fun m σ' H' => ∃ x dn, σ' = [some (.ref d), some x, some (.ref p)] ∧ Wd (upd G p (.lst (dn.map V.ref))) R H' ∧ ((x = .non ∧ dn = l) ∨ ∃ a' l', x = .ref a' ∧ UpN G pk a' l' ∧ dn ++ l' = l ∧ m = l'.length),
    ⟨l.length, .ref a, [], rfl, w, .inr ⟨a, l, rfl, up, rfl, rfl⟩⟩, ?_⟩
  rintro m σ' H' ⟨x, dn, rfl, w, h0⟩
  have hp : upd G p (.lst (dn.map V.ref)) p = some (.lst (dn.map V.ref)) := upd_same
  have s1 : Same G (upd G p (.lst (dn.map V.ref))) := Same.newG n1
  walk_at "go"
  rcases h0 with ⟨rfl, rfl⟩ | ⟨a', l', rfl, up', rfl, rfl⟩
  · refine ⟨rfl, _, rfl, ?_⟩
    rw [if_neg (by simp)]
    walk_at "go"
    refine g_revL ?_
    walk_at "go"
    refine ⟨p, _, rfl, SqL.of (w.get hp), fun p2 np => ?_⟩
    have n2 := w.free np
    replace w := w.new (o := .lst (dn.map V.ref).reverse) np
    walk_at "go"
    refine ⟨p2, _, rfl, .inl ⟨SqL.of (w.get upd_same), fun t nt => ?_⟩⟩
    have nt2 := w.free nt
    replace w := w.new (o := .tup (dn.map V.ref).reverse) nt
    exact k t _ _ (Same.trans s1 (Same.trans (Same.newG n2) (Same.newG nt2))) (by rw [List.map_reverse]; exact SqT.of upd_same) w
  · refine ⟨rfl, _, rfl, ?_⟩
    rw [if_pos (by simp)]
    refine ⟨_, fun _ _ h => h, ?_⟩
    walk_at "go"
    refine g_tyL w hp ?_
    walk_at "go"
    have ld : (dn.map V.ref).length ≤ 1000 := by rw [List.length_map]; rw [List.length_append] at hl; omega
    refine g_app w hp (by rw [sizeLine_eq]; omega) fun H2 w => ?_
    rw [upd_upd] at w
    have e2 : (dn ++ [a']).map V.ref = dn.map V.ref ++ [.ref a'] := by rw [List.map_append]; rfl
    have s2 : Same G (upd G p (.lst (dn.map V.ref ++ [.ref a']))) := Same.newG n1
    walk_at "go"
    cases up' with
    | one hk h8 hv =>
      refine g_ixN w (s2 _ _ hd) (kk.same fun _ _ z => s2 _ _ z) (KeyAt.same (fun _ _ z => s2 _ _ z) _ _ hk) h8 hv ?_
      walk_at "go"
      exact ⟨0, by show 0 < 1; decide, _, dn ++ [a'], rfl, by rw [e2]; exact w, .inl ⟨rfl, rfl⟩⟩
    | @cons _ b _ l2 hk h8 hv up2 =>
      refine g_ixN w (s2 _ _ hd) (kk.same fun _ _ z => s2 _ _ z) (KeyAt.same (fun _ _ z => s2 _ _ z) _ _ hk) h8 hv ?_
      walk_at "go"
      exact ⟨l2.length, by rw [List.length_cons]; omega, _, dn ++ [a'], rfl, by rw [e2]; exact w, .inr ⟨b, l2, rfl, up2, by rw [List.append_assoc]; rfl, rfl⟩⟩
end
end Sv
namespace Sv
open PySem PySem.Spec PyProof.Rows L2 Sw
def rk (x : Str × Int) : NestedKey := .tup [.text x.1, .num x.2]
theorem rk_inj {x y : Str × Int} (h : rk x = rk y) : x = y := by
  unfold rk at h
  injection h with h
  injection h with h1 h2
  injection h2 with h2 _
  injection h1 with h1
  injection h2 with h2
  exact Prod.ext h1 h2
theorem rk_depth (x : Str × Int) : (rk x).depth ≤ 8 := by
  unfold rk
  simp [NestedKey.depth, NestedKey.depthAll]
structure RowsAt (G : Hp) (rs : List Addr) (κ : Addr → Str × Int) : Prop where
  at_ : ∀ a ∈ rs, G a = some (.tup [.str (κ a).1, .int (κ a).2])
  inj : ∀ a ∈ rs, ∀ b ∈ rs, κ a = κ b → a = b
  ok : ∀ a ∈ rs, PyData.strOk (κ a).1 = true
theorem RowsAt.same {G G' : Hp} {rs : List Addr} {κ : Addr → Str × Int} (h : RowsAt G rs κ) (e : Same G G') : RowsAt G' rs κ := ⟨fun a ha => e _ _ (h.at_ a ha), h.inj, h.ok⟩
theorem RowsAt.key {G : Hp} {rs : List Addr} {κ : Addr → Str × Int} (h : RowsAt G rs κ) {a : Addr} (ha : a ∈ rs) : KeyAt G (rk (κ a)) (.ref a) := .tup (h.at_ a ha) (.cons (.str _) (.cons (.int _) .nil))
def rowD (x : Str × Int) : PyData := .tuple [.str x.1, .int x.2]
theorem rowD_shaped {x : Str × Int} (h : PyData.strOk x.1 = true) : SeqAt.shaped (rowD x) = true := by
  unfold rowD
  simp [SeqAt.shaped, PyData.canLay0, PyData.canLayAll0, PyData.depth, PyData.depthAll, h]
theorem rowD_eqv (x y : Str × Int) : PyData.eqv (rowD x) (rowD y) = decide (x = y) := by
  unfold rowD
  rw [Bool.eq_iff_iff, decide_eq_true_eq]
  simp [PyData.eqv, PyData.eqvAll, Prod.ext_iff]
theorem RowsAt.dp {K : PySem.W.Frag} {G H : Hp} {R : Res} {rs : List Addr} {κ : Addr → Str × Int} (h : RowsAt G rs κ) (w : Wd G R H) {a : Addr} (ha : a ∈ rs) : Dp K H (.ref a) (rowD (κ a)) := .tup (SqT.of (w.get (h.at_ a ha))) (.cons (.str _) (.cons (.int _) .nil))
def parV : Option Addr → V
  | none => .non
  | some b => .ref b
def parK (κ : Addr → Str × Int) (p : Bfs.Par Addr) : NKvs := p.map fun x => (rk (κ x.1), x.1, parV x.2)
structure ParOk (rs : List Addr) (p : Bfs.Par Addr) : Prop where
  nd : (p.map Prod.fst).Nodup
  sub : ∀ x ∈ p, x.1 ∈ rs
  up : ∀ x ∈ p, ∃ l, Bfs.Up p x.1 l ∧ l.Nodup ∧ ∀ b ∈ l, p.has b = true
section
variable {G : Hp} {rs : List Addr} {κ : Addr → Str × Int} {p : Bfs.Par Addr}
theorem parK_keys (R : RowsAt G rs κ) (h : ∀ x ∈ p, x.1 ∈ rs) : NKeys G (parK κ p) := fun q hq => by
  obtain ⟨x, hx, rfl⟩ := List.mem_map.mp hq
  exact ⟨R.key (h x hx), rk_depth _⟩
theorem parK_val (R : RowsAt G rs κ) (h : ∀ x ∈ p, x.1 ∈ rs) {a : Addr} (ha : a ∈ rs) : valN (parK κ p) (rk (κ a)) = (p.find? fun x => decide (x.1 = a)).map fun x => parV x.2 := by
  induction p with
  | nil => rfl
  | cons x r ih =>
    have ih := ih fun y hy => h y (List.mem_cons_of_mem _ hy)
    have hx := h x List.mem_cons_self
    unfold valN parK at *
    rw [List.map_cons]
    by_cases e : x.1 = a
    · rw [List.find?_cons_of_pos (by simp [e]), List.find?_cons_of_pos (by simp [e])]
      rfl
    · rw [List.find?_cons_of_neg (by
        simp only [decide_eq_true_eq]
        intro z
        exact e (R.inj _ hx _ ha (rk_inj z))), List.find?_cons_of_neg (by simpa using e)]
      exact ih
theorem parK_some (R : RowsAt G rs κ) (o : ParOk rs p) {a : Addr} {b : Option Addr} (h : (a, b) ∈ p) : valN (parK κ p) (rk (κ a)) = some (parV b) := by
  rw [parK_val R o.sub (o.sub _ h), Bfs.find_of o.nd h]
  rfl
theorem parK_has (R : RowsAt G rs κ) (h : ∀ x ∈ p, x.1 ∈ rs) {a : Addr} (ha : a ∈ rs) : (valN (parK κ p) (rk (κ a))).isSome = p.has a := by
  rw [parK_val R h ha, Option.isSome_map]
  unfold Bfs.Par.has
  rw [Bool.eq_iff_iff, List.find?_isSome, List.any_eq_true]
theorem parK_put (R : RowsAt G rs κ) (h : ∀ x ∈ p, x.1 ∈ rs) {a b : Addr} (ha : a ∈ rs) (hn : p.has a = false) : putN (parK κ p) (rk (κ a)) a (.ref b) = parK κ (p ++ [(a, some b)]) := by
  unfold putN
  rw [parK_has R h ha, hn, if_neg Bool.false_ne_true]
  unfold parK
  rw [List.map_append]
  rfl
theorem up_upN (R : RowsAt G rs κ) (o : ParOk rs p) {a : Addr} {l : List Addr} (u : Bfs.Up p a l) : UpN G (parK κ p) a l := by
  induction u with
  | one h => exact .one (R.key (o.sub _ h)) (rk_depth _) (parK_some R o h)
  | cons h _ ih => exact .cons (R.key (o.sub _ h)) (rk_depth _) (parK_some R o h) ih
theorem ParOk.snoc (o : ParOk rs p) {b here : Addr} (hb : b ∈ rs) (hh : p.has here = true) (hn : p.has b = false) : ParOk rs (p ++ [(b, some here)]) := by
  have sub : ∀ x ∈ p, x ∈ p ++ [(b, some here)] := fun x hx => List.mem_append_left _ hx
  refine ⟨?_, fun x hx => ?_, fun x hx => ?_⟩
  · rw [List.map_append, List.nodup_append]
    refine ⟨o.nd, by simp, fun x hx y hy z => ?_⟩
    obtain ⟨u, hu, rfl⟩ := List.mem_map.mp hx
    rw [List.mem_singleton.mp hy] at z
    have z : u.1 = b := z
    rw [← z, Bfs.has_iff.mpr ⟨u.2, hu⟩] at hn
    cases hn
  · rcases List.mem_append.mp hx with hx | hx
    · exact o.sub x hx
    · rw [List.mem_singleton.mp hx]
      exact hb
  · rcases List.mem_append.mp hx with hx | hx
    · obtain ⟨l, h1, h2, h3⟩ := o.up x hx
      exact ⟨l, h1.mono sub, h2, fun c hc => Bfs.has_snoc.mpr (.inl (h3 c hc))⟩
    · rw [List.mem_singleton.mp hx]
      obtain ⟨oh, hoh⟩ := Bfs.has_iff.mp hh
      obtain ⟨l, h1, h2, h3⟩ := o.up _ hoh
      refine ⟨b :: l, .cons (List.mem_append_right _ (List.mem_singleton.mpr rfl)) (h1.mono sub), List.nodup_cons.mpr ⟨fun z => (by rw [h3 b z] at hn; cases hn), h2⟩, fun c hc => ?_⟩
      rcases List.mem_cons.mp hc with rfl | hc
      · exact Bfs.has_snoc.mpr (.inr rfl)
      · exact Bfs.has_snoc.mpr (.inl (h3 c hc))
theorem ParOk.first {st : Addr} (hs : st ∈ rs) : ParOk rs [(st, none)] := ⟨by simp, fun x hx => by rw [List.mem_singleton.mp hx]; exact hs, fun x hx => by
  rw [List.mem_singleton.mp hx]
  exact ⟨[st], .one (List.mem_singleton.mpr rfl), by simp, fun b hb => by rw [List.mem_singleton.mp hb]; exact Bfs.has_iff.mpr ⟨none, List.mem_singleton.mpr rfl⟩⟩⟩
theorem ParOk.len (o : ParOk rs p) : p.length ≤ rs.length := by
  have := Bfs.nodup_le o.nd fun x hx => by
    obtain ⟨u, hu, rfl⟩ := List.mem_map.mp hx
    exact o.sub u hu
  rw [List.length_map] at this
  exact this
theorem ParOk.way (o : ParOk rs p) {a : Addr} (h : p.has a = true) : ∃ l, Bfs.Up p a l ∧ l.length ≤ rs.length ∧ Bfs.pathOf p rs.length a = l := by
  obtain ⟨oh, hoh⟩ := Bfs.has_iff.mp h
  obtain ⟨l, h1, h2, h3⟩ := o.up _ hoh
  have hl : l.length ≤ rs.length := Bfs.nodup_le h2 fun b hb => by
    obtain ⟨ob, hob⟩ := Bfs.has_iff.mp (h3 b hb)
    exact o.sub _ hob
  exact ⟨l, h1, hl, Bfs.pathOf_up o.nd h1 _ hl⟩
end
end Sv
namespace Bfs
variable {α : Type} [DecidableEq α]
theorem bfs_cons {nx : α → List α} {st here : α} {n : Nat} {p : Par α} {q : List α} : bfs nx st (n + 1) p (here :: q) = (match inner st here (nx here) p q with | none => some (here, innerP st here (nx here) p q) | some (p', q') => bfs nx st n p' q') := rfl
theorem inner_st {st here : α} {r : List α} {p : Par α} {q : List α} : inner st here (st :: r) p q = none ∧ innerP st here (st :: r) p q = p := ⟨if_pos rfl, if_pos rfl⟩
theorem inner_has {st here b : α} {r : List α} {p : Par α} {q : List α} (h : b ≠ st) (hp : p.has b = true) : inner st here (b :: r) p q = inner st here r p q ∧ innerP st here (b :: r) p q = innerP st here r p q := by
  constructor
  · show (if b = st then _ else if p.has b = true then _ else _) = _
    rw [if_neg h, if_pos hp]
  · show (if b = st then _ else if p.has b = true then _ else _) = _
    rw [if_neg h, if_pos hp]
theorem inner_new {st here b : α} {r : List α} {p : Par α} {q : List α} (h : b ≠ st) (hp : p.has b = false) : inner st here (b :: r) p q = inner st here r (p ++ [(b, some here)]) (q ++ [b]) ∧ innerP st here (b :: r) p q = innerP st here r (p ++ [(b, some here)]) (q ++ [b]) := by
  have hn : ¬ p.has b = true := by rw [hp]; exact Bool.false_ne_true
  constructor
  · show (if b = st then _ else if p.has b = true then _ else _) = _
    rw [if_neg h, if_neg hn]
  · show (if b = st then _ else if p.has b = true then _ else _) = _
    rw [if_neg h, if_neg hn]
end Bfs
namespace Sv
open PySem PySem.Spec PyProof.Rows L2 Sw
theorem valN_mem {kvs : NKvs} {k : NestedKey} : (valN kvs k).isSome = true ↔ k ∈ kvs.map Prod.fst := by
  unfold valN
  rw [Option.isSome_map, List.find?_isSome]
  constructor
  · rintro ⟨x, hx, e⟩
    rw [← of_decide_eq_true e]
    exact List.mem_map_of_mem hx
  · intro h
    obtain ⟨x, hx, e⟩ := List.mem_map.mp h
    exact ⟨x, hx, decide_eq_true e⟩
theorem keys_put {kvs : NKvs} {k : NestedKey} {b : Addr} {v : V} {j : NestedKey} : j ∈ (putN kvs k b v).map Prod.fst ↔ j ∈ kvs.map Prod.fst ∨ j = k := by
  unfold putN
  split
  · rename_i h
    have e : (kvs.map (putAtN k v)).map Prod.fst = kvs.map Prod.fst := by
      rw [List.map_map]
      refine List.map_congr_left fun p _ => ?_
      show (putAtN k v p).1 = p.1
      unfold putAtN
      split <;> rfl
    rw [e]
    constructor
    · exact .inl
    · rintro (h' | rfl)
      · exact h'
      · exact valN_mem.mp h
  · rw [List.map_append, List.mem_append]
    exact or_congr_right List.mem_singleton
theorem keys_all : ∀ {ps acc : NKvs} {j : NestedKey}, j ∈ (allN ps acc).map Prod.fst ↔ j ∈ acc.map Prod.fst ∨ j ∈ ps.map Prod.fst
  | [], acc, j => by
    show j ∈ acc.map Prod.fst ↔ _
    rw [List.map_nil]
    exact ⟨.inl, fun h => h.resolve_right List.not_mem_nil⟩
  | p :: ps, acc, j => by
    show j ∈ (allN ps (putN acc p.1 p.2.1 p.2.2)).map Prod.fst ↔ _
    rw [keys_all, keys_put, List.map_cons, List.mem_cons, or_assoc]
theorem all_sub : ∀ {ps acc : NKvs} (q), q ∈ allN ps acc → (∃ p ∈ acc, p.1 = q.1 ∧ p.2.1 = q.2.1) ∨ ∃ p ∈ ps, p.1 = q.1 ∧ p.2.1 = q.2.1
  | [], acc, q, h => .inl ⟨q, h, rfl, rfl⟩
  | p :: ps, acc, q, h => by
    have h : q ∈ allN ps (putN acc p.1 p.2.1 p.2.2) := h
    rcases all_sub q h with ⟨x, hx, e1, e2⟩ | ⟨x, hx, e⟩
    · unfold putN at hx
      split at hx
      · obtain ⟨y, hy, rfl⟩ := List.mem_map.mp hx
        have e3 : (putAtN p.1 p.2.2 y).1 = y.1 ∧ (putAtN p.1 p.2.2 y).2.1 = y.2.1 := by
          unfold putAtN
          split <;> exact ⟨rfl, rfl⟩
        exact .inl ⟨y, hy, e3.1 ▸ e1, e3.2 ▸ e2⟩
      · rcases List.mem_append.mp hx with hx | hx
        · exact .inl ⟨x, hx, e1, e2⟩
        · rw [List.mem_singleton.mp hx] at e1 e2
          exact .inr ⟨p, List.mem_cons_self, e1, e2⟩
    · exact .inr ⟨x, List.mem_cons_of_mem _ hx, e⟩
def prk (x : (Str × Int) × (Str × Int)) : NestedKey := .tup [rk x.1, rk x.2]
theorem prk_inj {x y : (Str × Int) × (Str × Int)} (h : prk x = prk y) : x = y := by
  unfold prk at h
  injection h with h
  injection h with h1 h2
  injection h2 with h2 _
  exact Prod.ext (rk_inj h1) (rk_inj h2)
theorem prk_depth (x : (Str × Int) × (Str × Int)) : (prk x).depth ≤ 8 := by
  unfold prk rk
  simp [NestedKey.depth, NestedKey.depthAll]
def PrAt (G : Hp) (p : Addr) (x : Addr × Addr) : Prop := G p = some (.tup [.ref x.1, .ref x.2])
theorem PrAt.key {G : Hp} {rs : List Addr} {κ : Addr → Str × Int} (R : RowsAt G rs κ) {p : Addr} {x : Addr × Addr} (h : PrAt G p x) (h1 : x.1 ∈ rs) (h2 : x.2 ∈ rs) : KeyAt G (prk (κ x.1, κ x.2)) (.ref p) := .tup h (.cons (R.key h1) (.cons (R.key h2) .nil))
def prD (x : (Str × Int) × (Str × Int)) : PyData := .tuple [rowD x.1, rowD x.2]
theorem PrAt.dp {K : PySem.W.Frag} {G H : Hp} {R : Res} {rs : List Addr} {κ : Addr → Str × Int} (RA : RowsAt G rs κ) (w : Wd G R H) {p : Addr} {x : Addr × Addr} (h : PrAt G p x) (h1 : x.1 ∈ rs) (h2 : x.2 ∈ rs) : Dp K H (.ref p) (prD (κ x.1, κ x.2)) := .tup (SqT.of (w.get h)) (.cons (RA.dp w h1) (.cons (RA.dp w h2) .nil))
theorem prD_depth (x : (Str × Int) × (Str × Int)) : (prD x).depth ≤ 8 := by
  unfold prD rowD
  simp [PyData.depth, PyData.depthAll]
theorem rowD_depth (x : Str × Int) : (rowD x).depth ≤ 8 := by
  unfold rowD
  simp [PyData.depth, PyData.depthAll]
theorem alike_row (x y : Str × Int) : PySem.W.alike (rowD x) (rowD y) = true := by
  unfold rowD
  simp [PySem.W.alike, PySem.W.alikeAll]
theorem alike_pr (x y : (Str × Int) × (Str × Int)) : PySem.W.alike (prD x) (prD y) = true := by
  unfold prD rowD
  simp [PySem.W.alike, PySem.W.alikeAll]
def goes (gs : List Addr) (x : Addr × Addr) : Bool := decide (x.1 ≠ x.2) && (decide (x.1 ∉ gs) && decide (x.2 ∉ gs))
def addE (gs : List Addr) (f : Addr → List Addr) (x : Addr × Addr) : Addr → List Addr := if goes gs x = true then fun a => if a = x.1 then f a ++ [x.2] else f a else f
def addK (gs : List Addr) (as : List Addr) (x : Addr × Addr) : List Addr := if goes gs x = true ∧ x.1 ∉ as then as ++ [x.1] else as
def nxOf (gs : List Addr) (S : List (Addr × Addr)) : Addr → List Addr := S.foldl (addE gs) fun _ => []
def ksOf (gs : List Addr) (S : List (Addr × Addr)) : List Addr := S.foldl (addK gs) []
theorem nxOf_snoc {gs : List Addr} {S : List (Addr × Addr)} {x : Addr × Addr} : nxOf gs (S ++ [x]) = addE gs (nxOf gs S) x := by
  unfold nxOf
  rw [List.foldl_append]
  rfl
theorem ksOf_snoc {gs : List Addr} {S : List (Addr × Addr)} {x : Addr × Addr} : ksOf gs (S ++ [x]) = addK gs (ksOf gs S) x := by
  unfold ksOf
  rw [List.foldl_append]
  rfl
theorem addE_mem {gs : List Addr} {f : Addr → List Addr} {x : Addr × Addr} {a b : Addr} : b ∈ addE gs f x a ↔ b ∈ f a ∨ (goes gs x = true ∧ a = x.1 ∧ b = x.2) := by
  unfold addE
  by_cases h : goes gs x = true
  · rw [if_pos h]
    by_cases e : a = x.1
    · subst e
      simp [h]
    · simp [e]
  · rw [if_neg h]
    simp [h]
theorem fold_mem {gs : List Addr} : ∀ (S : List (Addr × Addr)) (f : Addr → List Addr) (a b : Addr), b ∈ S.foldl (addE gs) f a ↔ b ∈ f a ∨ ((a, b) ∈ S ∧ goes gs (a, b) = true)
  | [], f, a, b => by simp
  | x :: S, f, a, b => by
    rw [List.foldl_cons, fold_mem S, addE_mem, List.mem_cons]
    constructor
    · rintro ((h | ⟨h, rfl, rfl⟩) | ⟨h1, h2⟩)
      · exact .inl h
      · exact .inr ⟨.inl rfl, h⟩
      · exact .inr ⟨.inr h1, h2⟩
    · rintro (h | ⟨rfl | h1, h2⟩)
      · exact .inl (.inl h)
      · exact .inl (.inr ⟨h2, rfl, rfl⟩)
      · exact .inr ⟨h1, h2⟩
theorem nxOf_mem {gs : List Addr} {S : List (Addr × Addr)} {a b : Addr} : b ∈ nxOf gs S a ↔ (a, b) ∈ S ∧ goes gs (a, b) = true := by
  unfold nxOf
  rw [fold_mem]
  simp
theorem ksOf_nd {gs : List Addr} : ∀ (S : List (Addr × Addr)) (as : List Addr), as.Nodup → (S.foldl (addK gs) as).Nodup
  | [], as, h => h
  | x :: S, as, h => by
    rw [List.foldl_cons]
    refine ksOf_nd S _ ?_
    unfold addK
    split
    · rename_i hc
      rw [List.nodup_append]
      refine ⟨h, by simp, fun y hy z hz e => ?_⟩
      rw [List.mem_singleton.mp hz] at e
      exact hc.2 (by rw [← e]; exact hy)
    · exact h
theorem ksOf_mem {gs : List Addr} : ∀ (S : List (Addr × Addr)) (as : List Addr) (a : Addr), a ∈ S.foldl (addK gs) as ↔ a ∈ as ∨ ∃ b, (a, b) ∈ S ∧ goes gs (a, b) = true
  | [], as, a => by simp
  | x :: S, as, a => by
    rw [List.foldl_cons, ksOf_mem S]
    have e : a ∈ addK gs as x ↔ a ∈ as ∨ (goes gs x = true ∧ a = x.1) := by
      unfold addK
      split
      · rename_i hc
        rw [List.mem_append, List.mem_singleton]
        exact ⟨fun h => h.imp id fun z => ⟨hc.1, z⟩, fun h => h.imp id fun z => z.2⟩
      · rename_i hc
        refine ⟨.inl, fun h => h.elim id fun ⟨h1, h2⟩ => ?_⟩
        subst h2
        exact Decidable.byContradiction fun z => hc ⟨h1, z⟩
    rw [e]
    constructor
    · rintro ((h | ⟨h1, rfl⟩) | ⟨b, h1, h2⟩)
      · exact .inl h
      · exact .inr ⟨x.2, List.mem_cons_self, h1⟩
      · exact .inr ⟨b, List.mem_cons_of_mem _ h1, h2⟩
    · rintro (h | ⟨b, h1, h2⟩)
      · exact .inl (.inl h)
      · rcases List.mem_cons.mp h1 with rfl | h1
        · exact .inl (.inr ⟨h2, rfl⟩)
        · exact .inr ⟨b, h1, h2⟩
theorem ks_nx {gs : List Addr} {S : List (Addr × Addr)} {a : Addr} : a ∈ ksOf gs S ↔ nxOf gs S a ≠ [] := by
  have h1 : a ∈ ksOf gs S ↔ ∃ b, (a, b) ∈ S ∧ goes gs (a, b) = true := by
    unfold ksOf
    rw [ksOf_mem]
    simp
  rw [h1]
  constructor
  · rintro ⟨b, h⟩ z
    have := nxOf_mem.mpr h
    rw [z] at this
    exact absurd this List.not_mem_nil
  · intro h
    obtain ⟨b, r, e⟩ := List.exists_cons_of_ne_nil h
    exact ⟨b, nxOf_mem.mp (by rw [e]; exact List.mem_cons_self)⟩
local macro_rules | `(tactic| walk_at "go1") => `(tactic| first
  | ((with_reducible refine' g_var ?hv ?_); (case hv => rfl))
  | with_reducible refine g_c ?_
  | with_reducible refine g_op ?_
  | with_reducible refine g_un ?_
  | with_reducible refine g_seq ?_
  | with_reducible refine g_next ?_
  | with_reducible refine g_asg ?_
  | with_reducible refine g_name ?_
  | with_reducible refine g_drop ?_
  | with_reducible refine g_sub ?_
  | with_reducible refine g_ret ?_
  | with_reducible refine g_retN ?_
  | with_reducible refine g_ifS ?_
  | with_reducible refine g_if ?_
  | with_reducible refine g_test ?_
  | with_reducible refine g_bl ?_
  | with_reducible refine g_cons ?_
  | with_reducible refine g_nil ?_
  | with_reducible refine g_and ?_
  | with_reducible refine g_or ?_
  | with_reducible refine g_not ?_
  | with_reducible refine g_callB ?_
  | with_reducible refine g_addI ?_
  | with_reducible refine g_I0 ?_
  | with_reducible refine g_calG ?_
  | with_reducible refine g_mkG ?_
  | with_reducible refine g_tup ?_
  | with_reducible refine g_pairs1 ?_
  | with_reducible refine g_pairs0 ?_
  | with_reducible refine g_dget ?_
  | with_reducible refine g_lvals ?_
  | with_reducible refine g_forT ?_
  | with_reducible refine g_lcT ?_
  | with_reducible refine g_dput ?_
  | with_reducible refine g_lc2L ?_
  | with_reducible refine g_iList ?_
  | with_reducible refine g_lcX ?_
  | with_reducible refine g_js1 ?_
  | with_reducible refine g_js0 ?_
  | with_reducible refine g_fmt ?_
  | with_reducible refine g_tLenSet ?_
  | with_reducible refine g_mkV ?_
  | with_reducible refine g_mkV1 ?_
  | with_reducible refine g_lst ?_
  | with_reducible refine g_forL ?_
  | with_reducible refine g_forR ?_
  | with_reducible refine g_forR2 ?_
  | with_reducible refine g_forS ?_
  | with_reducible refine g_forE ?_
  | with_reducible refine g_lcL ?_
  | with_reducible refine g_lcR ?_
  | with_reducible refine g_lcS ?_
  | with_reducible refine g_lcE ?_
  | with_reducible refine g_orT ?_
  | with_reducible refine g_slc ?_
  | with_reducible refine g_noPart ?_
  | with_reducible refine g_part ?_
  | with_reducible refine g_bm ?_
  | with_reducible refine g_par ?_
  | with_reducible refine g_yes ?_
  | with_reducible refine g_tupG ?_
  | with_reducible refine g_lstG ?_
  | with_reducible refine g_gcons ?_
  | with_reducible refine g_gnil ?_
  | with_reducible refine g_chain ?_
  | with_reducible refine g_truB ?_
  | with_reducible refine g_truN ?_
  | with_reducible refine g_truI ?_
  | with_reducible refine g_m1 ?_
  | with_reducible refine g_fld ?_
  | with_reducible refine g_con ?_
  | with_reducible refine g_tru ?_
  | with_reducible refine g_U ?_
  | with_reducible refine g_xg ?_
  | with_reducible refine g_andT ?_
  | with_reducible refine g_exI ?_
  | with_reducible refine g_dnew ?_
  | with_reducible refine g_intB ?_
  | with_reducible refine g_meth ?_
  | with_reducible refine g_prop ?_
  | with_reducible refine g_exc1 ?_
  | with_reducible refine g_setF ?_
  | with_reducible refine g_star ?_
  | with_reducible refine g_strM ?_
  | with_reducible refine iteT ?_
  | with_reducible refine iteF ?_
  | with_reducible refine iteNT ?_
  | with_reducible refine iteNF ?_)
local macro_rules | `(tactic| walk_at "go") => `(tactic| repeat (walk_at "go1"))
local macro_rules | `(tactic| walk_at "sz") => `(tactic| (first | (rw [sizeLine_eq]; simp only [List.length_cons, List.length_nil, List.length_map, List.length_append, List.length_take]; omega) | (rw [sizeLine_eq]; omega)))
local macro_rules | `(tactic| walk_at "go1") => `(tactic| first
  | with_reducible refine g_excM ?_
  | with_reducible refine g_cval ?_
  | with_reducible refine g_dget2 ?_
  | with_reducible refine g_ddel ?_
  | with_reducible refine g_dcK ?_)
def rowPs (κ : Addr → Str × Int) (gs : List Addr) : NKvs := gs.map fun a => (rk (κ a), a, .bl true)
def prPs (κ : Addr → Str × Int) (π : Addr → Addr × Addr) (pas : List Addr) : NKvs := pas.map fun p => (prk (κ (π p).1, κ (π p).2), p, .bl true)
def srtOf (κ : Addr → Str × Int) (π : Addr → Addr × Addr) (pas : List Addr) : List (Addr × Addr) := (((allN (prPs κ π pas) []).map fun q => (q.2.1, prD (κ (π q.2.1).1, κ (π q.2.1).2))).mergeSort (PySem.W.dataLe false Prod.snd)).map fun b => π b.1
section
variable {P : Program} {wo : World} {A : Ad} {K : PySem.W.Frag} {mg : Str → Option Value} {base : Heap}
def spFo (K : PySem.W.Frag) (P : Program) (wo : World) : Sp := fun vs H Q _ => ∃ G R pl wl rs κ π pas gs, vs = [.ref pl, .ref wl] ∧ Wd G R H ∧ RowsAt G rs κ ∧ rs.length ≤ 12 ∧ (SqT K G pl (pas.map V.ref) ∨ G pl = some (.lst (pas.map V.ref))) ∧ (SqT K G wl (gs.map V.ref) ∨ G wl = some (.lst (gs.map V.ref))) ∧ pas.length ≤ 60 ∧ gs.length ≤ 12 ∧ (∀ p ∈ pas, PrAt G p (π p) ∧ (π p).1 ∈ rs ∧ (π p).2 ∈ rs) ∧ (∀ a ∈ gs, a ∈ rs) ∧
  ∀ (d : Addr) (lf : Addr → Addr) (G' H' : Hp), Same G G' → G' d = some (DnO P wo d ((ksOf gs (srtOf κ π pas)).map fun a => (rk (κ a), a, .ref (lf a)))) → (∀ a ∈ ksOf gs (srtOf κ π pas), G' (lf a) = some (.lst ((nxOf gs (srtOf κ π pas) a).map V.ref))) → Wd G' R H' → Q (.ref d) H'
theorem nx_len (gs : List Addr) : ∀ (S : List (Addr × Addr)) (f : Addr → List Addr) (a : Addr), (S.foldl (addE gs) f a).length ≤ (f a).length + S.length
  | [], f, a => Nat.le_refl _
  | x :: S, f, a => by
    rw [List.foldl_cons]
    refine Nat.le_trans (nx_len gs S _ a) ?_
    have : (addE gs f x a).length ≤ (f a).length + 1 := by
      unfold addE
      split
      · show (if a = x.1 then f a ++ [x.2] else f a).length ≤ _
        split
        · rw [List.length_append]; exact Nat.le_refl _
        · omega
      · omega
    rw [List.length_cons]
    omega
theorem sc_followers : FnScope (["pairs", "without", "gone", "found", "first", "later", "rows", "pair", "row"] : List Str) (["pairs", "without"] : List Str) (defScope s_followers) := ⟨rfl, rfl, rfl, by decide +kernel, rfl, by decide +kernel, by decide +kernel⟩
theorem ok_fo {f : Addr} {fd : FuncData} (F : Fun K "followers" "followers" s_followers f fd) (T : Txt K mg A) : FnOk P wo K mg base (L2.CX P wo) 1 f fd (["pairs", "without"] : List Str) (spFo K P wo) := by
  refine okT F sc_followers (fun vs H Q E h => ?_) (fun cdv Ar outer s H vs Q E hr tk po h => ?_)
  · obtain ⟨_, _, _, _, _, _, _, _, _, rfl, _⟩ := h
    rfl
  obtain ⟨G, R, pl, wl, rs, κ, π, pas, gs, rfl, w, RA, hrs, hpl, hwl, lp, lg, hpr, hgs, k⟩ := h
  refine ⟨_, (pss_cons (ps_set (i := 2) sc_followers.nd rfl (by first | exact Or.inl rfl | exact Or.inr rfl) (pe_callTy (ka_dictN P wo rfl (hu32 hr)) (by rfl) T.nb_dict (by decide +kernel) (pa_cons (pe_lc (own := [("row", 8)]) (g := (gName 8)) (tt := tYes) rfl sc_followers.nd (ki_seqB K (pv 1)) (blkOk_by (N := (["pairs", "without", "gone", "found", "first", "later", "rows", "pair", "row"] : List Str)) (sc := defScope s_followers) (by decide +kernel)) (fun _ _ _ _ _ => (pg_name (i := 8) sc_followers.nd rfl (by first | exact Or.inl rfl | exact Or.inr rfl))) (fun _ _ _ _ _ => pts_nil) (fun _ _ _ _ _ => (pe_tup (pa_cons (pv 8) (pa_cons pe_bl pa_nil))))) pa_nil)))
      (pss_cons (ps_set (i := 3) sc_followers.nd rfl (by first | exact Or.inl rfl | exact Or.inr rfl) (ke_dnewN P wo))
      (pss_cons (ps_for po rfl (ki_list K (pe_callB (ka_sortedN K P wo rfl (hu32 hr)) (by rfl) T.nb_sorted (by decide +kernel) (pa_cons (pe_callTy (ka_dictN P wo rfl (hu32 hr)) (by rfl) T.nb_dict (by decide +kernel) (pa_cons (pe_lc (own := [("pair", 7)]) (g := (gName 7)) (tt := tYes) rfl sc_followers.nd (ki_seqB K (pv 0)) (blkOk_by (N := (["pairs", "without", "gone", "found", "first", "later", "rows", "pair", "row"] : List Str)) (sc := defScope s_followers) (by decide +kernel)) (fun _ _ _ _ _ => (pg_name (i := 7) sc_followers.nd rfl (by first | exact Or.inl rfl | exact Or.inr rfl))) (fun _ _ _ _ _ => pts_nil) (fun _ _ _ _ _ => (pe_tup (pa_cons (pv 7) (pa_cons pe_bl pa_nil))))) pa_nil)) pa_nil))) (kg_tup (n := 2) K rfl (pgs_cons (pg_name (i := 4) sc_followers.nd rfl (by first | exact Or.inl rfl | exact Or.inr rfl)) (pgs_cons (pg_name (i := 5) sc_followers.nd rfl (by first | exact Or.inl rfl | exact Or.inr rfl)) pgs_nil))) (pss_one (ps_if (PW.pt (pw_and (pt_cmpR (ka_ne K hr.units) (pv 4) (pv 5) (nomark _)) (pw_and (pt_cmpR (ka_niN P wo (hu16 hr)) (pv 4) (pv 2) (by first | exact nomark _ | rfl)) (pw_and1 (pt_cmpR (ka_niN P wo (hu16 hr)) (pv 5) (pv 2) (by first | exact nomark _ | rfl)))))) (pss_cons (ps_set (i := 6) sc_followers.nd rfl (by first | exact Or.inl rfl | exact Or.inr rfl) (pe_m2N P wo PySem.F.slot_dict_setdefault PySem.F.type_dict_setdefault (ka_sdN P wo (hu16 hr)) (pv 3) (pv 4) (pe_lst pa_nil) ⟨rfl, rfl, rfl, rfl⟩))
      (pss_one (ps_expr (pe_bm PySem.F.plainAttrs_list PySem.F.slot_list_append PySem.F.type_list_append mt_append (pv 6) (pa_cons (pv 5) pa_nil))))) pss_nil)))
      (pss_one (ps_ret (pv 3)))))), ?_⟩
  walk_at "go"
  refine g_lcSB ?_
  walk_at "go"
  obtain ⟨tb, htb⟩ : ∃ tb, SqB tb K G wl (gs.map V.ref) := hwl.elim (fun h => ⟨true, h⟩) (fun h => ⟨false, SqL.of h⟩)
  refine ⟨wl, _, tb, rfl, SqB.ex w.sub htb, ?_⟩
  refine lc_it (itf_seqB (xs := gs.map V.ref) tb) w (fun H e => SqB.ex e htb) (by rw [sizeLine_eq, List.length_map]; omega) (fun i G acc => PairsAt G acc (rowPs κ (gs.take i))) .nil ?_ ?_
  · rintro j y Gj acc D2 Ha Hb hjl ej2 nD2 hacc ha2 wj ⟨rfl, hy⟩
    rw [List.length_map] at hjl
    obtain ⟨a, ha, rfl⟩ : ∃ a, gs[j]? = some a ∧ y = .ref a := by
      rw [List.getElem?_map] at hy
      cases hg : gs[j]? with
      | none => rw [hg] at hy; cases hy
      | some a => rw [hg] at hy; cases hy; exact ⟨a, rfl, rfl⟩
    have eD2 := Same.trans ej2 (Same.newG nD2 (o := .lst acc))
    walk_at "go"
    refine ⟨rfl, ?_⟩
    walk_at "go"
    refine ⟨show 2 ≤ sizeLine from by rw [sizeLine_eq]; decide, fun t nt => ?_⟩
    have w2 := wj.new (o := .tup [V.ref a, V.bl true]) nt
    have t2 : t ≠ D2 := fun e => by
      have := wj.free nt
      rw [e, upd_same] at this
      cases this
    have ntj : Gj t = none := by
      have := wj.free nt
      rwa [upd_ne t2] at this
    rw [upd_comm t2] at w2
    have eT : Same Gj (upd Gj t (.tup [V.ref a, V.bl true])) := Same.newG ntj
    refine lc_keep (n := (gs.map V.ref).length) (Pv := fun i G acc => PairsAt G acc (rowPs κ (gs.take i))) w2 (Same.trans ej2 eT) (by rw [upd_ne (Ne.symm t2)]; exact nD2) ha2 (by rw [List.length_map]; exact hjl) (by rw [sizeLine_eq, List.length_map]; omega) ?_
    unfold rowPs
    rw [List.take_add_one, ha, List.map_append]
    refine Sw.Paired.app (Sw.Paired.imp (fun v p ⟨t, e, h⟩ => ⟨t, e, eT _ _ h⟩) hacc) (.cons ⟨t, rfl, upd_same⟩ .nil)
  rintro D2 Gn2 acc2 Ha2 ej2 nD2 hacc ha2 w2
  rw [List.length_map, List.take_length] at hacc
  have s2 : Same G (upd Gn2 D2 (.lst acc2)) := Same.trans ej2 (Same.newG nD2)
  have pa2 : PairsAt (upd Gn2 D2 (.lst acc2)) acc2 (rowPs κ gs) := Sw.Paired.imp (fun v p ⟨t, e, h⟩ => ⟨t, e, Same.newG nD2 _ _ h⟩) hacc
  have hD2 : upd Gn2 D2 (.lst acc2) D2 = some (.lst acc2) := upd_same
  generalize upd Gn2 D2 (.lst acc2) = G1 at *
  have kk1 : NKeys G1 (rowPs κ gs) := fun q hq => by
    obtain ⟨a, ha, rfl⟩ := List.mem_map.mp hq
    exact ⟨(RA.same s2).key (hgs a ha), rk_depth _⟩
  walk_at "go"
  refine ⟨D2, acc2, _, rfl, w2.get hD2, Sw.Paired.imp (fun v p ⟨t, e, h⟩ => ⟨t, e, w2.get h⟩) pa2, nkW w2 kk1, fun d1 n1 => ?_⟩
  have w3 := w2.new (o := DnO P wo d1 (allN (rowPs κ gs) [])) n1
  have s3 := Same.trans s2 (Same.newG (o := DnO P wo d1 (allN (rowPs κ gs) [])) (w2.free n1))
  have hd1 : upd G1 d1 (DnO P wo d1 (allN (rowPs κ gs) [])) d1 = some (DnO P wo d1 (allN (rowPs κ gs) [])) := upd_same
  generalize upd G1 d1 (DnO P wo d1 (allN (rowPs κ gs) [])) = G2 at *
  walk_at "go"
  refine fun d2 n2 => ?_
  have w4 := w3.new (o := DnO P wo d2 []) n2
  have s4 := Same.trans s3 (Same.newG (o := DnO P wo d2 []) (w3.free n2))
  have d12 : d1 ≠ d2 := fun e => by
    have := w3.free n2
    rw [← e, hd1] at this
    cases this
  have hd1' : upd G2 d2 (DnO P wo d2 []) d1 = some (DnO P wo d1 (allN (rowPs κ gs) [])) := by rw [upd_ne d12]; exact hd1
  have hd2 : upd G2 d2 (DnO P wo d2 []) d2 = some (DnO P wo d2 []) := upd_same
  generalize upd G2 d2 (DnO P wo d2 []) = G3 at *
  walk_at "go"
  refine g_lcSB ?_
  walk_at "go"
  obtain ⟨tp, htp⟩ : ∃ tb, SqB tb K G3 pl (pas.map V.ref) := hpl.elim (fun h => ⟨true, Evl.ex_t s4 h⟩) (fun h => ⟨false, SqL.of (s4 _ _ h)⟩)
  refine ⟨pl, _, tp, rfl, SqB.ex w4.sub htp, ?_⟩
  refine lc_it (itf_seqB (xs := pas.map V.ref) tp) w4 (fun H e => SqB.ex e htp) (by rw [sizeLine_eq, List.length_map]; omega) (fun i G acc => PairsAt G acc (prPs κ π (pas.take i))) .nil ?_ ?_
  · rintro j y Gj acc D2 Ha Hb hjl ej2 nD2 hacc ha2 wj ⟨rfl, hy⟩
    rw [List.length_map] at hjl
    obtain ⟨a, ha, rfl⟩ : ∃ a, pas[j]? = some a ∧ y = .ref a := by
      rw [List.getElem?_map] at hy
      cases hg : pas[j]? with
      | none => rw [hg] at hy; cases hy
      | some a => rw [hg] at hy; cases hy; exact ⟨a, rfl, rfl⟩
    have eD2 := Same.trans ej2 (Same.newG nD2 (o := .lst acc))
    walk_at "go"
    refine ⟨rfl, ?_⟩
    walk_at "go"
    refine ⟨show 2 ≤ sizeLine from by rw [sizeLine_eq]; decide, fun t nt => ?_⟩
    have w2 := wj.new (o := .tup [V.ref a, V.bl true]) nt
    have t2 : t ≠ D2 := fun e => by
      have := wj.free nt
      rw [e, upd_same] at this
      cases this
    have ntj : Gj t = none := by
      have := wj.free nt
      rwa [upd_ne t2] at this
    rw [upd_comm t2] at w2
    have eT : Same Gj (upd Gj t (.tup [V.ref a, V.bl true])) := Same.newG ntj
    refine lc_keep (n := (pas.map V.ref).length) (Pv := fun i G acc => PairsAt G acc (prPs κ π (pas.take i))) w2 (Same.trans ej2 eT) (by rw [upd_ne (Ne.symm t2)]; exact nD2) ha2 (by rw [List.length_map]; exact hjl) (by rw [sizeLine_eq, List.length_map]; omega) ?_
    unfold prPs
    rw [List.take_add_one, ha, List.map_append]
    refine Sw.Paired.app (Sw.Paired.imp (fun v p ⟨t, e, h⟩ => ⟨t, e, eT _ _ h⟩) hacc) (.cons ⟨t, rfl, upd_same⟩ .nil)
  rintro D5 Gn5 acc5 Ha5 ej5 nD5 hacc5 ha5 w5
  rw [List.length_map, List.take_length] at hacc5
  have q5 : Same G3 (upd Gn5 D5 (.lst acc5)) := Same.trans ej5 (Same.newG nD5)
  have pa5 : PairsAt (upd Gn5 D5 (.lst acc5)) acc5 (prPs κ π pas) := Sw.Paired.imp (fun v p ⟨t, e, h⟩ => ⟨t, e, Same.newG nD5 _ _ h⟩) hacc5
  have hD5 : upd Gn5 D5 (.lst acc5) D5 = some (.lst acc5) := upd_same
  generalize upd Gn5 D5 (.lst acc5) = G5 at *
  have s5 := Same.trans s4 q5
  have RA5 := RA.same s5
  have kk5 : NKeys G5 (prPs κ π pas) := fun q hq => by
    obtain ⟨a, ha, rfl⟩ := List.mem_map.mp hq
    obtain ⟨h1, h2, h3⟩ := hpr a ha
    exact ⟨PrAt.key RA5 (s5 _ _ h1) h2 h3, prk_depth _⟩
  walk_at "go"
  refine ⟨D5, acc5, _, rfl, w5.get hD5, Sw.Paired.imp (fun v p ⟨t, e, h⟩ => ⟨t, e, w5.get h⟩) pa5, nkW w5 kk5, fun d3 n3 => ?_⟩
  have w6 := w5.new (o := DnO P wo d3 (allN (prPs κ π pas) [])) n3
  have q6 := Same.trans q5 (Same.newG (o := DnO P wo d3 (allN (prPs κ π pas) [])) (w5.free n3))
  have hd3 : upd G5 d3 (DnO P wo d3 (allN (prPs κ π pas) [])) d3 = some (DnO P wo d3 (allN (prPs κ π pas) [])) := upd_same
  generalize upd G5 d3 (DnO P wo d3 (allN (prPs κ π pas) [])) = G6 at *
  have s6 := Same.trans s4 q6
  have RA6 := RA.same s6
  walk_at "go"
  refine ⟨d3, _, (allN (prPs κ π pas) []).map fun q => (q.2.1, prD (κ (π q.2.1).1, κ (π q.2.1).2)), rfl, w6.get hd3, by rw [List.map_map]; rfl, fun b hb => ?_, ?_, ?_, fun p7 n7 => ?_⟩
  · obtain ⟨q, hq, rfl⟩ := List.mem_map.mp hb
    rcases all_sub q hq with ⟨_, h, _⟩ | ⟨p, hp, _, e⟩
    · cases h
    obtain ⟨a, ha, rfl⟩ := List.mem_map.mp hp
    obtain ⟨h1, h2, h3⟩ := hpr a ha
    refine ⟨?_, prD_depth _⟩
    rw [← e]
    exact PrAt.dp RA6 w6 (s6 _ _ h1) h2 h3
  · intro d hd d' hd'
    rw [List.map_map] at hd hd'
    obtain ⟨q, _, rfl⟩ := List.mem_map.mp hd
    obtain ⟨q', _, rfl⟩ := List.mem_map.mp hd'
    exact alike_pr _ _
  · refine .inl fun d hd => ?_
    rw [List.map_map] at hd
    obtain ⟨q, _, rfl⟩ := List.mem_map.mp hd
    exact ⟨_, _, rfl⟩
  have hLm : ∀ b ∈ ((allN (prPs κ π pas) []).map fun q => (q.2.1, prD (κ (π q.2.1).1, κ (π q.2.1).2))).mergeSort (PySem.W.dataLe false Prod.snd), b.1 ∈ pas := fun b hb => by
    rw [List.mem_mergeSort] at hb
    obtain ⟨q, hq, rfl⟩ := List.mem_map.mp hb
    rcases all_sub q hq with ⟨_, h, _⟩ | ⟨p, hp, _, e⟩
    · cases h
    obtain ⟨a, ha, rfl⟩ := List.mem_map.mp hp
    have e2 : a = q.2.1 := e
    rw [← e2]
    exact ha
  have hSS : srtOf κ π pas = (((allN (prPs κ π pas) []).map fun q => (q.2.1, prD (κ (π q.2.1).1, κ (π q.2.1).2))).mergeSort (PySem.W.dataLe false Prod.snd)).map fun b => π b.1 := rfl
  have hlen : (((allN (prPs κ π pas) []).map fun q => (q.2.1, prD (κ (π q.2.1).1, κ (π q.2.1).2))).mergeSort (PySem.W.dataLe false Prod.snd)).length ≤ 60 := by
    rw [List.length_mergeSort, List.length_map]
    refine Nat.le_trans (length_allN _ _) ?_
    unfold prPs
    rw [List.length_map, List.length_nil]
    omega
  generalize ((allN (prPs κ π pas) []).map fun q => (q.2.1, prD (κ (π q.2.1).1, κ (π q.2.1).2))).mergeSort (PySem.W.dataLe false Prod.snd) = LL at *
  have w8 := w6.new (o := .lst (LL.map fun b => V.ref b.1)) n7
  have s8 : Same G (upd G6 p7 (.lst (LL.map fun b => V.ref b.1))) := Same.trans s6 (Same.newG (w6.free n7))
  have d17 : d1 ≠ p7 := fun e => by
    have := w6.free n7
    rw [← e, q6 _ _ hd1'] at this
    cases this
  have d27 : d2 ≠ p7 := fun e => by
    have := w6.free n7
    rw [← e, q6 _ _ hd2] at this
    cases this
  have h81 : upd G6 p7 (.lst (LL.map fun b => V.ref b.1)) d1 = some (DnO P wo d1 (allN (rowPs κ gs) [])) := by rw [upd_ne d17]; exact q6 _ _ hd1'
  have h82 : upd G6 p7 (.lst (LL.map fun b => V.ref b.1)) d2 = some (DnO P wo d2 []) := by rw [upd_ne d27]; exact q6 _ _ hd2
  have h87 : upd G6 p7 (.lst (LL.map fun b => V.ref b.1)) p7 = some (.lst (LL.map fun b => V.ref b.1)) := upd_same
  have gd2 : G d2 = none := Same.free s3 (w3.free n2)
  generalize upd G6 p7 (.lst (LL.map fun b => V.ref b.1)) = G8 at *
  show ∃ a, _
  refine ⟨p7, rfl, ⟨_, SqL.of (w8.get h87)⟩, ?_⟩
  refine for_it (itf_list (xs := LL.map fun b => V.ref b.1)) (fun i σ' H' => ∃ y4 y5 y6 y7 y8 lf Gi, σ' = [some (.ref pl), some (.ref wl), some (.ref d1), some (.ref d2), y4, y5, y6, y7, y8] ∧ Wd Gi R H' ∧ Same G Gi ∧ Gi d1 = some (DnO P wo d1 (allN (rowPs κ gs) [])) ∧ Gi p7 = some (.lst (LL.map fun b => V.ref b.1)) ∧
      Gi d2 = some (DnO P wo d2 ((ksOf gs ((LL.map fun b => π b.1).take i)).map fun a => (rk (κ a), a, .ref (lf a)))) ∧ (∀ a ∈ ksOf gs ((LL.map fun b => π b.1).take i), Gi (lf a) = some (.lst ((nxOf gs ((LL.map fun b => π b.1).take i) a).map V.ref)) ∧ G (lf a) = none ∧ lf a ≠ p7) ∧ (∀ a ∈ ksOf gs ((LL.map fun b => π b.1).take i), ∀ b ∈ ksOf gs ((LL.map fun b => π b.1).take i), a ≠ b → lf a ≠ lf b))
    ⟨_, _, _, _, _, fun _ => 0, G8, rfl, w8, s8, h81, h87, h82, fun a ha => absurd ha List.not_mem_nil, fun a ha => absurd ha List.not_mem_nil⟩ (fun i σ' H' _ h => ?_) ?_ ?_
  · obtain ⟨_, _, _, _, _, _, Gi, _, w, _, _, h7, _⟩ := h
    exact SqL.of (w.get h7)
  · rintro i v σ' H7 H8 hi ⟨y4, y5, y6, y7, y8, lf, Gi, rfl, wi, si, hi1, hi7, hi2, hil, hij⟩ ⟨rfl, hv⟩
    rw [List.getElem?_map] at hv
    obtain ⟨b, hb1, rfl⟩ := Option.map_eq_some_iff.mp hv
    obtain ⟨hp1, hp2, hp3⟩ := hpr _ (hLm b (List.mem_of_getElem? hb1))
    have RAi := RA.same si
    have htk : (LL.map fun b => π b.1).take (i + 1) = (LL.map fun b => π b.1).take i ++ [π b.1] := by
      rw [List.take_add_one, List.getElem?_map, hb1]
      rfl
    refine g_tupG ⟨_, _, rfl, SqT.of (wi.get (si _ _ hp1)), rfl, ?_⟩
    walk_at "go"
    have hb1r := RAi.dp (K := K) wi hp2
    have skip : goes gs (π b.1) = false → ksOf gs ((LL.map fun b => π b.1).take (i + 1)) = ksOf gs ((LL.map fun b => π b.1).take i) ∧ nxOf gs ((LL.map fun b => π b.1).take (i + 1)) = nxOf gs ((LL.map fun b => π b.1).take i) := fun hg => by
      rw [htk, ksOf_snoc, nxOf_snoc]
      unfold addK addE
      rw [hg]
      exact ⟨if_neg (fun h => absurd h.1 (by decide)), if_neg (by decide)⟩
    have hin : ∀ a ∈ rs, (valN (allN (rowPs κ gs) []) (rk (κ a))).isSome = decide (a ∈ gs) := fun a ha => by
      rw [Bool.eq_iff_iff, valN_mem, keys_all, decide_eq_true_iff]
      unfold rowPs
      rw [List.map_map]
      constructor
      · rintro (h | h)
        · cases h
        · obtain ⟨c, hc, e⟩ := List.mem_map.mp h
          rw [← RA.inj c (hgs c hc) a ha (rk_inj e)]
          exact hc
      · exact fun h => .inr (List.mem_map.mpr ⟨a, h, rfl⟩)
    have kkd : NKeys Gi (allN (rowPs κ gs) []) := NKeys.all (fun q hq => by
      obtain ⟨a, ha, rfl⟩ := List.mem_map.mp hq
      exact ⟨RAi.key (hgs a ha), rk_depth _⟩) (fun q hq => absurd hq List.not_mem_nil)
    refine g_neD (RAi.dp wi hp2) (RAi.dp wi hp3) (rowD_shaped (RA.ok _ hp2)) (rowD_shaped (RA.ok _ hp3)) ?_
    rw [rowD_eqv]
    by_cases e1 : (π b.1).1 = (π b.1).2
    · rw [decide_eq_true (show κ (π b.1).1 = κ (π b.1).2 by rw [e1])]
      obtain ⟨z1, z2⟩ := skip (by unfold goes; rw [decide_eq_false (by exact fun h => h e1)]; rfl)
      walk_at "go"
      refine ⟨_, _, y6, y7, y8, lf, Gi, rfl, wi, si, hi1, hi7, ?_, ?_, ?_⟩ <;> rw [z1]
      · exact hi2
      · rw [z2]; exact hil
      · exact hij
    rw [decide_eq_false (show κ (π b.1).1 ≠ κ (π b.1).2 from fun h => e1 (RA.inj _ hp2 _ hp3 h))]
    walk_at "go"
    refine g_inN wi hi1 kkd (RAi.key hp2) (rk_depth _) ?_
    rw [hin _ hp2]
    by_cases e2 : (π b.1).1 ∈ gs
    · rw [decide_eq_true e2]
      obtain ⟨z1, z2⟩ := skip (by unfold goes; rw [decide_eq_false (p := (π b.1).1 ∉ gs) (by exact fun h => h e2)]; simp)
      walk_at "go"
      refine ⟨_, _, y6, y7, y8, lf, Gi, rfl, wi, si, hi1, hi7, ?_, ?_, ?_⟩ <;> rw [z1]
      · exact hi2
      · rw [z2]; exact hil
      · exact hij
    rw [decide_eq_false e2]
    walk_at "go"
    refine g_inN wi hi1 kkd (RAi.key hp3) (rk_depth _) ?_
    rw [hin _ hp3]
    by_cases e3 : (π b.1).2 ∈ gs
    · rw [decide_eq_true e3]
      obtain ⟨z1, z2⟩ := skip (by unfold goes; rw [decide_eq_false (p := (π b.1).2 ∉ gs) (by exact fun h => h e3)]; simp)
      walk_at "go"
      refine ⟨_, _, y6, y7, y8, lf, Gi, rfl, wi, si, hi1, hi7, ?_, ?_, ?_⟩ <;> rw [z1]
      · exact hi2
      · rw [z2]; exact hil
      · exact hij
    rw [decide_eq_false e3]
    have hg : goes gs (π b.1) = true := by
      unfold goes
      rw [decide_eq_true e1, decide_eq_true e2, decide_eq_true e3]
      rfl
    walk_at "go"
    unfold tM2N
    walk_at "go"
    refine ⟨d2, _, rfl, wi.get hi2, ?_⟩
    walk_at "go"
    refine g_newL wi (by walk_at "sz") fun em H6 ne w9 => ?_
    have hks : ∀ a ∈ ksOf gs ((LL.map fun b => π b.1).take i), a ∈ rs := fun a h => by
      unfold ksOf at h
      rw [ksOf_mem] at h
      rcases h with h | ⟨c, h, _⟩
      · exact absurd h List.not_mem_nil
      · obtain ⟨b', hb', e⟩ := List.mem_map.mp (List.mem_of_mem_take h)
        have := (hpr _ (hLm b' hb')).2.1
        rw [e] at this
        exact this
    have hnm : d2 ≠ em := fun e => by rw [← e, hi2] at ne; cases ne
    have kk2 : NKeys Gi ((ksOf gs ((LL.map fun b => π b.1).take i)).map fun a => (rk (κ a), a, V.ref (lf a))) := fun q hq => by
      obtain ⟨a, ha, rfl⟩ := List.mem_map.mp hq
      exact ⟨RAi.key (hks a ha), rk_depth _⟩
    have hksl : (ksOf gs ((LL.map fun b => π b.1).take i)).length ≤ 12 := by
      refine Nat.le_trans (List.Nodup.length_le_of_subset (ksOf_nd _ _ List.nodup_nil) fun a ha => hks a ha) hrs
    have w10 := w9.drop (Same.newG ne)
    have hxS : nxOf gs ((LL.map fun b => π b.1).take (i + 1)) = addE gs (nxOf gs ((LL.map fun b => π b.1).take i)) (π b.1) := by rw [htk, nxOf_snoc]
    have hkS : ksOf gs ((LL.map fun b => π b.1).take (i + 1)) = addK gs (ksOf gs ((LL.map fun b => π b.1).take i)) (π b.1) := by rw [htk, ksOf_snoc]
    have hx1 : nxOf gs ((LL.map fun b => π b.1).take (i + 1)) (π b.1).1 = nxOf gs ((LL.map fun b => π b.1).take i) (π b.1).1 ++ [(π b.1).2] := by
      rw [hxS]; unfold addE; rw [if_pos hg]; exact if_pos rfl
    have hx2 : ∀ a, a ≠ (π b.1).1 → nxOf gs ((LL.map fun b => π b.1).take (i + 1)) a = nxOf gs ((LL.map fun b => π b.1).take i) a := fun a ha => by
      rw [hxS]; unfold addE; rw [if_pos hg]; exact if_neg ha
    have hnil : (π b.1).1 ∉ ksOf gs ((LL.map fun b => π b.1).take i) → nxOf gs ((LL.map fun b => π b.1).take i) (π b.1).1 = [] := fun h => Decidable.byContradiction fun z => h (ks_nx.mpr z)
    have hkA : (π b.1).1 ∈ ksOf gs ((LL.map fun b => π b.1).take i) → ksOf gs ((LL.map fun b => π b.1).take (i + 1)) = ksOf gs ((LL.map fun b => π b.1).take i) := fun h => by
      rw [hkS]; unfold addK; exact if_neg fun z => z.2 h
    have hkB : (π b.1).1 ∉ ksOf gs ((LL.map fun b => π b.1).take i) → ksOf gs ((LL.map fun b => π b.1).take (i + 1)) = ksOf gs ((LL.map fun b => π b.1).take i) ++ [(π b.1).1] := fun h => by
      rw [hkS]; unfold addK; exact if_pos ⟨hg, h⟩
    have hsz : ∀ a, (nxOf gs ((LL.map fun b => π b.1).take i) a).length < sizeLine := fun a => by
      have h1 := nx_len gs ((LL.map fun b => π b.1).take i) (fun _ => []) a
      have h2 : ((LL.map fun b => π b.1).take i).length ≤ 60 := by
        rw [List.length_take, List.length_map]
        omega
      rw [sizeLine_eq]
      have h3 : (nxOf gs ((LL.map fun b => π b.1).take i) a).length ≤ 0 + ((LL.map fun b => π b.1).take i).length := h1
      omega
    clear hxS hkS skip hSS
    generalize hkk : ksOf gs ((LL.map fun b => π b.1).take i) = ks at *
    generalize nxOf gs ((LL.map fun b => π b.1).take i) = nx at *
    generalize nxOf gs ((LL.map fun b => π b.1).take (i + 1)) = nx' at *
    generalize hk' : ksOf gs ((LL.map fun b => π b.1).take (i + 1)) = ks' at *
    generalize (π b.1).1 = x1 at *
    generalize (π b.1).2 = x2 at *
    have hval : ∀ (l : List Addr), (∀ a ∈ l, a ∈ rs) → x1 ∈ l → valN (l.map fun a => (rk (κ a), a, V.ref (lf a))) (rk (κ x1)) = some (.ref (lf x1)) := by
      intro l hl hx
      induction l with
      | nil => cases hx
      | cons y l ih =>
        unfold valN at *
        rw [List.map_cons]
        by_cases e : y = x1
        · subst e
          rw [List.find?_cons_of_pos (by simp)]
          rfl
        · rw [List.find?_cons_of_neg (by
            simp only [decide_eq_true_eq]
            exact fun z => e (RA.inj _ (hl y List.mem_cons_self) _ hp2 (rk_inj z)))]
          exact ih (fun a ha => hl a (List.mem_cons_of_mem _ ha)) ((List.mem_cons.mp hx).resolve_left fun z => e z.symm)
    have hvn : x1 ∉ ks → valN (ks.map fun a => (rk (κ a), a, V.ref (lf a))) (rk (κ x1)) = none := fun h => by
      cases h2 : valN (ks.map fun a => (rk (κ a), a, V.ref (lf a))) (rk (κ x1)) with
      | none => rfl
      | some v =>
        have := valN_mem.mp (show (valN (ks.map fun a => (rk (κ a), a, V.ref (lf a))) (rk (κ x1))).isSome = true by rw [h2]; rfl)
        rw [List.map_map] at this
        obtain ⟨a, ha, e⟩ := List.mem_map.mp this
        exact absurd (by rw [← RA.inj a (hks a ha) _ hp2 (rk_inj e)]; exact ha) h
    refine ⟨d2, _, rk (κ x1), x1, _, rfl, rfl, w10.get hi2, nkW w10 kk2, keyW w10 (RAi.key hp2), rk_depth _, by rw [List.length_map, sizeLine_eq]; omega, fun v1 hv1 => ?_, fun hv1 => ?_⟩
    · have hm : x1 ∈ ks := Decidable.byContradiction fun z => by rw [hvn z] at hv1; cases hv1
      rw [hval ks hks hm] at hv1
      cases hv1
      obtain ⟨hl1, hl2, hl3⟩ := hil x1 hm
      rw [hkA hm]
      walk_at "go"
      refine g_tyL w10 hl1 ?_
      walk_at "go"
      refine g_app w10 hl1 (by rw [List.length_map]; exact hsz _) fun H10 w => ?_
      walk_at "go"
      have f1 : d1 ≠ lf x1 := fun z => by rw [← z, hi1] at hl1; cases hl1
      have f2 : d2 ≠ lf x1 := fun z => by rw [← z, hi2] at hl1; cases hl1
      refine ⟨_, _, _, y7, y8, lf, _, rfl, w, Same.setL si hl2, by rw [upd_ne f1]; exact hi1, by rw [upd_ne (Ne.symm hl3)]; exact hi7, by rw [upd_ne f2]; exact hi2, fun a ha => ?_, hij⟩
      by_cases e : a = x1
      · subst e
        refine ⟨?_, hl2, hl3⟩
        rw [upd_same, hx1, List.map_append]
        rfl
      · rw [upd_ne (hij a ha x1 hm e), hx2 a e]
        exact hil a ha
    · have hm : x1 ∉ ks := fun z => by rw [hval ks hks z] at hv1; cases hv1
      have ep : putN (ks.map fun a => (rk (κ a), a, V.ref (lf a))) (rk (κ x1)) x1 (.ref em) = (ks ++ [x1]).map fun a => (rk (κ a), a, V.ref (if a = x1 then em else lf a)) := by
        unfold putN
        rw [hv1, List.map_append]
        show (_ : NKvs) ++ _ = _ ++ _
        have e1 : (ks.map fun a => (rk (κ a), a, V.ref (lf a))) = ks.map fun a => (rk (κ a), a, V.ref (if a = x1 then em else lf a)) := List.map_congr_left fun a ha => by
          rw [if_neg fun z => hm (by rw [← z]; exact ha)]
        rw [e1]
        show _ ++ [(rk (κ x1), x1, V.ref em)] = _ ++ [(rk (κ x1), x1, V.ref (if x1 = x1 then em else lf x1))]
        rw [if_pos rfl]
      have gem : G em = none := Same.free si ne
      have w11 := w9.set (o' := DnO P wo d2 (putN (ks.map fun a => (rk (κ a), a, V.ref (lf a))) (rk (κ x1)) x1 (.ref em))) (show upd Gi em (.lst []) d2 = _ by rw [upd_ne hnm]; exact hi2)
      rw [ep] at w11 ⊢
      have hem : upd (upd Gi em (.lst [])) d2 (DnO P wo d2 ((ks ++ [x1]).map fun a => (rk (κ a), a, V.ref (if a = x1 then em else lf a)))) em = some (.lst []) := by rw [upd_ne (Ne.symm hnm), upd_same]
      walk_at "go"
      refine g_tyL w11 hem ?_
      walk_at "go"
      refine g_app w11 hem (by rw [sizeLine_eq]; decide) fun H10 w => ?_
      walk_at "go"
      rw [upd_comm (Ne.symm hnm), upd_upd] at w
      have f1 : d1 ≠ em := fun z => by rw [← z, hi1] at ne; cases ne
      have f7 : p7 ≠ em := fun z => by rw [← z, hi7] at ne; cases ne
      have f12 : d1 ≠ d2 := d12
      refine ⟨_, _, _, y7, y8, fun a => if a = x1 then em else lf a, _, rfl, w, ?_, ?_, ?_, ?_, fun a ha => ?_, fun a ha b hb hab => ?_⟩
      · exact Same.setL (Same.setL si gem) gd2
      · rw [upd_ne f12, upd_ne f1]; exact hi1
      · rw [upd_ne (Ne.symm d27), upd_ne f7]; exact hi7
      · rw [upd_same, hkB hm]
      · rw [hkB hm] at ha
        by_cases e : a = x1
        · dsimp only
          rw [if_pos e]
          refine ⟨?_, gem, Ne.symm f7⟩
          rw [upd_ne (Ne.symm hnm), upd_same, e, hx1, hnil hm]
          rfl
        · dsimp only
          rw [if_neg e]
          have ha' : a ∈ ks := (List.mem_append.mp ha).resolve_right fun z => e (List.mem_singleton.mp z)
          obtain ⟨h1, h2, h3⟩ := hil a ha'
          have g1 : lf a ≠ em := fun z => by rw [z, ne] at h1; cases h1
          have g2 : lf a ≠ d2 := fun z => by rw [z, hi2] at h1; cases h1
          refine ⟨?_, h2, h3⟩
          rw [upd_ne g2, upd_ne g1, hx2 a e]
          exact h1
      · rw [hkB hm] at ha hb
        have hlm : ∀ c ∈ ks, lf c ≠ em := fun c hc z => by
          have := (hil c hc).1
          rw [z, ne] at this
          cases this
        have hr : ∀ c, c ∈ ks ++ [x1] → c ≠ x1 → c ∈ ks := fun c hc e => (List.mem_append.mp hc).resolve_right fun z => e (List.mem_singleton.mp z)
        dsimp only
        by_cases e : a = x1
        · rw [if_pos e, if_neg fun z => hab (e.trans z.symm)]
          exact (hlm b (hr b hb fun z => hab (e.trans z.symm))).symm
        · rw [if_neg e]
          by_cases e' : b = x1
          · rw [if_pos e']
            exact hlm a (hr a ha e)
          · rw [if_neg e']
            exact hij a (hr a ha e) b (hr b hb e') hab
  · rintro σ' H9 ⟨y4, y5, y6, y7, y8, lf, Gi, rfl, wi, si, hi1, hi7, hi2, hil, hij⟩
    rw [List.length_map] at hi2 hil
    rw [List.take_of_length_le (by rw [List.length_map]; exact Nat.le_refl _)] at hi2 hil
    walk_at "go"
    rw [hSS] at k
    exact k d2 lf Gi _ si hi2 (fun a ha => (hil a ha).1) wi
end
theorem seq0 {n : Nat} : PySem.seqIndex? 0 (n + 1) = some 0 := by
  unfold PySem.seqIndex?
  simp
section
variable {P : Program} {wo : World} {A : Ad} {K : PySem.W.Frag} {mg : Str → Option Value} {base : Heap}
def AhAt (P : Program) (wo : World) (G : Hp) (d : Addr) (rs : List Addr) (κ : Addr → Str × Int) (nx : Addr → List Addr) : Prop := ∃ ak, G d = some (DnO P wo d ak) ∧ NKeys G ak ∧ ∀ a ∈ rs, (valN ak (rk (κ a)) = none ∧ nx a = []) ∨ ∃ l, valN ak (rk (κ a)) = some (.ref l) ∧ G l = some (.lst ((nx a).map V.ref))
def spCf (K : PySem.W.Frag) (P : Program) (wo : World) : Sp := fun vs H Q _ => ∃ G R d st rs κ nx, vs = [.ref d, .ref st] ∧ Wd G R H ∧ RowsAt G rs κ ∧ st ∈ rs ∧ rs.length ≤ 12 ∧ (∀ a, ∀ b ∈ nx a, b ∈ rs) ∧ AhAt P wo G d rs κ nx ∧
  (Bfs.cyc nx rs.length st = none → ∀ G' H', Same G G' → Wd G' R H' → Q .non H') ∧ ∀ c, Bfs.cyc nx rs.length st = some c → ∀ t G' H', Same G G' → SqT K G' t (c.map V.ref) → Wd G' R H' → Q (.ref t) H'
theorem sc_cycle_from : FnScope (["ahead", "start", "parents", "waiting", "here", "later"] : List Str) (["ahead", "start"] : List Str) (defScope s_cycle_from) := ⟨rfl, rfl, rfl, by decide +kernel, rfl, by decide +kernel, by decide +kernel⟩
theorem ok_cf {f : Addr} {fd : FuncData} (F : Fun K "cycle_from" "cycle_from" s_cycle_from f fd) (T : Txt K mg A) (Gpt : GFn P wo K mg base 1 "path_to" 2 [] (fun vs _ => spPt K P wo vs)) : FnOk P wo K mg base (L2.CX P wo) 2 f fd (["ahead", "start"] : List Str) (spCf K P wo) := by
  refine okT F sc_cycle_from (fun vs H Q E h => ?_) (fun cdv Ar outer s H vs Q E hr tk po h => ?_)
  · obtain ⟨_, _, _, _, _, _, _, rfl, _⟩ := h
    rfl
  obtain ⟨G, R, d, st, rs, κ, nx, rfl, w, RA, hst, hrs, cl, ⟨ak, hd, kk, hak⟩, k1, k2⟩ := h
  refine ⟨_, (pss_cons (ps_par (i := 2) (j := 3) rfl sc_cycle_from.nd rfl rfl (by decide) rfl rfl (pa_cons (ke_disp1N P wo (hu16 hr) (pv 1) pe_non) (pa_cons (pe_lst (pa_cons (pv 1) pa_nil)) pa_nil)) (by rfl))
      (pss_cons (ps_while po (pt_cmpR (op_neL0 K hr.units) (pv 3) (pe_lst pa_nil) (nomark _)) (pss_cons (ps_set (i := 4) sc_cycle_from.nd rfl (by first | exact Or.inl rfl | exact Or.inr rfl) (pe_bm PySem.F.plainAttrs_list PySem.F.slot_list_pop PySem.F.type_list_pop mt_popAt (pv 3) (pa_cons pe_int pa_nil)))
      (pss_one (ps_for po rfl (ki_list K (pe_m2N P wo PySem.F.slot_dict_get PySem.F.type_dict_get (ka_getN P wo (hu16 hr)) (pv 0) (pv 4) (pe_lst pa_nil) ⟨rfl, rfl, rfl, rfl⟩)) (pg_name (i := 5) sc_cycle_from.nd rfl (by first | exact Or.inl rfl | exact Or.inr rfl)) (pss_cons (ps_if (pt_cmpR (ka_eq K hr.units) (pv 5) (pv 1) (nomark _)) (pss_one (ps_ret (pe_callG Gpt (hr.mono (by decide)) tk (pa_cons (pv 2) (pa_cons (pv 4) pa_nil)) pk_nil))) pss_nil)
      (pss_one (ps_if (pt_cmpR (ka_niN P wo (hu16 hr)) (pv 5) (pv 2) (by first | exact nomark _ | rfl)) (pss_cons (ps_asg (pv 4) (pg_sub (pv 2) (pv 5) (ka_setN P wo (hu16 hr))))
      (pss_one (ps_expr (pe_bm PySem.F.plainAttrs_list PySem.F.slot_list_append PySem.F.type_list_append mt_append (pv 3) (pa_cons (pv 5) pa_nil))))) pss_nil)))))))
      (pss_one (ps_ret pe_non)))), ?_⟩
  walk_at "go"
  unfold tDisp1N
  intro pd hpd
  have npd := w.free hpd
  have w0 := w.new (o := DnO P wo pd []) hpd
  walk_at "go"
  refine ⟨upd_same, rk (κ st), st, rfl, keyW w0 ((RA.same (Same.newG npd)).key hst), rk_depth _, ?_⟩
  rw [upd_upd]
  replace w := w.new (o := DnO P wo pd (parK κ [(st, none)])) hpd
  clear w0
  walk_at "go"
  refine g_newL w (by walk_at "sz") fun pq H1 npq w => ?_
  walk_at "go"
  refine ⟨_, _, rfl, ?_⟩
  walk_at "go"
  obtain ⟨npq0, dqd⟩ := upd_nonne npq
  have SG : ∀ (p : Bfs.Par Addr) (q : List Addr), Same G (upd (upd G pd (DnO P wo pd (parK κ p))) pq (.lst (q.map V.ref))) := fun p q => Same.setL (Same.newG npd) npq0
  have hpd : ∀ (p : Bfs.Par Addr) (q : List Addr), upd (upd G pd (DnO P wo pd (parK κ p))) pq (.lst (q.map V.ref)) pd = some (DnO P wo pd (parK κ p)) := fun p q => by rw [upd_ne dqd.symm]; exact upd_same
  have hpq : ∀ (p : Bfs.Par Addr) (q : List Addr), upd (upd G pd (DnO P wo pd (parK κ p))) pq (.lst (q.map V.ref)) pq = some (.lst (q.map V.ref)) := fun p q => upd_same
  refine ⟨fun m σ' H' => ∃ p q y4 y5, σ' = [some (.ref d), some (.ref st), some (.ref pd), some (.ref pq), y4, y5] ∧ Wd (upd (upd G pd (DnO P wo pd (parK κ p))) pq (.lst (q.map V.ref))) R H' ∧ ParOk rs p ∧ (∀ a ∈ q, p.has a = true) ∧ m ≤ rs.length ∧ rs.length + q.length ≤ m + p.length ∧ Bfs.bfs nx st m p q = Bfs.bfs nx st rs.length [(st, none)] [st],
    ⟨rs.length, [(st, none)], [st], _, _, rfl, w, ParOk.first hst, fun a ha => by rw [List.mem_singleton.mp ha]; exact Bfs.has_iff.mpr ⟨none, List.mem_singleton.mpr rfl⟩, Nat.le_refl _, Nat.le_refl _, rfl⟩, ?_⟩
  clear w
  rintro m σ' H' ⟨p, q, y4, y5, rfl, w, PO, hq, hm, hms, hb⟩
  have hpl := PO.len
  walk_at "go"
  refine g_newL w (by walk_at "sz") fun e1 H3 ne w3 => ?_
  refine g_neL0 w3 (SqL.of (upd_old (hpq p q) ne)) (SqL.of upd_same) ?_
  replace w := w3.drop (Same.newG ne)
  walk_at "go"
  cases q with
  | nil =>
    refine iteNT ?_
    walk_at "go"
    refine k1 ?_ _ _ (SG p []) w
    unfold Bfs.cyc
    rw [← hb]
    cases m <;> rfl
  | cons here q =>
    refine iteNF ?_
    obtain ⟨m, rfl⟩ : ∃ n, m = n + 1 := ⟨m - 1, by rw [List.length_cons] at hms; omega⟩
    rw [List.length_cons] at hms
    have hhas := hq here List.mem_cons_self
    have hhr : here ∈ rs := by
      obtain ⟨o, ho⟩ := Bfs.has_iff.mp hhas
      exact PO.sub _ ho
    refine ⟨_, fun _ _ h => h, ?_⟩
    walk_at "go"
    refine g_tyL w (hpq p (here :: q)) ?_
    walk_at "go"
    refine g_popAt (i := 0) (k' := 0) (v := .ref here) w (hpq p (here :: q)) (by decide) (by decide) (by rw [List.length_map, List.length_cons]; exact seq0) rfl fun H5 w => ?_
    rw [upd_upd] at w
    replace w : Wd (upd (upd G pd (DnO P wo pd (parK κ p))) pq (.lst (q.map V.ref))) R H5 := w
    walk_at "go"
    unfold tM2N
    walk_at "go"
    refine ⟨d, ak, rfl, w.get (SG p q _ _ hd), ?_⟩
    walk_at "go"
    refine g_newL w (by walk_at "sz") fun em H6 ne w => ?_
    have nep : em ≠ pq := fun z => by rw [z, hpq p q] at ne; cases ne
    have ned : em ≠ pd := fun z => by rw [z, hpd p q] at ne; cases ne
    have neG : G em = none := by rw [upd_ne nep, upd_ne ned] at ne; exact ne
    have C : upd (upd (upd G pd (DnO P wo pd (parK κ p))) pq (.lst (q.map V.ref))) em (.lst []) = upd (upd (upd G em (.lst [])) pd (DnO P wo pd (parK κ p))) pq (.lst (q.map V.ref)) := by
      funext b
      by_cases e1 : b = em
      · subst e1
        rw [upd_same, upd_ne nep, upd_ne ned, upd_same]
      · rw [upd_ne e1]
        by_cases e2 : b = pq
        · subst e2
          rw [upd_same, upd_same]
        · rw [upd_ne e2, upd_ne e2]
          by_cases e3 : b = pd
          · subst e3
            rw [upd_same, upd_same]
          · rw [upd_ne e3, upd_ne e3, upd_ne e1]
    rw [C] at w
    clear C
    have s2 : Same G (upd G em (.lst [])) := Same.newG neG
    have hem : upd G em (.lst []) em = some (.lst []) := upd_same
    have npd2 : upd G em (.lst []) pd = none := by rw [upd_ne ned.symm]; exact npd
    have npq2 : upd G em (.lst []) pq = none := by rw [upd_ne nep.symm]; exact npq0
    generalize upd G em (.lst []) = G2 at *
    have SG2 : ∀ (p : Bfs.Par Addr) (q : List Addr), Same G2 (upd (upd G2 pd (DnO P wo pd (parK κ p))) pq (.lst (q.map V.ref))) := fun p q => Same.setL (Same.newG npd2) npq2
    have hpd2 : ∀ (p : Bfs.Par Addr) (q : List Addr), upd (upd G2 pd (DnO P wo pd (parK κ p))) pq (.lst (q.map V.ref)) pd = some (DnO P wo pd (parK κ p)) := fun p q => by rw [upd_ne dqd.symm]; exact upd_same
    have RA2 := RA.same s2
    refine g_getN w (SG2 p q _ _ (s2 _ _ hd)) (kk.same fun _ _ z => SG2 p q _ _ (s2 _ _ z)) ((RA2.same (SG2 p q)).key hhr) (rk_depth _) ?_
    obtain ⟨ll, hll, hlq⟩ : ∃ ll, (valN ak (rk (κ here))).getD (.ref em) = .ref ll ∧ G2 ll = some (.lst ((nx here).map V.ref)) := by
      rcases hak here hhr with ⟨h1, h2⟩ | ⟨l, h1, h2⟩
      · rw [h1, h2]
        exact ⟨em, rfl, hem⟩
      · rw [h1]
        exact ⟨l, rfl, s2 _ _ h2⟩
    rw [hll]
    walk_at "go"
    refine ⟨ll, rfl, ⟨_, SqL.of (w.get (SG2 p q _ _ hlq))⟩, ?_⟩
    refine for_it (itf_list (xs := (nx here).map V.ref)) (fun i σ' H' => ∃ pi qi y5, σ' = [some (.ref d), some (.ref st), some (.ref pd), some (.ref pq), some (.ref here), y5] ∧ Wd (upd (upd G2 pd (DnO P wo pd (parK κ pi))) pq (.lst (qi.map V.ref))) R H' ∧ ParOk rs pi ∧ (∀ a ∈ qi, pi.has a = true) ∧ pi.has here = true ∧ pi.length + q.length = p.length + qi.length ∧ Bfs.inner st here (nx here) p q = Bfs.inner st here ((nx here).drop i) pi qi ∧ Bfs.innerP st here (nx here) p q = Bfs.innerP st here ((nx here).drop i) pi qi)
      ⟨p, q, _, rfl, w, PO, fun a ha => hq a (List.mem_cons_of_mem _ ha), hhas, rfl, rfl, rfl⟩ (fun i σ' H' _ h => ?_) ?_ ?_
    · obtain ⟨pi, qi, _, _, w, _⟩ := h
      exact SqL.of (w.get (SG2 pi qi _ _ hlq))
    · clear w
      rintro i v σ' H7 H8 hi ⟨pi, qi, y6, rfl, w, POi, hqi, hhi, hli, hin, hiP⟩ ⟨rfl, hv⟩
      rw [List.getElem?_map] at hv
      obtain ⟨b, hb1, rfl⟩ := Option.map_eq_some_iff.mp hv
      have hbr : b ∈ rs := cl here b (List.mem_of_getElem? hb1)
      have RAi := RA2.same (SG2 pi qi)
      have hdr : (nx here).drop i = b :: (nx here).drop (i + 1) := by
        rw [List.drop_eq_getElem_cons (List.getElem?_eq_some_iff.mp hb1).1]
        rw [(List.getElem?_eq_some_iff.mp hb1).2]
      rw [hdr] at hin hiP
      walk_at "go"
      refine g_eqD (RAi.dp w hbr) (RAi.dp w hst) (rowD_shaped (RA.ok _ hbr)) (rowD_shaped (RA.ok _ hst)) ?_
      rw [rowD_eqv]
      by_cases e : b = st
      · rw [decide_eq_true (show κ b = κ st by rw [e])]
        rw [e] at hin hiP
        walk_at "go"
        obtain ⟨l, hu, hl, hpo⟩ := POi.way hhi
        refine ⟨rfl, rfl, _, R, pd, here, parK κ pi, l, rfl, w, hpd2 pi qi, parK_keys RAi POi.sub, up_upN RAi POi hu, by omega, fun t G9 H9 s9 q9 w9 => ?_⟩
        refine k2 l.reverse ?_ t G9 H9 (Same.trans s2 (Same.trans (SG2 pi qi) s9)) q9 w9
        unfold Bfs.cyc
        rw [← hb, Bfs.bfs_cons, hin, Bfs.inner_st.1, hiP, Bfs.inner_st.2]
        show some (Bfs.pathOf pi rs.length here).reverse = _
        rw [hpo]
      · rw [decide_eq_false fun z => e (RA.inj _ hbr _ hst z)]
        walk_at "go"
        refine g_inN (f := not) w (hpd2 pi qi) (parK_keys RAi POi.sub) (RAi.key hbr) (rk_depth _) ?_
        rw [parK_has RA POi.sub hbr]
        cases hp : pi.has b with
        | true =>
          refine ⟨_, rfl, ?_⟩
          rw [if_neg (by decide)]
          walk_at "go"
          rw [(Bfs.inner_has e hp).1] at hin
          rw [(Bfs.inner_has e hp).2] at hiP
          exact ⟨pi, qi, _, rfl, w, POi, hqi, hhi, hli, hin, hiP⟩
        | false =>
          refine ⟨_, rfl, ?_⟩
          rw [if_pos (by decide)]
          walk_at "go"
          refine ⟨pd, _, rk (κ b), b, rfl, rfl, w.get (hpd2 pi qi), nkW w (parK_keys RAi POi.sub), keyW w (RAi.key hbr), rk_depth _, by unfold parK; rw [List.length_map]; have := POi.len; rw [sizeLine_eq]; omega, ?_⟩
          have w := w.set (o' := DnO P wo pd (putN (parK κ pi) (rk (κ b)) b (.ref here))) (hpd2 pi qi)
          rw [parK_put RA POi.sub hbr hp] at w ⊢
          rw [upd_comm dqd.symm, upd_upd] at w
          walk_at "go"
          refine g_tyL w upd_same ?_
          walk_at "go"
          have lq : qi.length ≤ 12 := by
            have := POi.len
            omega
          refine g_app w upd_same (by rw [sizeLine_eq, List.length_map]; omega) fun H10 w => ?_
          rw [upd_upd] at w
          walk_at "go"
          rw [(Bfs.inner_new e hp).1] at hin
          rw [(Bfs.inner_new e hp).2] at hiP
          refine ⟨pi ++ [(b, some here)], qi ++ [b], _, rfl, by rw [List.map_append]; exact w, POi.snoc hbr hhi hp, fun a ha => ?_, Bfs.has_snoc.mpr (.inl hhi), by rw [List.length_append, List.length_append]; simp only [List.length_cons, List.length_nil]; omega, hin, hiP⟩
          rcases List.mem_append.mp ha with ha | ha
          · exact Bfs.has_snoc.mpr (.inl (hqi a ha))
          · rw [List.mem_singleton.mp ha]
            exact Bfs.has_snoc.mpr (.inr rfl)
    · rintro σ' H7 ⟨pi, qi, y6, rfl, w, POi, hqi, hhi, hli, hin, hiP⟩
      rw [List.length_map, List.drop_length] at hin hiP
      refine ⟨m, by omega, pi, qi, _, _, rfl, w.drop ?_, POi, hqi, by omega, by have := POi.len; omega, ?_⟩
      · intro c o hc
        by_cases e2 : c = pq
        · subst e2
          rw [upd_same] at hc ⊢
          exact hc
        · rw [upd_ne e2] at hc ⊢
          by_cases e3 : c = pd
          · subst e3
            rw [upd_same] at hc ⊢
            exact hc
          · rw [upd_ne e3] at hc ⊢
            exact s2 _ _ hc
      · rw [← hb]
        rw [Bfs.bfs_cons, hin]
        rfl
end
theorem val_in {G : Hp} {rs : List Addr} {κ : Addr → Str × Int} (RA : RowsAt G rs κ) {lf : Addr → Addr} {x1 : Addr} (hp2 : x1 ∈ rs) : ∀ (l : List Addr), (∀ a ∈ l, a ∈ rs) → x1 ∈ l → valN (l.map fun a => (rk (κ a), a, V.ref (lf a))) (rk (κ x1)) = some (.ref (lf x1))
  | [], _, hx => nomatch hx
  | y :: l, hl, hx => by
    have ih := val_in RA (lf := lf) hp2 l (fun a ha => hl a (List.mem_cons_of_mem _ ha))
    unfold valN at *
    rw [List.map_cons]
    by_cases e : y = x1
    · subst e
      rw [List.find?_cons_of_pos (by simp)]
      rfl
    · rw [List.find?_cons_of_neg (by
        simp only [decide_eq_true_eq]
        exact fun z => e (RA.inj _ (hl y List.mem_cons_self) _ hp2 (rk_inj z)))]
      exact ih ((List.mem_cons.mp hx).resolve_left fun z => e z.symm)
theorem val_out {G : Hp} {rs : List Addr} {κ : Addr → Str × Int} (RA : RowsAt G rs κ) {lf : Addr → Addr} {x1 : Addr} (hp2 : x1 ∈ rs) {l : List Addr} (hl : ∀ a ∈ l, a ∈ rs) (h : x1 ∉ l) : valN (l.map fun a => (rk (κ a), a, V.ref (lf a))) (rk (κ x1)) = none := by
  cases h2 : valN (l.map fun a => (rk (κ a), a, V.ref (lf a))) (rk (κ x1)) with
  | none => rfl
  | some v =>
    have := valN_mem.mp (show (valN (l.map fun a => (rk (κ a), a, V.ref (lf a))) (rk (κ x1))).isSome = true by rw [h2]; rfl)
    rw [List.map_map] at this
    obtain ⟨a, ha, e⟩ := List.mem_map.mp this
    exact absurd (by rw [← RA.inj a (hl a ha) _ hp2 (rk_inj e)]; exact ha) h
theorem srt_mem {κ : Addr → Str × Int} {π : Addr → Addr × Addr} {pas : List Addr} {x : Addr × Addr} (h : x ∈ srtOf κ π pas) : ∃ p ∈ pas, π p = x := by
  obtain ⟨b, hb, rfl⟩ := List.mem_map.mp h
  rw [List.mem_mergeSort] at hb
  obtain ⟨q, hq, rfl⟩ := List.mem_map.mp hb
  rcases all_sub q hq with ⟨_, h, _⟩ | ⟨p, hp, _, e⟩
  · cases h
  obtain ⟨a, ha, rfl⟩ := List.mem_map.mp hp
  exact ⟨a, ha, by rw [show a = q.2.1 from e]⟩
theorem srt_all {G : Hp} {rs : List Addr} {κ : Addr → Str × Int} (RA : RowsAt G rs κ) {π : Addr → Addr × Addr} {pas : List Addr} (hp : ∀ p ∈ pas, (π p).1 ∈ rs ∧ (π p).2 ∈ rs) {p : Addr} (h : p ∈ pas) : π p ∈ srtOf κ π pas := by
  have h1 : prk (κ (π p).1, κ (π p).2) ∈ (allN (prPs κ π pas) []).map Prod.fst := by
    rw [keys_all]
    refine .inr ?_
    unfold prPs
    rw [List.map_map]
    exact List.mem_map.mpr ⟨p, h, rfl⟩
  obtain ⟨q, hq, e⟩ := List.mem_map.mp h1
  rcases all_sub q hq with ⟨_, h, _⟩ | ⟨p', hp', e1, e2⟩
  · cases h
  obtain ⟨a, ha, rfl⟩ := List.mem_map.mp hp'
  have e3 : prk (κ (π a).1, κ (π a).2) = prk (κ (π p).1, κ (π p).2) := e1.trans e
  have e4 := prk_inj e3
  have e5 : π a = π p := Prod.ext (RA.inj _ (hp a ha).1 _ (hp p h).1 (congrArg Prod.fst e4)) (RA.inj _ (hp a ha).2 _ (hp p h).2 (congrArg Prod.snd e4))
  refine List.mem_map.mpr ⟨(q.2.1, prD (κ (π q.2.1).1, κ (π q.2.1).2)), List.mem_mergeSort.mpr (List.mem_map.mpr ⟨q, hq, rfl⟩), ?_⟩
  show π q.2.1 = π p
  rw [← e5, ← show a = q.2.1 from e2]
theorem ah_of {P : Program} {wo : World} {G : Hp} {rs : List Addr} {κ : Addr → Str × Int} (RA : RowsAt G rs κ) {gs : List Addr} {S : List (Addr × Addr)} (hS : ∀ x ∈ S, x.1 ∈ rs ∧ x.2 ∈ rs) {d : Addr} {lf : Addr → Addr} (hd : G d = some (DnO P wo d ((ksOf gs S).map fun a => (rk (κ a), a, .ref (lf a))))) (hl : ∀ a ∈ ksOf gs S, G (lf a) = some (.lst ((nxOf gs S a).map V.ref))) : AhAt P wo G d rs κ (nxOf gs S) ∧ (∀ a, ∀ b ∈ nxOf gs S a, b ∈ rs) ∧ ∀ a ∈ ksOf gs S, a ∈ rs := by
  have hk : ∀ a ∈ ksOf gs S, a ∈ rs := fun a ha => by
    obtain ⟨b, r, e⟩ := List.exists_cons_of_ne_nil (ks_nx.mp ha)
    exact (hS _ (nxOf_mem.mp (show b ∈ nxOf gs S a by rw [e]; exact List.mem_cons_self)).1).1
  refine ⟨⟨_, hd, fun q hq => ?_, fun a ha => ?_⟩, fun a b hb => (hS _ (nxOf_mem.mp hb).1).2, hk⟩
  · obtain ⟨a, ha, rfl⟩ := List.mem_map.mp hq
    exact ⟨RA.key (hk a ha), rk_depth _⟩
  · by_cases h : a ∈ ksOf gs S
    · exact .inr ⟨lf a, val_in RA ha _ hk h, hl a h⟩
    · exact .inl ⟨val_out RA ha hk h, Decidable.byContradiction fun z => h (ks_nx.mpr z)⟩
section
variable {P : Program} {wo : World} {A : Ad} {K : PySem.W.Frag} {mg : Str → Option Value} {base : Heap}
def ksrt (κ : Addr → Str × Int) (π : Addr → Addr × Addr) (pas gs : List Addr) : List Addr := (((ksOf gs (srtOf κ π pas)).map fun a => (a, rowD (κ a))).mergeSort (PySem.W.dataLe false Prod.snd)).map Prod.fst
def spSh (K : PySem.W.Frag) (P : Program) (wo : World) : Sp := fun vs H Q _ => ∃ G R pl wl rs κ π pas gs, vs = [.ref pl, .ref wl] ∧ Wd G R H ∧ RowsAt G rs κ ∧ rs.length ≤ 12 ∧ (SqT K G pl (pas.map V.ref) ∨ G pl = some (.lst (pas.map V.ref))) ∧ (SqT K G wl (gs.map V.ref) ∨ G wl = some (.lst (gs.map V.ref))) ∧ pas.length ≤ 60 ∧ gs.length ≤ 12 ∧ (∀ p ∈ pas, PrAt G p (π p) ∧ (π p).1 ∈ rs ∧ (π p).2 ∈ rs) ∧ (∀ a ∈ gs, a ∈ rs) ∧
  (Bfs.bestOf (nxOf gs (srtOf κ π pas)) rs.length (ksrt κ π pas gs) none = none → ∀ G' H', Same G G' → Wd G' R H' → Q .non H') ∧ ∀ c, Bfs.bestOf (nxOf gs (srtOf κ π pas)) rs.length (ksrt κ π pas gs) none = some c → ∀ t G' H', Same G G' → SqT K G' t (c.map V.ref) → Wd G' R H' → Q (.ref t) H'
theorem ksrt_mem {κ : Addr → Str × Int} {π : Addr → Addr × Addr} {pas gs : List Addr} {a : Addr} : a ∈ ksrt κ π pas gs ↔ a ∈ ksOf gs (srtOf κ π pas) := by
  unfold ksrt
  rw [List.mem_map]
  constructor
  · rintro ⟨b, hb, rfl⟩
    rw [List.mem_mergeSort] at hb
    obtain ⟨q, hq, rfl⟩ := List.mem_map.mp hb
    exact hq
  · exact fun h => ⟨(a, rowD (κ a)), List.mem_mergeSort.mpr (List.mem_map.mpr ⟨a, h, rfl⟩), rfl⟩
theorem ah_same {G G' : Hp} {d : Addr} {rs : List Addr} {κ : Addr → Str × Int} {nx : Addr → List Addr} (h : AhAt P wo G d rs κ nx) (e : Same G G') : AhAt P wo G' d rs κ nx := by
  obtain ⟨ak, h1, h2, h3⟩ := h
  exact ⟨ak, e _ _ h1, h2.same fun _ _ z => e _ _ z, fun a ha => (h3 a ha).imp id fun ⟨l, h4, h5⟩ => ⟨l, h4, e _ _ h5⟩⟩
theorem best_snoc {nx : Addr → List Addr} {N : Nat} : ∀ (l : List Addr) (s : Addr) (b : Option (List Addr)), Bfs.bestOf nx N (l ++ [s]) b = Bfs.better (Bfs.cyc nx N s) (Bfs.bestOf nx N l b)
  | [], _, _ => rfl
  | x :: l, s, b => best_snoc l s _
theorem sc_shortest_cycle : FnScope (["pairs", "without", "ahead", "best", "start", "found"] : List Str) (["pairs", "without"] : List Str) (defScope s_shortest_cycle) := ⟨rfl, rfl, rfl, by decide +kernel, rfl, by decide +kernel, by decide +kernel⟩
theorem ok_sh {f : Addr} {fd : FuncData} {dvs : List V} {kws : List (Str × V)} (F : FunD K "shortest_cycle" "shortest_cycle" (defArgs s_shortest_cycle) (defBody s_shortest_cycle) (defScope s_shortest_cycle) dvs kws f fd) (T : Txt K mg A) (Gfo : GFn P wo K mg base 1 "followers" 2 [] (fun vs _ => spFo K P wo vs)) (Gcy : GFn P wo K mg base 2 "cycle_from" 2 [] (fun vs _ => spCf K P wo vs)) : FnOk P wo K mg base (L2.CX P wo) 3 f fd (["pairs", "without"] : List Str) (spSh K P wo) := by
  refine okTD F sc_shortest_cycle (fun vs H Q E h => ?_) (fun cdv Ar outer s H vs Q E hr tk po h => ?_)
  · obtain ⟨_, _, _, _, _, _, _, _, _, rfl, _⟩ := h
    rfl
  obtain ⟨G, R, pl, wl, rs, κ, π, pas, gs, rfl, w, RA, hrs, hpl, hwl, lp, lg, hpr, hgs, k⟩ := h
  refine ⟨_, (pss_cons (ps_set (i := 2) sc_shortest_cycle.nd rfl (by first | exact Or.inl rfl | exact Or.inr rfl) (pe_callG Gfo (hr.mono (by decide)) tk (pa_cons (pv 0) (pa_cons (pv 1) pa_nil)) pk_nil))
      (pss_cons (ps_set (i := 3) sc_shortest_cycle.nd rfl (by first | exact Or.inl rfl | exact Or.inr rfl) pe_non)
      (pss_cons (ps_for po rfl (ki_list K (pe_callB (ka_sortedN K P wo rfl (hu32 hr)) (by rfl) T.nb_sorted (by decide +kernel) (pa_cons (pv 2) pa_nil))) (pg_name (i := 4) sc_shortest_cycle.nd rfl (by first | exact Or.inl rfl | exact Or.inr rfl)) (pss_cons (ps_set (i := 5) sc_shortest_cycle.nd rfl (by first | exact Or.inl rfl | exact Or.inr rfl) (pe_callG Gcy (hr.mono (by decide)) tk (pa_cons (pv 2) (pa_cons (pv 4) pa_nil)) pk_nil))
      (pss_one (ps_if (PW.pt (pw_and (pt_cmpR op_notN (pv 5) pe_non (nomark _)) (pw_and1 (PW.pt (pw_or (pt_cmpR op_isN (pv 3) pe_non (nomark _)) (pw_or1 (pt_cmpR op_lt (pe_callB (ka_len K) (by rfl) T.nb_len (by decide +kernel) (pa_cons (pv 5) pa_nil)) (pe_callB (ka_len K) (by rfl) T.nb_len (by decide +kernel) (pa_cons (pv 3) pa_nil)) (nomark _)))))))) (pss_one (ps_set (i := 3) sc_shortest_cycle.nd rfl (by first | exact Or.inl rfl | exact Or.inr rfl) (pv 5))) pss_nil))))
      (pss_one (ps_ret (pv 3)))))), ?_⟩
  walk_at "go"
  refine ⟨rfl, rfl, G, R, pl, wl, rs, κ, π, pas, gs, rfl, w, RA, hrs, hpl, hwl, lp, lg, hpr, hgs, fun d lf G1 H1 s1 hd hlf w1 => ?_⟩
  have hS : ∀ x ∈ srtOf κ π pas, x.1 ∈ rs ∧ x.2 ∈ rs := fun x hx => by
    obtain ⟨p, hp, rfl⟩ := srt_mem hx
    exact (hpr p hp).2
  have RA1 := RA.same s1
  obtain ⟨hah, cl, hk⟩ := ah_of RA1 hS hd hlf
  walk_at "go"
  refine ⟨d, _, (ksOf gs (srtOf κ π pas)).map fun a => (a, rowD (κ a)), rfl, w1.get hd, by rw [List.map_map, List.map_map]; rfl, fun b hb => ?_, ?_, ?_, fun p7 n7 => ?_⟩
  · obtain ⟨a, ha, rfl⟩ := List.mem_map.mp hb
    exact ⟨RA1.dp w1 (hk a ha), rowD_depth _⟩
  · intro d hd d' hd'
    rw [List.map_map] at hd hd'
    obtain ⟨q, _, rfl⟩ := List.mem_map.mp hd
    obtain ⟨q', _, rfl⟩ := List.mem_map.mp hd'
    exact alike_row _ _
  · refine .inl fun d hd => ?_
    rw [List.map_map] at hd
    obtain ⟨q, _, rfl⟩ := List.mem_map.mp hd
    exact ⟨_, _, rfl⟩
  have hLm : ∀ a, a ∈ ((((ksOf gs (srtOf κ π pas)).map fun a => (a, rowD (κ a))).mergeSort (PySem.W.dataLe false Prod.snd)).map Prod.fst) ↔ a ∈ ksOf gs (srtOf κ π pas) := fun a => ksrt_mem
  unfold ksrt at k
  have hlen : ((((ksOf gs (srtOf κ π pas)).map fun a => (a, rowD (κ a))).mergeSort (PySem.W.dataLe false Prod.snd))).length ≤ 12 := by
    rw [List.length_mergeSort, List.length_map]
    exact Nat.le_trans (List.Nodup.length_le_of_subset (ksOf_nd _ _ List.nodup_nil) fun a ha => hk a ha) hrs
  generalize ((ksOf gs (srtOf κ π pas)).map fun a => (a, rowD (κ a))).mergeSort (PySem.W.dataLe false Prod.snd) = LL at *
  obtain ⟨k1, k2⟩ := k
  have w8 := w1.new (o := .lst (LL.map fun b => V.ref b.1)) n7
  have s8 : Same G1 (upd G1 p7 (.lst (LL.map fun b => V.ref b.1))) := Same.newG (w1.free n7)
  have h87 : upd G1 p7 (.lst (LL.map fun b => V.ref b.1)) p7 = some (.lst (LL.map fun b => V.ref b.1)) := upd_same
  generalize upd G1 p7 (.lst (LL.map fun b => V.ref b.1)) = G8 at *
  generalize nxOf gs (srtOf κ π pas) = nx at *
  show ∃ a, _
  refine ⟨p7, rfl, ⟨_, SqL.of (w8.get h87)⟩, ?_⟩
  refine for_it (itf_list (xs := LL.map fun b => V.ref b.1)) (fun i σ' H' => ∃ y4 y5 bv Gi, σ' = [some (.ref pl), some (.ref wl), some (.ref d), some bv, y4, y5] ∧ Wd Gi R H' ∧ Same G8 Gi ∧ (Bfs.bestOf nx rs.length ((LL.map Prod.fst).take i) none = none → bv = .non) ∧ ∀ c, Bfs.bestOf nx rs.length ((LL.map Prod.fst).take i) none = some c → ∃ t, bv = .ref t ∧ SqT K Gi t (c.map V.ref))
    ⟨_, _, .non, G8, rfl, w8, Same.refl G8, fun _ => rfl, fun c h => by cases h⟩ (fun i σ' H' _ h => ?_) ?_ ?_
  · obtain ⟨_, _, _, Gi, _, w, si, _⟩ := h
    exact SqL.of (w.get (si _ _ h87))
  · rintro i v σ' H7 H8 hi ⟨y4, y5, bv, Gi, rfl, wi, si, hb1, hb2⟩ ⟨rfl, hv⟩
    rw [List.getElem?_map] at hv
    obtain ⟨b, hb, rfl⟩ := Option.map_eq_some_iff.mp hv
    have hbm : b.1 ∈ rs := hk _ ((hLm b.1).mp (List.mem_map_of_mem (List.mem_of_getElem? hb)))
    have s1i := Same.trans s8 si
    have htk : (LL.map Prod.fst).take (i + 1) = (LL.map Prod.fst).take i ++ [b.1] := by
      rw [List.take_add_one, List.getElem?_map, hb]
      rfl
    walk_at "go"
    refine ⟨rfl, rfl, Gi, R, d, b.1, rs, κ, nx, rfl, wi, RA1.same s1i, hbm, hrs, cl, ah_same hah s1i, fun hn G9 H9 s9 w9 => ?_, fun c hc t G9 H9 s9 q9 w9 => ?_⟩
    · walk_at "go"
      refine ⟨rfl, ?_⟩
      walk_at "go"
      refine ⟨_, _, bv, G9, rfl, w9, Same.trans si s9, ?_, ?_⟩ <;> rw [htk, best_snoc, hn]
      · exact hb1
      · exact fun c hc => let ⟨t, e, q⟩ := hb2 c hc; ⟨t, e, Evl.ex_t s9 q⟩
    · walk_at "go"
      refine ⟨rfl, ?_⟩
      walk_at "go"
      rw [if_pos (show (!decide (V.ref t = V.non)) = true by rw [decide_eq_false (by intro z; cases z)]; rfl)]
      walk_at "go"
      refine ⟨rfl, ?_⟩
      cases hbo : Bfs.bestOf nx rs.length ((LL.map Prod.fst).take i) none with
      | none =>
        obtain rfl := hb1 hbo
        rw [decide_eq_true rfl]
        walk_at "go"
        refine ⟨_, _, .ref t, G9, rfl, w9, Same.trans si s9, ?_, ?_⟩ <;> rw [htk, best_snoc, hc, hbo]
        · exact fun h => by cases h
        · exact fun c' h => by cases h; exact ⟨t, rfl, q9⟩
      | some c0 =>
        obtain ⟨t0, rfl, q0⟩ := hb2 c0 hbo
        rw [decide_eq_false (show V.ref t0 ≠ V.non from fun z => by cases z)]
        walk_at "go"
        refine g_lenT w9 q9 ?_
        walk_at "go"
        refine g_lenT w9 (Evl.ex_t s9 q0) ?_
        walk_at "go"
        rw [List.length_map, List.length_map]
        by_cases hlt : c.length < c0.length
        · rw [if_pos (decide_eq_true (by omega))]
          walk_at "go"
          refine ⟨_, _, .ref t, G9, rfl, w9, Same.trans si s9, ?_, ?_⟩ <;> rw [htk, best_snoc, hc, hbo, show Bfs.better (some c) (some c0) = some c from if_pos hlt]
          · exact fun h => by cases h
          · exact fun c' h => by cases h; exact ⟨t, rfl, q9⟩
        · rw [if_neg (by rw [decide_eq_true_eq]; omega)]
          walk_at "go"
          refine ⟨_, _, .ref t0, G9, rfl, w9, Same.trans si s9, ?_, ?_⟩ <;> rw [htk, best_snoc, hc, hbo, show Bfs.better (some c) (some c0) = some c0 from if_neg hlt]
          · exact fun h => by cases h
          · exact fun c' h => by cases h; exact ⟨t0, rfl, Evl.ex_t s9 q0⟩
  · rintro σ' H9 ⟨y4, y5, bv, Gi, rfl, wi, si, hb1, hb2⟩
    rw [List.length_map] at hb1 hb2
    rw [List.take_of_length_le (by rw [List.length_map]; exact Nat.le_refl _)] at hb1 hb2
    walk_at "go"
    have sG := Same.trans s1 (Same.trans s8 si)
    cases hbo : Bfs.bestOf nx rs.length (LL.map Prod.fst) none with
    | none =>
      rw [hb1 hbo]
      exact k1 hbo _ _ sG wi
    | some c =>
      obtain ⟨t, rfl, ht⟩ := hb2 c hbo
      exact k2 c hbo t _ _ sG ht wi
end
theorem rowDs_can {rs : List Addr} {κ : Addr → Str × Int} (ok : ∀ a ∈ rs, PyData.strOk (κ a).1 = true) : ∀ (bs : List Addr), (∀ b ∈ bs, b ∈ rs) → PyData.canLayAll0 (bs.map fun b => rowD (κ b)) = true ∧ PyData.depthAll (bs.map fun b => rowD (κ b)) ≤ 2
  | [], _ => ⟨rfl, Nat.zero_le _⟩
  | b :: bs, h => by
    obtain ⟨h1, h2⟩ := rowDs_can ok bs fun x hx => h x (List.mem_cons_of_mem _ hx)
    have hb := ok b (h b List.mem_cons_self)
    constructor
    · rw [List.map_cons]
      unfold rowD at *
      simp [PyData.canLay0, PyData.canLayAll0, hb, h1]
    · rw [List.map_cons]
      unfold rowD at *
      simp [PyData.depth, PyData.depthAll] at *
      omega
theorem rowDs_shaped {rs : List Addr} {κ : Addr → Str × Int} (ok : ∀ a ∈ rs, PyData.strOk (κ a).1 = true) {bs : List Addr} (h : ∀ b ∈ bs, b ∈ rs) : SeqAt.shaped (.list (bs.map fun b => rowD (κ b))) = true := by
  obtain ⟨h1, h2⟩ := rowDs_can ok bs h
  unfold SeqAt.shaped
  rw [Bool.and_eq_true, decide_eq_true_iff]
  constructor
  · simpa [PyData.canLay0] using h1
  · simp [PyData.depth]
    omega
theorem any_rows {G : Hp} {rs : List Addr} {κ : Addr → Str × Int} (RA : RowsAt G rs κ) {a : Addr} (ha : a ∈ rs) {bs : List Addr} (h : ∀ b ∈ bs, b ∈ rs) : ((bs.map fun b => rowD (κ b)).any fun z => PyData.eqv z (rowD (κ a))) = decide (a ∈ bs) := by
  rw [Bool.eq_iff_iff, List.any_eq_true, decide_eq_true_iff]
  constructor
  · rintro ⟨z, hz, e⟩
    obtain ⟨b, hb, rfl⟩ := List.mem_map.mp hz
    rw [rowD_eqv, decide_eq_true_iff] at e
    rw [← RA.inj b (h b hb) a ha e]
    exact hb
  · exact fun hb => ⟨_, List.mem_map.mpr ⟨a, hb, rfl⟩, by rw [rowD_eqv]; exact decide_eq_true rfl⟩
theorem dps_rows {K : PySem.W.Frag} {G H : Hp} {R : Res} {rs : List Addr} {κ : Addr → Str × Int} (RA : RowsAt G rs κ) (w : Wd G R H) : ∀ (bs : List Addr), (∀ b ∈ bs, b ∈ rs) → DpAll K H (bs.map V.ref) (bs.map fun b => rowD (κ b))
  | [], _ => .nil
  | b :: bs, h => .cons (RA.dp w (h b List.mem_cons_self)) (dps_rows RA w bs fun x hx => h x (List.mem_cons_of_mem _ hx))
theorem g_inR {K : PySem.W.Frag} {G H : Hp} {R : Res} {Q : VK} {rs : List Addr} {κ : Addr → Str × Int} (RA : RowsAt G rs κ) (w : Wd G R H) {a l : Addr} {bs : List Addr} (ha : a ∈ rs) (hl : SqL K G l (bs.map V.ref)) (h : ∀ b ∈ bs, b ∈ rs) (q : Q (.bl (decide (a ∈ bs))) H) : rInD K (.ref a) (.ref l) H Q := by
  refine ⟨_, _, RA.dp w ha, .lst (Evl.ex_l w.sub hl) (dps_rows RA w bs h), rowD_shaped (RA.ok a ha), rowDs_shaped RA.ok h, ?_⟩
  rw [any_rows RA ha h]
  exact q
theorem prDs_can {rs : List Addr} {κ : Addr → Str × Int} (ok : ∀ a ∈ rs, PyData.strOk (κ a).1 = true) : ∀ (ys : List (Addr × Addr)), (∀ y ∈ ys, y.1 ∈ rs ∧ y.2 ∈ rs) → PyData.canLayAll0 (ys.map fun y => prD (κ y.1, κ y.2)) = true ∧ PyData.depthAll (ys.map fun y => prD (κ y.1, κ y.2)) ≤ 3
  | [], _ => ⟨rfl, Nat.zero_le _⟩
  | y :: ys, h => by
    obtain ⟨h1, h2⟩ := prDs_can ok ys fun x hx => h x (List.mem_cons_of_mem _ hx)
    have hy := h y List.mem_cons_self
    have hb1 := ok y.1 hy.1
    have hb2 := ok y.2 hy.2
    constructor
    · rw [List.map_cons]
      unfold prD rowD at *
      simp [PyData.canLay0, PyData.canLayAll0, hb1, hb2, h1]
    · rw [List.map_cons]
      unfold prD rowD at *
      simp [PyData.depth, PyData.depthAll] at *
      omega
theorem prDs_shaped {rs : List Addr} {κ : Addr → Str × Int} (ok : ∀ a ∈ rs, PyData.strOk (κ a).1 = true) {ys : List (Addr × Addr)} (h : ∀ y ∈ ys, y.1 ∈ rs ∧ y.2 ∈ rs) : SeqAt.shaped (.list (ys.map fun y => prD (κ y.1, κ y.2))) = true := by
  obtain ⟨h1, h2⟩ := prDs_can ok ys h
  unfold SeqAt.shaped
  rw [Bool.and_eq_true, decide_eq_true_iff]
  constructor
  · simpa [PyData.canLay0] using h1
  · simp [PyData.depth]
    omega
theorem prD_shaped {rs : List Addr} {κ : Addr → Str × Int} (ok : ∀ a ∈ rs, PyData.strOk (κ a).1 = true) {y : Addr × Addr} (h1 : y.1 ∈ rs) (h2 : y.2 ∈ rs) : SeqAt.shaped (prD (κ y.1, κ y.2)) = true := by
  have hb1 := ok y.1 h1
  have hb2 := ok y.2 h2
  unfold prD rowD
  simp [SeqAt.shaped, PyData.canLay0, PyData.canLayAll0, PyData.depth, PyData.depthAll, hb1, hb2]
theorem prD_eqv (x y : (Str × Int) × (Str × Int)) : PyData.eqv (prD x) (prD y) = decide (x = y) := by
  unfold prD
  rw [Bool.eq_iff_iff, decide_eq_true_eq]
  simp [PyData.eqv, PyData.eqvAll, Prod.ext_iff, rowD_eqv]
theorem any_prs {G : Hp} {rs : List Addr} {κ : Addr → Str × Int} (RA : RowsAt G rs κ) {x : Addr × Addr} (h1 : x.1 ∈ rs) (h2 : x.2 ∈ rs) {ys : List (Addr × Addr)} (h : ∀ y ∈ ys, y.1 ∈ rs ∧ y.2 ∈ rs) : ((ys.map fun y => prD (κ y.1, κ y.2)).any fun z => PyData.eqv z (prD (κ x.1, κ x.2))) = decide (x ∈ ys) := by
  rw [Bool.eq_iff_iff, List.any_eq_true, decide_eq_true_iff]
  constructor
  · rintro ⟨z, hz, e⟩
    obtain ⟨y, hy, rfl⟩ := List.mem_map.mp hz
    rw [prD_eqv, decide_eq_true_iff] at e
    rw [← show y = x from Prod.ext (RA.inj _ (h y hy).1 _ h1 (congrArg Prod.fst e)) (RA.inj _ (h y hy).2 _ h2 (congrArg Prod.snd e))]
    exact hy
  · exact fun hb => ⟨_, List.mem_map.mpr ⟨x, hb, rfl⟩, by rw [prD_eqv]; exact decide_eq_true rfl⟩
theorem dps_prs {K : PySem.W.Frag} {G H : Hp} {R : Res} {rs : List Addr} {κ : Addr → Str × Int} (RA : RowsAt G rs κ) (w : Wd G R H) {π : Addr → Addr × Addr} : ∀ (ps : List Addr), (∀ p ∈ ps, PrAt G p (π p) ∧ (π p).1 ∈ rs ∧ (π p).2 ∈ rs) → DpAll K H (ps.map V.ref) ((ps.map π).map fun y => prD (κ y.1, κ y.2))
  | [], _ => .nil
  | p :: ps, h => .cons (PrAt.dp RA w (h p List.mem_cons_self).1 (h p List.mem_cons_self).2.1 (h p List.mem_cons_self).2.2) (dps_prs RA w ps fun x hx => h x (List.mem_cons_of_mem _ hx))
theorem g_niP {K : PySem.W.Frag} {G H : Hp} {R : Res} {Q : VK} {rs : List Addr} {κ : Addr → Str × Int} (RA : RowsAt G rs κ) (w : Wd G R H) {t l : Addr} {x : Addr × Addr} {π : Addr → Addr × Addr} {ps : List Addr} (ht : PrAt G t x) (h1 : x.1 ∈ rs) (h2 : x.2 ∈ rs) (hl : SqL K G l (ps.map V.ref)) (h : ∀ p ∈ ps, PrAt G p (π p) ∧ (π p).1 ∈ rs ∧ (π p).2 ∈ rs) (q : Q (.bl (!decide (x ∈ ps.map π))) H) : rNotInD K (.ref t) (.ref l) H Q := by
  have hy : ∀ y ∈ ps.map π, y.1 ∈ rs ∧ y.2 ∈ rs := fun y hy => by
    obtain ⟨p, hp, rfl⟩ := List.mem_map.mp hy
    exact (h p hp).2
  refine ⟨_, _, PrAt.dp RA w ht h1 h2, .lst (Evl.ex_l w.sub hl) (dps_prs RA w ps h), prD_shaped RA.ok h1 h2, prDs_shaped RA.ok hy, ?_⟩
  rw [any_prs RA h1 h2 hy]
  exact q
theorem g_niR {K : PySem.W.Frag} {G H : Hp} {R : Res} {Q : VK} {rs : List Addr} {κ : Addr → Str × Int} (RA : RowsAt G rs κ) (w : Wd G R H) {a l : Addr} {bs : List Addr} (ha : a ∈ rs) (hl : SqL K G l (bs.map V.ref)) (h : ∀ b ∈ bs, b ∈ rs) (q : Q (.bl (!decide (a ∈ bs))) H) : rNotInD K (.ref a) (.ref l) H Q := by
  refine ⟨_, _, RA.dp w ha, .lst (Evl.ex_l w.sub hl) (dps_rows RA w bs h), rowD_shaped (RA.ok a ha), rowDs_shaped RA.ok h, ?_⟩
  rw [any_rows RA ha h]
  exact q
theorem down_chain {nx : Addr → List Addr} {st a : Addr} {l : List Addr} (d : Bfs.Down nx st a l) : 1 ≤ l.length ∧ l.reverse[0]? = some st ∧ l.reverse[l.length - 1]? = some a ∧ ∀ (i : Nat) (x y : Addr), l.reverse[i]? = some x → l.reverse[i + 1]? = some y → y ∈ nx x := by
  induction d with
  | one => exact ⟨Nat.le_refl _, rfl, rfl, fun i x y _ h => by simp at h⟩
  | @cons a b l h d ih =>
    obtain ⟨h1, h2, h3, h4⟩ := ih
    rw [List.reverse_cons, List.length_cons, Nat.add_sub_cancel]
    refine ⟨by omega, ?_, ?_, fun i x y hx hy => ?_⟩
    · rw [List.getElem?_append_left (by rw [List.length_reverse]; omega)]
      exact h2
    · rw [List.getElem?_append_right (by rw [List.length_reverse]; exact Nat.le_refl _), List.length_reverse, Nat.sub_self]
      rfl
    · by_cases lt : i + 1 < l.length
      · rw [List.getElem?_append_left (by rw [List.length_reverse]; omega)] at hx hy
        exact h4 i x y hx hy
      · have e := (List.getElem?_eq_some_iff.mp hy).1
        rw [List.length_append, List.length_reverse, List.length_singleton] at e
        obtain rfl : i = l.length - 1 := by omega
        rw [List.getElem?_append_left (by rw [List.length_reverse]; omega)] at hx
        rw [List.getElem?_append_right (by rw [List.length_reverse]; omega), List.length_reverse, show l.length - 1 + 1 - l.length = 0 by omega] at hy
        rw [h3] at hx
        cases hx
        obtain rfl : a = y := by simpa using hy
        exact h
theorem cyc_ring {nx : Addr → List Addr} {st : Addr} {c : List Addr} (h : Bfs.IsCyc nx st c) (i : Nat) (x y : Addr) (hx : c[i]? = some x) (hy : (c.drop 1 ++ c.take 1)[i]? = some y) : y ∈ nx x := by
  obtain ⟨here, d, hb⟩ := h.down
  obtain ⟨h1, h2, h3, h4⟩ := down_chain d
  rw [List.reverse_reverse] at h2 h3 h4
  rw [List.length_reverse] at h1 h3
  by_cases lt : i + 1 < c.length
  · rw [List.getElem?_append_left (by rw [List.length_drop]; omega), List.getElem?_drop, Nat.add_comm 1 i] at hy
    exact h4 i x y hx hy
  · have li := (List.getElem?_eq_some_iff.mp hx).1
    obtain rfl : i = c.length - 1 := by omega
    rw [List.getElem?_append_right (by rw [List.length_drop]; exact Nat.le_refl _), List.length_drop, Nat.sub_self, List.getElem?_take_of_lt (by omega), h2] at hy
    rw [h3] at hx
    cases hx
    cases hy
    exact hb
theorem cyc_in {nx : Addr → List Addr} {st : Addr} {c : List Addr} (h : Bfs.IsCyc nx st c) : ∀ y ∈ c, ∃ x, x ∈ c ∧ y ∈ nx x := fun y hy => by
  obtain ⟨i, hi⟩ := List.mem_iff_getElem?.mp hy
  have li := (List.getElem?_eq_some_iff.mp hi).1
  by_cases z : i = 0
  · subst z
    have hx : c[c.length - 1]? = some (c[c.length - 1]'(by omega)) := List.getElem?_eq_getElem (by omega)
    refine ⟨_, List.mem_of_getElem? hx, cyc_ring h (c.length - 1) _ y hx ?_⟩
    rw [List.getElem?_append_right (by rw [List.length_drop]; exact Nat.le_refl _), List.length_drop, Nat.sub_self, List.getElem?_take_of_lt (by omega)]
    exact hi
  · have hx : c[i - 1]? = some (c[i - 1]'(by omega)) := List.getElem?_eq_getElem (by omega)
    refine ⟨_, List.mem_of_getElem? hx, cyc_ring h (i - 1) _ y hx ?_⟩
    rw [List.getElem?_append_left (by rw [List.length_drop]; omega), List.getElem?_drop, show 1 + (i - 1) = i by omega]
    exact hi
theorem cyc_two {gs : List Addr} {S : List (Addr × Addr)} {st : Addr} {c : List Addr} (h : Bfs.IsCyc (nxOf gs S) st c) : 2 ≤ c.length := by
  have l1 := h.l1
  by_cases e : c.length = 1
  · exfalso
    obtain ⟨x, rfl⟩ := List.length_eq_one_iff.mp e
    have := cyc_ring h 0 x x rfl rfl
    obtain ⟨_, hg⟩ := nxOf_mem.mp this
    unfold goes at hg
    simp at hg
  · omega
theorem cyc_out {gs : List Addr} {S : List (Addr × Addr)} {st : Addr} {c : List Addr} (h : Bfs.IsCyc (nxOf gs S) st c) : ∀ y ∈ c, y ∉ gs := fun y hy => by
  obtain ⟨x, _, hx⟩ := cyc_in h y hy
  obtain ⟨_, hg⟩ := nxOf_mem.mp hx
  unfold goes at hg
  simp at hg
  exact hg.2.2
theorem g_lsR {K : PySem.W.Frag} {ta : TE} {σ : L2.St} {H : Hp} {Q : VK} (k : ta σ H fun x H1 => ∃ l, ∃ ks : List (Addr × List Key), x = .ref l ∧ SqT K H1 l (ks.map fun p => V.ref p.1) ∧ (∀ p ∈ ks, SqT K H1 p.1 (keyVs p.2)) ∧ ks.length ≤ 20 ∧ (ks.map Prod.snd).Nodup ∧ Q (.int ks.length) H1) : tLenSetR K ta σ H Q := k
def rowKs (κ : Addr → Str × Int) (c : List Addr) : List (Addr × List Key) := c.map fun a => (a, [Sum.inr (κ a).1, Sum.inl (κ a).2])
theorem rowKs_nd {G : Hp} {rs : List Addr} {κ : Addr → Str × Int} (RA : RowsAt G rs κ) : ∀ c : List Addr, c.Nodup → (∀ a ∈ c, a ∈ rs) → ((rowKs κ c).map Prod.snd).Nodup
  | [], _, _ => List.nodup_nil
  | a :: l, nd, hl => by
    have ih := rowKs_nd RA l (List.nodup_cons.mp nd).2 fun x hx => hl x (List.mem_cons_of_mem _ hx)
    show (([Sum.inr (κ a).1, Sum.inl (κ a).2] : List Key) :: (rowKs κ l).map Prod.snd).Nodup
    refine List.nodup_cons.mpr ⟨fun hm => ?_, ih⟩
    obtain ⟨q, hq, e⟩ := List.mem_map.mp hm
    obtain ⟨b, hb, rfl⟩ := List.mem_map.mp hq
    have e : ([Sum.inr (κ b).1, Sum.inl (κ b).2] : List Key) = [Sum.inr (κ a).1, Sum.inl (κ a).2] := e
    injection e with e1 e2
    injection e2 with e2 _
    injection e1 with e1
    injection e2 with e2
    have := RA.inj b (hl b (List.mem_cons_of_mem _ hb)) a (hl a List.mem_cons_self) (Prod.ext e1 e2)
    exact (List.nodup_cons.mp nd).1 (by rw [← this]; exact hb)
theorem kitTup : ∀ {K : PySem.W.Frag}, PySem.W.kitOne K (.type "tuple") (.type "tuple") = some true := kit_ty (by decide +kernel)
section
variable {P : Program} {wo : World} {A : Ad} {K : PySem.W.Frag} {mg : Str → Option Value} {base : Heap}
def spIc (K : PySem.W.Frag) : Sp := fun vs H Q _ => ∃ (G : Hp) (R : Res) (pl t wl : Addr) (rs : List Addr) (κ : Addr → Str × Int) (π : Addr → Addr × Addr) (pas gs c : List Addr) (st : Addr), vs = [.ref pl, .ref t, .ref wl] ∧ Wd G R H ∧ RowsAt G rs κ ∧ rs.length ≤ 12 ∧ G pl = some (.lst (pas.map V.ref)) ∧ pas.length ≤ 60 ∧ (∀ p ∈ pas, PrAt G p (π p) ∧ (π p).1 ∈ rs ∧ (π p).2 ∈ rs) ∧
  SqT K G t (c.map V.ref) ∧ G wl = some (.lst (gs.map V.ref)) ∧ (∀ a ∈ gs, a ∈ rs) ∧ Bfs.IsCyc (nxOf gs (srtOf κ π pas)) st c ∧ (∀ a ∈ c, a ∈ rs) ∧ ∀ G' H', Same G G' → Wd G' R H' → Q (.bl true) H'
theorem sc__law_is_cycle : FnScope (["_law_pairs_here", "_law_found", "_law_gone", "_law_pair", "_law_row"] : List Str) (["_law_pairs_here", "_law_found", "_law_gone"] : List Str) (defScope s__law_is_cycle) := ⟨rfl, rfl, rfl, by decide +kernel, rfl, by decide +kernel, by decide +kernel⟩
theorem ok_ic {f : Addr} {fd : FuncData} (F : Fun K "_law_is_cycle" "_law_is_cycle" s__law_is_cycle f fd) (T : Txt K mg A) : FnOk P wo K mg base (L2.CX P wo) 2 f fd (["_law_pairs_here", "_law_found", "_law_gone"] : List Str) (spIc K) := by
  refine okT F sc__law_is_cycle (fun vs H Q E h => ?_) (fun cdv Ar outer s H vs Q E hr tk po h => ?_)
  · obtain ⟨_, _, _, _, _, _, _, _, _, _, _, _, rfl, _⟩ := h
    rfl
  obtain ⟨G, R, pl, t, wl, rs, κ, π, pas, gs, c, st, rfl, w, RA, hrs, hpl, lp, hpr, ht, hwl, hgs, hc, hcr, k⟩ := h
  have c2 := cyc_two hc
  have c12 : c.length ≤ 12 := Nat.le_trans (List.Nodup.length_le_of_subset hc.nd hcr) hrs
  refine ⟨_, (pss_cons (ps_if (PW.pt (pw_or (pt_not (kt_truth K (pe_callB (ka_isi K) (by rfl) T.nb_isinstance (by decide +kernel) (pa_cons (pv 1) (pa_cons (pe_bltn (v := .ty "tuple") (u := .type "tuple") (by rfl) T.nb_tuple (by decide +kernel) rfl) pa_nil))) (by intro _; rfl))) (pw_or (pt_cmpR op_lt (pe_callB (ka_len K) (by rfl) T.nb_len (by decide +kernel) (pa_cons (pv 1) pa_nil)) pe_int (nomark _)) (pw_or1 (pt_cmpR op_lt (pe_lenSetR K rfl (hu32 hr) (by rfl) T.nb_len (by rfl) T.nb_set (pv 1)) (pe_callB (ka_len K) (by rfl) T.nb_len (by decide +kernel) (pa_cons (pv 1) pa_nil)) (nomark _)))))) (pss_one (ps_ret pe_bl)) pss_nil)
      (pss_cons (ps_if (pt_cmpR (op_neL0 K hr.units) (pe_lc (own := [("_law_row", 4)]) (g := (gName 4)) (tt := _) rfl sc__law_is_cycle.nd (ki_tup K (pv 1)) (blkOk_by (N := (["_law_pairs_here", "_law_found", "_law_gone", "_law_pair", "_law_row"] : List Str)) (sc := defScope s__law_is_cycle) (by decide +kernel)) (fun _ _ _ _ _ => (pg_name (i := 4) sc__law_is_cycle.nd rfl (by first | exact Or.inl rfl | exact Or.inr rfl))) (fun _ _ _ _ _ => (pts_one (pt_cmpR (ka_inDL K (Nat.lt_of_le_of_lt (Nat.add_le_add_left (by decide : 65 ≤ 120) _) (hu120 hr))) (pv 4) (pv 2) (by first | exact nomark _ | rfl)))) (fun _ _ _ _ _ => (pv 4))) (pe_lst pa_nil) (nomark _)) (pss_one (ps_ret pe_bl)) pss_nil)
      (pss_one (ps_ret (pe_cmpR (op_eqL0 K hr.units) (pe_lc (own := [("_law_pair", 3)]) (g := (gName 3)) (tt := _) rfl sc__law_is_cycle.nd (pi_zipN K (by rfl) T.nb_zip (pa_cons (pv 1) (pa_cons (pe_op (ka_add K) (pe_slice (ka_sl K) (pv 1) (po_some pe_int) po_none) (pe_slice (ka_sl K) (pv 1) po_none (po_some pe_int))) pa_nil))) (blkOk_by (N := (["_law_pairs_here", "_law_found", "_law_gone", "_law_pair", "_law_row"] : List Str)) (sc := defScope s__law_is_cycle) (by decide +kernel)) (fun _ _ _ _ _ => (pg_name (i := 3) sc__law_is_cycle.nd rfl (by first | exact Or.inl rfl | exact Or.inr rfl))) (fun _ _ _ _ _ => (pts_one (pt_cmpR (ka_niDL K (Nat.lt_of_le_of_lt (Nat.add_le_add_left (by decide : 65 ≤ 120) _) (hu120 hr))) (pv 3) (pv 0) (by first | exact nomark _ | rfl)))) (fun _ _ _ _ _ => (pv 3))) (pe_lst pa_nil) (nomark _)))))), ?_⟩
  walk_at "go"
  refine g_isi (.ty _) (tyX_tup (Evl.ex_t w.sub ht)) kitTup ?_
  walk_at "go"
  refine g_lenT w ht ?_
  walk_at "go"
  rw [List.length_map, if_neg (by rw [decide_eq_true_eq]; omega)]
  walk_at "go"
  refine g_lsR ?_
  walk_at "go"
  have hks : ((rowKs κ c).map fun p => V.ref p.1) = c.map V.ref := by unfold rowKs; rw [List.map_map]; rfl
  refine ⟨t, rowKs κ c, rfl, by rw [hks]; exact Evl.ex_t w.sub ht, fun p hp => ?_, by unfold rowKs; rw [List.length_map]; omega, rowKs_nd RA c hc.nd hcr, ?_⟩
  · obtain ⟨a, ha, rfl⟩ := List.mem_map.mp hp
    exact SqT.of (w.get (RA.at_ a (hcr a ha)))
  unfold rowKs
  rw [List.length_map]
  walk_at "go"
  refine g_lenT w ht ?_
  walk_at "go"
  rw [List.length_map, if_neg (by rw [decide_eq_true_eq]; omega)]
  walk_at "go"
  refine ⟨t, rfl, ⟨_, Evl.ex_t w.sub ht⟩, ?_⟩
  refine lc_it (itf_tup (xs := c.map V.ref)) w (fun H e => Evl.ex_t e ht) (by rw [sizeLine_eq, List.length_map]; omega) (fun i G acc => acc = []) rfl ?_ ?_
  · rintro j y Gj acc D2 Ha Hb hjl ej2 nD2 hacc ha2 wj ⟨rfl, hy⟩
    rw [List.getElem?_map] at hy
    obtain ⟨a, ha, rfl⟩ := Option.map_eq_some_iff.mp hy
    have eD2 := Same.trans ej2 (Same.newG nD2 (o := .lst acc))
    have ma := List.mem_of_getElem? ha
    walk_at "go"
    refine ⟨rfl, ?_⟩
    walk_at "go"
    refine g_inR (RA.same eD2) wj (hcr a ma) (SqL.of (eD2 _ _ hwl)) hgs ?_
    rw [decide_eq_false (cyc_out hc a ma)]
    walk_at "go"
    exact lc_drop (Pv := fun i G acc => acc = []) wj ej2 nD2 ha2 hacc
  rintro D2 Gn2 acc2 Ha2 ej2 nD2 hacc ha2 w2
  subst hacc
  have s2 : Same G (upd Gn2 D2 (.lst [])) := Same.trans ej2 (Same.newG nD2)
  have hD2 : upd Gn2 D2 (.lst []) D2 = some (.lst []) := upd_same
  generalize upd Gn2 D2 (.lst []) = G2 at *
  walk_at "go"
  refine g_newL w2 (by walk_at "sz") fun p3 H3 n3 w3 => ?_
  refine g_neL0 w3 (SqL.of (upd_old hD2 n3)) (SqL.of upd_same) ?_
  replace w3 := w3.drop (Same.newG n3)
  walk_at "go"
  refine iteNT ?_
  walk_at "go"
  refine g_lcZ ?_
  walk_at "go"
  have ht2 := Evl.ex_t s2 ht
  have lcr : (c.map V.ref).length = c.length := List.length_map _
  refine g_slT w3 ht2 (lo := some ((1 : Nat) : Int)) (hi := none) (fun z => absurd (z.1.symm.trans (HT.sIx_nat _ _ 1)) (by rw [lcr]; omega)) fun p4 H4 n4 w4 => ?_
  rw [cut_from, ← List.map_drop] at w4
  have s4 : Same G2 (upd G2 p4 (.tup ((c.drop 1).map V.ref))) := Same.newG n4
  have hp4 : upd G2 p4 (.tup ((c.drop 1).map V.ref)) p4 = some (.tup ((c.drop 1).map V.ref)) := upd_same
  generalize upd G2 p4 (.tup ((c.drop 1).map V.ref)) = G4 at *
  walk_at "go"
  refine g_slT w4 (Evl.ex_t s4 ht2) (lo := none) (hi := some ((1 : Nat) : Int)) (fun z => absurd (z.2.symm.trans (HT.sIx_nat _ _ 1)) (by rw [lcr]; omega)) fun p5 H5 n5 w5 => ?_
  rw [cut_to, ← List.map_take] at w5
  have s5 : Same G4 (upd G4 p5 (.tup ((c.take 1).map V.ref))) := Same.newG n5
  have hp5 : upd G4 p5 (.tup ((c.take 1).map V.ref)) p5 = some (.tup ((c.take 1).map V.ref)) := upd_same
  generalize upd G4 p5 (.tup ((c.take 1).map V.ref)) = G5 at *
  walk_at "go"
  have ld : (c.drop 1).length = c.length - 1 := List.length_drop ..
  have lt1 : (c.take 1).length = 1 := by rw [List.length_take]; omega
  refine g_addT w5 (SqT.of (s5 _ _ hp4)) (SqT.of hp5) (fun e => by have := congrArg List.length e; rw [List.length_map, ld, List.length_nil] at this; omega) (fun e => by have := congrArg List.length e; rw [List.length_map, lt1, List.length_nil] at this; omega) (by rw [List.length_map, List.length_map, ld, lt1, sizeLine_eq]; omega) fun p6 H6 n6 w6 => ?_
  rw [← List.map_append] at w6
  have s6 : Same G5 (upd G5 p6 (.tup ((c.drop 1 ++ c.take 1).map V.ref))) := Same.newG n6
  have hp6 : upd G5 p6 (.tup ((c.drop 1 ++ c.take 1).map V.ref)) p6 = some (.tup ((c.drop 1 ++ c.take 1).map V.ref)) := upd_same
  generalize upd G5 p6 (.tup ((c.drop 1 ++ c.take 1).map V.ref)) = G6 at *
  have s06 : Same G G6 := Same.trans s2 (Same.trans s4 (Same.trans s5 s6))
  have RA6 := RA.same s06
  have hpr6 : ∀ p ∈ pas, PrAt G6 p (π p) ∧ (π p).1 ∈ rs ∧ (π p).2 ∈ rs := fun p hp => ⟨s06 _ _ (hpr p hp).1, (hpr p hp).2⟩
  have ll : (c.map V.ref).length = ((c.drop 1 ++ c.take 1).map V.ref).length := by rw [List.length_map, List.length_map, List.length_append, ld, lt1]; omega
  walk_at "go"
  refine ⟨t, p6, c.map V.ref, (c.drop 1 ++ c.take 1).map V.ref, true, rfl, Evl.ex_t (Same.trans s06 w6.sub) ht, SqT.of (w6.get hp6), ?_⟩
  refine lc_it (itf_zipb (t := true) ll) w6 (fun H e => ⟨Evl.ex_t (Same.trans s06 e) ht, SqT.of (e _ _ hp6)⟩) (by rw [List.length_map, sizeLine_eq]; omega) (fun i G acc => acc = []) rfl ?_ ?_
  · rintro j v Gj acc D7 Ha Hb hjl ej7 nD7 hacc ha7 wj ⟨tt, vx, vy, rfl, nt, rfl, hx, hy⟩
    rw [List.getElem?_map] at hx hy
    obtain ⟨x, kx, rfl⟩ := Option.map_eq_some_iff.mp hx
    obtain ⟨y, ky, rfl⟩ := Option.map_eq_some_iff.mp hy
    have mx := hcr x (List.mem_of_getElem? kx)
    have my : y ∈ rs := by
      refine hcr y ?_
      rcases List.mem_append.mp (List.mem_of_getElem? ky) with m | m
      · exact List.mem_of_mem_drop m
      · exact List.mem_of_mem_take m
    have gt := wj.free nt
    have t7 : tt ≠ D7 := fun e => by rw [e, upd_same] at gt; cases gt
    have gj : Gj tt = none := by rwa [upd_ne t7] at gt
    have w8 := wj.new (o := .tup [V.ref x, V.ref y]) nt
    rw [upd_comm t7] at w8
    have eT : Same Gj (upd Gj tt (.tup [V.ref x, V.ref y])) := Same.newG gj
    have nD8 : upd Gj tt (.tup [V.ref x, V.ref y]) D7 = none := by rw [upd_ne (Ne.symm t7)]; exact nD7
    have hT : upd Gj tt (.tup [V.ref x, V.ref y]) tt = some (.tup [V.ref x, V.ref y]) := upd_same
    generalize upd Gj tt (.tup [V.ref x, V.ref y]) = G8 at *
    have e8 := Same.trans ej7 eT
    have e9 := Same.trans e8 (Same.newG nD8 (o := .lst acc))
    obtain ⟨hS, _⟩ := nxOf_mem.mp (cyc_ring hc j x y kx ky)
    obtain ⟨p, hp, ep⟩ := srt_mem hS
    walk_at "go"
    refine ⟨rfl, ?_⟩
    walk_at "go"
    refine g_niP (π := π) (x := (x, y)) (RA6.same e9) w8 (show PrAt _ tt (x, y) from Same.newG nD8 _ _ hT) mx my (SqL.of (e9 _ _ (s06 _ _ hpl))) (fun p hp => ⟨e9 _ _ (hpr6 p hp).1, (hpr6 p hp).2⟩) ?_
    rw [decide_eq_true (show (x, y) ∈ pas.map π from List.mem_map.mpr ⟨p, hp, ep⟩)]
    walk_at "go"
    exact lc_drop (Pv := fun i G acc => acc = []) w8 e8 nD8 ha7 hacc
  rintro D7 Gn7 acc7 Ha7 ej7 nD7 hacc ha7 w7
  subst hacc
  have s7 : Same G6 (upd Gn7 D7 (.lst [])) := Same.trans ej7 (Same.newG nD7)
  have hD7 : upd Gn7 D7 (.lst []) D7 = some (.lst []) := upd_same
  generalize upd Gn7 D7 (.lst []) = G7 at *
  walk_at "go"
  refine g_newL w7 (by walk_at "sz") fun p8 H8 n8 w8 => ?_
  refine g_eqL0 w8 (SqL.of (upd_old hD7 n8)) (SqL.of upd_same) ?_
  replace w8 := w8.drop (Same.newG n8)
  walk_at "go"
  exact k _ _ (Same.trans s06 s7) w8
end
abbrev Wks := List (Addr × (Addr × Addr))
def kvW (κ : Addr → Str × Int) (M : Wks) : NKvs := M.map fun x => (prk (κ x.2.1, κ x.2.2), x.1, .bl true)
structure WkOk (G : Hp) (rs : List Addr) (M : Wks) : Prop where
  at_ : ∀ x ∈ M, PrAt G x.1 x.2 ∧ x.2.1 ∈ rs ∧ x.2.2 ∈ rs
  nd : (M.map Prod.snd).Nodup
theorem WkOk.same {G G' : Hp} {rs : List Addr} {M : Wks} (o : WkOk G rs M) (e : Same G G') : WkOk G' rs M := ⟨fun x hx => ⟨e _ _ (o.at_ x hx).1, (o.at_ x hx).2⟩, o.nd⟩
theorem WkOk.nil {G : Hp} {rs : List Addr} : WkOk G rs [] := ⟨fun x hx => absurd hx List.not_mem_nil, List.nodup_nil⟩
def putW (M : Wks) (t : Addr) (y : Addr × Addr) : Wks := if y ∈ M.map Prod.snd then M else M ++ [(t, y)]
theorem putW_mem {M : Wks} {t : Addr} {y z : Addr × Addr} : z ∈ (putW M t y).map Prod.snd ↔ z ∈ M.map Prod.snd ∨ z = y := by
  unfold putW
  split
  · rename_i h
    exact ⟨.inl, fun z => z.elim id fun e => e ▸ h⟩
  · rw [List.map_append, List.mem_append]
    exact or_congr_right List.mem_singleton
theorem WkOk.put {G G' : Hp} {rs : List Addr} {M : Wks} (o : WkOk G rs M) (e : Same G G') {t : Addr} {y : Addr × Addr} (ht : PrAt G' t y) (h1 : y.1 ∈ rs) (h2 : y.2 ∈ rs) : WkOk G' rs (putW M t y) := by
  have o := o.same e
  unfold putW
  split
  · exact o
  · rename_i hn
    refine ⟨fun x hx => ?_, ?_⟩
    · rcases List.mem_append.mp hx with hx | hx
      · exact o.at_ x hx
      · rw [List.mem_singleton.mp hx]
        exact ⟨ht, h1, h2⟩
    · rw [List.map_append, List.nodup_append]
      refine ⟨o.nd, by simp, fun x hx z hz q => ?_⟩
      rw [List.mem_singleton.mp hz] at q
      have q : x = y := q
      exact hn (q ▸ hx)
theorem kvW_mem {G G' : Hp} {rs : List Addr} {κ : Addr → Str × Int} (RA : RowsAt G' rs κ) {M : Wks} (o : WkOk G rs M) {y : Addr × Addr} (h1 : y.1 ∈ rs) (h2 : y.2 ∈ rs) : prk (κ y.1, κ y.2) ∈ (kvW κ M).map Prod.fst ↔ y ∈ M.map Prod.snd := by
  unfold kvW
  rw [List.map_map]
  constructor
  · intro h
    obtain ⟨x, hx, e⟩ := List.mem_map.mp h
    have e := prk_inj (show prk (κ x.2.1, κ x.2.2) = _ from e)
    obtain ⟨_, x1, x2⟩ := o.at_ x hx
    rw [← Prod.ext (RA.inj _ x1 _ h1 (congrArg Prod.fst e)) (RA.inj _ x2 _ h2 (congrArg Prod.snd e))]
    exact List.mem_map_of_mem hx
  · intro h
    obtain ⟨x, hx, rfl⟩ := List.mem_map.mp h
    exact List.mem_map.mpr ⟨x, hx, rfl⟩
theorem put_kvW {G G' : Hp} {rs : List Addr} {κ : Addr → Str × Int} (RA : RowsAt G' rs κ) {M : Wks} (o : WkOk G rs M) {t : Addr} {y : Addr × Addr} (h1 : y.1 ∈ rs) (h2 : y.2 ∈ rs) : putN (kvW κ M) (prk (κ y.1, κ y.2)) t (.bl true) = kvW κ (putW M t y) := by
  unfold putN putW
  by_cases h : y ∈ M.map Prod.snd
  · rw [if_pos (valN_mem.mpr ((kvW_mem RA o h1 h2).mpr h)), if_pos h]
    unfold kvW
    rw [List.map_map]
    refine List.map_congr_left fun x _ => ?_
    show putAtN _ _ _ = _
    unfold putAtN
    split <;> rfl
  · rw [if_neg (fun z => h ((kvW_mem RA o h1 h2).mp (valN_mem.mp z))), if_neg h]
    unfold kvW
    rw [List.map_append]
    rfl
theorem kvW_keys {G : Hp} {rs : List Addr} {κ : Addr → Str × Int} (RA : RowsAt G rs κ) {M : Wks} (o : WkOk G rs M) : NKeys G (kvW κ M) := fun q hq => by
  obtain ⟨x, hx, rfl⟩ := List.mem_map.mp hq
  obtain ⟨h1, h2, h3⟩ := o.at_ x hx
  exact ⟨PrAt.key RA h1 h2 h3, prk_depth _⟩
def allW (π : Addr → Addr × Addr) (ps : List Addr) (M : Wks) : Wks := ps.foldl (fun M p => putW M p (π p)) M
theorem all_kvW {G : Hp} {rs : List Addr} {κ : Addr → Str × Int} (RA : RowsAt G rs κ) {π : Addr → Addr × Addr} : ∀ (ps : List Addr) (M : Wks), WkOk G rs M → (∀ p ∈ ps, PrAt G p (π p) ∧ (π p).1 ∈ rs ∧ (π p).2 ∈ rs) → allN (prPs κ π ps) (kvW κ M) = kvW κ (allW π ps M) ∧ WkOk G rs (allW π ps M) ∧ ∀ z, z ∈ (allW π ps M).map Prod.snd ↔ z ∈ M.map Prod.snd ∨ ∃ p ∈ ps, π p = z
  | [], M, o, _ => ⟨rfl, o, fun z => by
    show z ∈ M.map Prod.snd ↔ _
    simp⟩
  | p :: ps, M, o, h => by
    obtain ⟨h1, h2, h3⟩ := h p List.mem_cons_self
    obtain ⟨k1, k2, k3⟩ := all_kvW RA ps (putW M p (π p)) (o.put (Same.refl G) h1 h2 h3) fun q hq => h q (List.mem_cons_of_mem _ hq)
    refine ⟨?_, k2, fun z => ?_⟩
    · show allN (prPs κ π ps) (putN (kvW κ M) (prk (κ (π p).1, κ (π p).2)) p (.bl true)) = _
      rw [put_kvW RA o h2 h3]
      exact k1
    · show z ∈ (allW π ps (putW M p (π p))).map Prod.snd ↔ _
      rw [k3, putW_mem, or_assoc]
      refine or_congr_right ?_
      constructor
      · rintro (rfl | ⟨q, m1, m2⟩)
        · exact ⟨p, List.mem_cons_self, rfl⟩
        · exact ⟨q, List.mem_cons_of_mem _ m1, m2⟩
      · rintro ⟨q, m1, m2⟩
        rcases List.mem_cons.mp m1 with rfl | m1
        · exact .inl m2.symm
        · exact .inr ⟨q, m1, m2⟩
theorem WkOk.len {G : Hp} {rs : List Addr} {M : Wks} (o : WkOk G rs M) (h : rs.length ≤ 12) : M.length ≤ 144 := by
  have h1 : (M.map Prod.snd).length ≤ (rs.flatMap fun a => rs.map fun b => (a, b)).length := List.Nodup.length_le_of_subset o.nd fun y hy => by
    obtain ⟨x, hx, rfl⟩ := List.mem_map.mp hy
    obtain ⟨_, h2, h3⟩ := o.at_ x hx
    exact List.mem_flatMap.mpr ⟨x.2.1, h2, List.mem_map.mpr ⟨x.2.2, h3, rfl⟩⟩
  have h2 : ∀ (l : List Addr), (l.flatMap fun a => rs.map fun b => (a, b)).length = l.length * rs.length := fun l => by
    induction l with
    | nil => simp
    | cons a l ih => rw [List.flatMap_cons, List.length_append, ih, List.length_map, List.length_cons, Nat.succ_mul, Nat.add_comm]
  rw [h2, List.length_map] at h1
  exact Nat.le_trans h1 (Nat.mul_le_mul h h)
def stepOf (left : List Addr) (y : Addr × Addr) : Bool := decide (y.1 ∈ left) && (decide (y.2 ∈ left) && !decide (y.1 = y.2))
def nxS (π : Addr → Addr × Addr) (ss : List Addr) (a : Addr) : List Addr := (ss.filter fun p => decide ((π p).1 = a)).map fun p => (π p).2
theorem nxS_mem {π : Addr → Addr × Addr} {ss : List Addr} {a b : Addr} : b ∈ nxS π ss a ↔ ∃ p ∈ ss, π p = (a, b) := by
  unfold nxS
  rw [List.mem_map]
  constructor
  · rintro ⟨p, hp, rfl⟩
    obtain ⟨h1, h2⟩ := List.mem_filter.mp hp
    exact ⟨p, h1, Prod.ext (of_decide_eq_true h2) rfl⟩
  · rintro ⟨p, hp, e⟩
    exact ⟨p, List.mem_filter.mpr ⟨hp, by rw [e]; exact decide_eq_true rfl⟩, by rw [e]⟩
theorem walk_one {nx : Addr → List Addr} {a b : Addr} : Bfs.Walk nx 1 a b ↔ b ∈ nx a := by
  constructor
  · intro h
    cases h with
    | step h1 h2 => cases h1; exact h2
  · exact fun h => .step (.nil a) h
theorem walk_snoc {nx : Addr → List Addr} {n : Nat} {a b : Addr} : Bfs.Walk nx (n + 1) a b ↔ ∃ c, Bfs.Walk nx n a c ∧ b ∈ nx c := by
  constructor
  · intro h
    cases h with
    | step h1 h2 => exact ⟨_, h1, h2⟩
  · rintro ⟨c, h1, h2⟩
    exact .step h1 h2
theorem walk_iff {nx nx' : Addr → List Addr} (h : ∀ a b, b ∈ nx a ↔ b ∈ nx' a) : ∀ {n : Nat} {a b : Addr}, Bfs.Walk nx n a b ↔ Bfs.Walk nx' n a b := fun {n a b} => by
  induction n generalizing b with
  | zero =>
    constructor <;> (intro h; cases h; exact .nil _)
  | succ n ih =>
    rw [walk_snoc, walk_snoc]
    constructor <;> rintro ⟨c, h1, h2⟩
    · exact ⟨c, ih.mp h1, (h _ _).mp h2⟩
    · exact ⟨c, ih.mpr h1, (h _ _).mpr h2⟩
theorem least_iff {nx nx' : Addr → List Addr} (h : ∀ a b, b ∈ nx a ↔ b ∈ nx' a) {N : Nat} : ∀ {o : Option Nat}, Bfs.LeastAt nx N o → Bfs.LeastAt nx' N o
  | none, k => fun m h1 h2 a w => k m h1 h2 a ((walk_iff h).mpr w)
  | some n, ⟨h1, h2, ⟨a, w⟩, h3⟩ => ⟨h1, h2, ⟨a, (walk_iff h).mp w⟩, fun m m1 m2 a w => h3 m m1 m2 a ((walk_iff h).mpr w)⟩
theorem least_up {nx : Addr → List Addr} {left : List Addr} (cl : ∀ a, ∀ b ∈ nx a, b ∈ left) {N : Nat} (hN : left.length ≤ N) : ∀ {o : Option Nat}, Bfs.LeastAt nx left.length o → Bfs.LeastAt nx N o
  | some n, ⟨h1, h2, h3, h4⟩ => ⟨h1, Nat.le_trans h2 hN, h3, h4⟩
  | none, k => fun m h1 _ a w => by
    have ha : a ∈ left := by
      obtain ⟨m, rfl⟩ : ∃ n, m = n + 1 := ⟨m - 1, by omega⟩
      obtain ⟨c, _, hc⟩ := walk_snoc.mp w
      exact cl _ _ hc
    rcases Bfs.cyc_spec cl ha with ⟨_, h⟩ | ⟨c, _, hc, hm⟩
    · exact h m h1 w
    · exact k c.length hc.l1 (List.Nodup.length_le_of_subset hc.nd fun x hx => hm x hx) a hc.walk
def leastV : Option Nat → V
  | none => .non
  | some n => .int (n : Int)
theorem at20 {x y : V} : atI [x, y] 0 = some x := rfl
theorem at21 {x y : V} : atI [x, y] 1 = some y := rfl
section
variable {P : Program} {wo : World} {A : Ad} {K : PySem.W.Frag} {mg : Str → Option Value} {base : Heap}
def spLl (K : PySem.W.Frag) (P : Program) (wo : World) : Sp := fun vs H Q _ => ∃ (G : Hp) (R : Res) (pl rl : Addr) (rs : List Addr) (κ : Addr → Str × Int) (π : Addr → Addr × Addr) (pas left : List Addr), vs = [.ref pl, .ref rl] ∧ Wd G R H ∧ RowsAt G rs κ ∧ rs.length ≤ 12 ∧ G pl = some (.lst (pas.map V.ref)) ∧ G rl = some (.lst (left.map V.ref)) ∧ pas.length ≤ 60 ∧ left.length ≤ 12 ∧
  (∀ p ∈ pas, PrAt G p (π p) ∧ (π p).1 ∈ rs ∧ (π p).2 ∈ rs) ∧ (∀ a ∈ left, a ∈ rs) ∧ ∀ o, Bfs.LeastAt (nxS π (pas.filter fun p => stepOf left (π p))) left.length o → ∀ G' H', Same G G' → Wd G' R H' → Q (leastV o) H'
theorem sc__law_least : FnScope (["_law_pairs_here", "_law_rows", "_law_pair", "_law_steps", "_law_walks", "_law_length", "_law_longer", "_law_begin", "_law_end"] : List Str) (["_law_pairs_here", "_law_rows"] : List Str) (defScope s__law_least) := ⟨rfl, rfl, rfl, by decide +kernel, rfl, by decide +kernel, by decide +kernel⟩
theorem ok_ll {f : Addr} {fd : FuncData} (F : Fun K "_law_least" "_law_least" s__law_least f fd) (T : Txt K mg A) : FnOk P wo K mg base (L2.CX P wo) 2 f fd (["_law_pairs_here", "_law_rows"] : List Str) (spLl K P wo) := by
  refine okT F sc__law_least (fun vs H Q E h => ?_) (fun cdv Ar outer s H vs Q E hr tk po h => ?_)
  · obtain ⟨_, _, _, _, _, _, _, _, _, rfl, _⟩ := h
    rfl
  obtain ⟨G, R, pl, rl, rs, κ, π, pas, left, rfl, w, RA, hrs, hpl, hrl, lp, ll, hpr, hlf, k⟩ := h
  refine ⟨_, (pss_cons (ps_setLc (i := 3) (own := [("_law_pair", 2)]) (g := (gName 2)) (tt := _) rfl sc__law_least.nd rfl rfl (sw_true rfl rfl rfl (by decide +kernel)) (ki_list K (pv 0)) (blkOk_by (N := (["_law_pairs_here", "_law_rows", "_law_pair", "_law_steps", "_law_walks", "_law_length", "_law_longer", "_law_begin", "_law_end"] : List Str)) (sc := defScope s__law_least) (by decide +kernel)) (fun _ _ _ _ _ => (pg_name (i := 2) sc__law_least.nd rfl (by first | exact Or.inl rfl | exact Or.inr rfl))) (fun _ _ _ _ _ => (pts_one (PW.pt (pw_and (pt_cmpR (ka_inDL K (Nat.lt_of_le_of_lt (Nat.add_le_add_left (by decide : 65 ≤ 120) _) (hu120 hr))) (pe_ix (ka_ix K) (pv 2) pe_int (fun _ _ => rfl)) (pv 1) (by first | exact nomark _ | rfl)) (pw_and (pt_cmpR (ka_inDL K (Nat.lt_of_le_of_lt (Nat.add_le_add_left (by decide : 65 ≤ 120) _) (hu120 hr))) (pe_ix (ka_ix K) (pv 2) pe_int (fun _ _ => rfl)) (pv 1) (by first | exact nomark _ | rfl)) (pw_and1 (pt_cmpR (ka_ne K hr.units) (pe_ix (ka_ix K) (pv 2) pe_int (fun _ _ => rfl)) (pe_ix (ka_ix K) (pv 2) pe_int (fun _ _ => rfl)) (nomark _)))))))) (fun _ _ _ _ _ => (pv 2)))
      (pss_cons (ps_set (i := 4) sc__law_least.nd rfl (by first | exact Or.inl rfl | exact Or.inr rfl) (pe_callTy (ka_dictN P wo rfl (hu32 hr)) (by rfl) T.nb_dict (by decide +kernel) (pa_cons (pe_lc (own := [("_law_pair", 2)]) (g := (gName 2)) (tt := tYes) rfl sc__law_least.nd (ki_list K (pv 3)) (blkOk_by (N := (["_law_pairs_here", "_law_rows", "_law_pair", "_law_steps", "_law_walks", "_law_length", "_law_longer", "_law_begin", "_law_end"] : List Str)) (sc := defScope s__law_least) (by decide +kernel)) (fun _ _ _ _ _ => (pg_name (i := 2) sc__law_least.nd rfl (by first | exact Or.inl rfl | exact Or.inr rfl))) (fun _ _ _ _ _ => pts_nil) (fun _ _ _ _ _ => (pe_tup (pa_cons (pv 2) (pa_cons pe_bl pa_nil))))) pa_nil)))
      (pss_cons (ps_for po rfl (pi_range2 (by rfl) T.nb_range (pa_cons pe_int (pa_cons (pe_op (ka_add K) (pe_callB (ka_len K) (by rfl) T.nb_len (by decide +kernel) (pa_cons (pv 1) pa_nil)) pe_int) pa_nil))) (pg_name (i := 5) sc__law_least.nd rfl (by first | exact Or.inl rfl | exact Or.inr rfl)) (pss_cons (ps_set (i := 6) sc__law_least.nd rfl (by first | exact Or.inl rfl | exact Or.inr rfl) (ke_dnewN P wo))
      (pss_cons (ps_lock (ps_for po rfl (ki_keysN P wo (pv 4)) (kg_tup (n := 2) K rfl (pgs_cons (pg_name (i := 7) sc__law_least.nd rfl (by first | exact Or.inl rfl | exact Or.inr rfl)) (pgs_cons (pg_name (i := 8) sc__law_least.nd rfl (by first | exact Or.inl rfl | exact Or.inr rfl)) pgs_nil))) (pss_one (ps_for po rfl (ki_list K (pv 3)) (pg_name (i := 2) sc__law_least.nd rfl (by first | exact Or.inl rfl | exact Or.inr rfl)) (pss_one (ps_if (pt_cmpR (ka_eq K hr.units) (pe_ix (ka_ix K) (pv 2) pe_int (fun _ _ => rfl)) (pv 8) (nomark _)) (pss_one (ps_asg pe_bl (pg_sub (pv 6) (pe_tup (pa_cons (pv 7) (pa_cons (pe_ix (ka_ix K) (pv 2) pe_int (fun _ _ => rfl)) pa_nil))) (ka_setN P wo (hu16 hr))))) pss_nil))))))
      (pss_cons (ps_set (i := 4) sc__law_least.nd rfl (by first | exact Or.inl rfl | exact Or.inr rfl) (pv 6))
      (pss_one (ps_if (pt_cmpR (op_neL0 K hr.units) (pe_lock (pe_lc (own := [("_law_pair", 2)]) (g := (gName 2)) (tt := _) rfl sc__law_least.nd (ki_keysN P wo (pv 4)) (blkOk_by (N := (["_law_pairs_here", "_law_rows", "_law_pair", "_law_steps", "_law_walks", "_law_length", "_law_longer", "_law_begin", "_law_end"] : List Str)) (sc := defScope s__law_least) (by decide +kernel)) (fun _ _ _ _ _ => (pg_name (i := 2) sc__law_least.nd rfl (by first | exact Or.inl rfl | exact Or.inr rfl))) (fun _ _ _ _ _ => (pts_one (pt_cmpR (ka_eq K hr.units) (pe_ix (ka_ix K) (pv 2) pe_int (fun _ _ => rfl)) (pe_ix (ka_ix K) (pv 2) pe_int (fun _ _ => rfl)) (nomark _)))) (fun _ _ _ _ _ => (pv 2)))) (pe_lst pa_nil) (nomark _)) (pss_one (ps_ret (pv 5))) pss_nil))))))
      (pss_one (ps_ret pe_non))))), ?_⟩
  walk_at "go"
  refine ⟨pl, rfl, ⟨_, SqL.of (w.get hpl)⟩, ?_⟩
  refine lc_it (itf_list (xs := pas.map V.ref)) w (fun H e => SqL.of (e _ _ hpl)) (by rw [sizeLine_eq, List.length_map]; omega) (fun i G acc => acc = ((pas.take i).filter fun p => stepOf left (π p)).map V.ref) rfl ?_ ?_
  · rintro j y Gj acc D2 Ha Hb hjl ej2 nD2 hacc ha2 wj ⟨rfl, hy⟩
    rw [List.length_map] at hjl
    obtain ⟨p, hp, rfl⟩ : ∃ p, pas[j]? = some p ∧ y = .ref p := by
      rw [List.getElem?_map] at hy
      cases hg : pas[j]? with
      | none => rw [hg] at hy; cases hy
      | some p => rw [hg] at hy; cases hy; exact ⟨p, rfl, rfl⟩
    obtain ⟨hp1, hp2, hp3⟩ := hpr p (List.mem_of_getElem? hp)
    have eD2 := Same.trans ej2 (Same.newG nD2 (o := .lst acc))
    have htk : pas.take (j + 1) = pas.take j ++ [p] := by
      rw [List.take_add_one, hp]
      rfl
    have no : stepOf left (π p) = false → acc = ((pas.take (j + 1)).filter fun p => stepOf left (π p)).map V.ref := fun e => by
      rw [htk, List.filter_append, List.filter_cons_of_neg (by rw [e]; exact Bool.false_ne_true), List.filter_nil, List.append_nil]
      exact hacc
    have qp : SqT K (upd Gj D2 (.lst acc)) p [.ref (π p).1, .ref (π p).2] := SqT.of (eD2 _ _ hp1)
    have RAj := RA.same eD2
    walk_at "go"
    refine ⟨rfl, ?_⟩
    walk_at "go"
    refine g_ixT wj qp at20 ?_
    walk_at "go"
    refine g_inR RAj wj hp2 (SqL.of (eD2 _ _ hrl)) hlf ?_
    by_cases h1 : (π p).1 ∈ left
    case neg =>
      rw [decide_eq_false h1]
      walk_at "go"
      exact lc_drop (Pv := fun i G acc => acc = ((pas.take i).filter fun p => stepOf left (π p)).map V.ref) wj ej2 nD2 ha2 (no (by unfold stepOf; rw [decide_eq_false h1]; rfl))
    rw [decide_eq_true h1]
    walk_at "go"
    refine g_ixT wj qp at21 ?_
    walk_at "go"
    refine g_inR RAj wj hp3 (SqL.of (eD2 _ _ hrl)) hlf ?_
    by_cases h2 : (π p).2 ∈ left
    case neg =>
      rw [decide_eq_false h2]
      walk_at "go"
      exact lc_drop (Pv := fun i G acc => acc = ((pas.take i).filter fun p => stepOf left (π p)).map V.ref) wj ej2 nD2 ha2 (no (by unfold stepOf; rw [decide_eq_false h2, Bool.false_and, Bool.and_false]))
    rw [decide_eq_true h2]
    walk_at "go"
    refine g_ixT wj qp at20 ?_
    walk_at "go"
    refine g_ixT wj qp at21 ?_
    walk_at "go"
    refine g_neD (RAj.dp wj hp2) (RAj.dp wj hp3) (rowD_shaped (RAj.ok _ hp2)) (rowD_shaped (RAj.ok _ hp3)) ?_
    rw [rowD_eqv]
    by_cases h3 : (π p).1 = (π p).2
    · rw [decide_eq_true (show κ (π p).1 = κ (π p).2 by rw [h3])]
      walk_at "go"
      exact lc_drop (Pv := fun i G acc => acc = ((pas.take i).filter fun p => stepOf left (π p)).map V.ref) wj ej2 nD2 ha2 (no (by unfold stepOf; rw [decide_eq_true h3, Bool.not_true, Bool.and_false, Bool.and_false]))
    rw [decide_eq_false (show κ (π p).1 ≠ κ (π p).2 from fun h => h3 (RAj.inj _ hp2 _ hp3 h))]
    walk_at "go"
    refine lc_keep (n := (pas.map V.ref).length) (Pv := fun i G acc => acc = ((pas.take i).filter fun p => stepOf left (π p)).map V.ref) wj ej2 nD2 ha2 (by rw [List.length_map]; exact hjl) (by rw [sizeLine_eq, List.length_map]; omega) ?_
    rw [htk, List.filter_append, List.filter_cons_of_pos (by unfold stepOf; rw [decide_eq_true h1, decide_eq_true h2, decide_eq_false h3]; rfl), List.filter_nil, List.map_append, hacc]
    rfl
  rintro D2 Gn2 acc2 Ha2 ej2 nD2 hacc ha2 w2
  rw [List.length_map, ← List.length_map (f := V.ref), List.take_of_length_le (by rw [List.length_map]; exact Nat.le_refl _)] at hacc
  subst hacc
  have hss : ∀ p ∈ pas.filter fun p => stepOf left (π p), p ∈ pas ∧ stepOf left (π p) = true := fun p hp => List.mem_filter.mp hp
  have lss : (pas.filter fun p => stepOf left (π p)).length ≤ 60 := Nat.le_trans (List.length_filter_le _ _) lp
  generalize pas.filter (fun p => stepOf left (π p)) = ss at *
  have s2 : Same G (upd Gn2 D2 (.lst (ss.map V.ref))) := Same.trans ej2 (Same.newG nD2)
  have hD2 : upd Gn2 D2 (.lst (ss.map V.ref)) D2 = some (.lst (ss.map V.ref)) := upd_same
  generalize upd Gn2 D2 (.lst (ss.map V.ref)) = G1 at *
  walk_at "go"
  have RA1 := RA.same s2
  have hss1 : ∀ p ∈ ss, PrAt G1 p (π p) ∧ (π p).1 ∈ rs ∧ (π p).2 ∈ rs := fun p hp => ⟨s2 _ _ (hpr p (hss p hp).1).1, (hpr p (hss p hp).1).2⟩
  refine ⟨D2, rfl, ⟨_, SqL.of (w2.get hD2)⟩, ?_⟩
  refine lc_it (itf_list (xs := ss.map V.ref)) w2 (fun H e => SqL.of (e _ _ hD2)) (by rw [sizeLine_eq, List.length_map]; omega) (fun i G acc => PairsAt G acc (prPs κ π (ss.take i))) .nil ?_ ?_
  · rintro j y Gj acc D3 Ha Hb hjl ej2 nD2 hacc ha2 wj ⟨rfl, hy⟩
    rw [List.length_map] at hjl
    obtain ⟨a, ha, rfl⟩ : ∃ p, ss[j]? = some p ∧ y = .ref p := by
      rw [List.getElem?_map] at hy
      cases hg : ss[j]? with
      | none => rw [hg] at hy; cases hy
      | some p => rw [hg] at hy; cases hy; exact ⟨p, rfl, rfl⟩
    walk_at "go"
    refine ⟨rfl, ?_⟩
    walk_at "go"
    refine ⟨show 2 ≤ sizeLine from by rw [sizeLine_eq]; decide, fun t nt => ?_⟩
    have w3 := wj.new (o := .tup [V.ref a, V.bl true]) nt
    have t2 : t ≠ D3 := fun e => by
      have := wj.free nt
      rw [e, upd_same] at this
      cases this
    have ntj : Gj t = none := by
      have := wj.free nt
      rwa [upd_ne t2] at this
    rw [upd_comm t2] at w3
    have eT : Same Gj (upd Gj t (.tup [V.ref a, V.bl true])) := Same.newG ntj
    refine lc_keep (n := (ss.map V.ref).length) (Pv := fun i G acc => PairsAt G acc (prPs κ π (ss.take i))) w3 (Same.trans ej2 eT) (by rw [upd_ne (Ne.symm t2)]; exact nD2) ha2 (by rw [List.length_map]; exact hjl) (by rw [sizeLine_eq, List.length_map]; omega) ?_
    unfold prPs
    rw [List.take_add_one, ha, List.map_append]
    refine Sw.Paired.app (Sw.Paired.imp (fun v p ⟨t, e, h⟩ => ⟨t, e, eT _ _ h⟩) hacc) (.cons ⟨t, rfl, upd_same⟩ .nil)
  rintro D5 Gn5 acc5 Ha5 ej5 nD5 hacc5 ha5 w5
  rw [List.length_map, List.take_length] at hacc5
  have q5 : Same G1 (upd Gn5 D5 (.lst acc5)) := Same.trans ej5 (Same.newG nD5)
  have pa5 : PairsAt (upd Gn5 D5 (.lst acc5)) acc5 (prPs κ π ss) := Sw.Paired.imp (fun v p ⟨t, e, h⟩ => ⟨t, e, Same.newG nD5 _ _ h⟩) hacc5
  have hD5 : upd Gn5 D5 (.lst acc5) D5 = some (.lst acc5) := upd_same
  generalize upd Gn5 D5 (.lst acc5) = G5 at *
  have s5 := Same.trans s2 q5
  have RA5 := RA.same s5
  have kk5 : NKeys G5 (prPs κ π ss) := fun q hq => by
    obtain ⟨a, ha, rfl⟩ := List.mem_map.mp hq
    obtain ⟨h1, h2, h3⟩ := hss1 a ha
    exact ⟨PrAt.key RA5 (q5 _ _ h1) h2 h3, prk_depth _⟩
  walk_at "go"
  refine ⟨D5, acc5, _, rfl, w5.get hD5, Sw.Paired.imp (fun v p ⟨t, e, h⟩ => ⟨t, e, w5.get h⟩) pa5, nkW w5 kk5, fun d3 n3 => ?_⟩
  have w6 := w5.new (o := DnO P wo d3 (allN (prPs κ π ss) [])) n3
  obtain ⟨M0e, M0ok, M0m⟩ := all_kvW RA5 ss [] WkOk.nil (fun p hp => ⟨q5 _ _ (hss1 p hp).1, (hss1 p hp).2⟩)
  rw [show kvW κ [] = [] from rfl] at M0e
  rw [M0e] at w6 ⊢
  have q6 := Same.trans q5 (Same.newG (o := DnO P wo d3 (kvW κ (allW π ss []))) (w5.free n3))
  have M0ok := M0ok.same (Same.newG (o := DnO P wo d3 (kvW κ (allW π ss []))) (w5.free n3))
  have hd3 : upd G5 d3 (DnO P wo d3 (kvW κ (allW π ss []))) d3 = some (DnO P wo d3 (kvW κ (allW π ss []))) := upd_same
  generalize upd G5 d3 (DnO P wo d3 (kvW κ (allW π ss []))) = G6 at *
  have M0w : ∀ a b, (a, b) ∈ (allW π ss []).map Prod.snd ↔ Bfs.Walk (nxS π ss) 1 a b := fun a b => by
    rw [M0m, walk_one, nxS_mem]
    simp
  generalize allW π ss [] = M0 at *
  have s6 := Same.trans s2 q6
  walk_at "go"
  refine g_lenL w6 (SqL.of (s6 _ _ hrl)) ?_
  walk_at "go"
  rw [List.length_map]
  have cl : ∀ a, ∀ b ∈ nxS π ss a, b ∈ left := fun a b hb => by
    obtain ⟨p, hp, e⟩ := nxS_mem.mp hb
    have h := (hss p hp).2
    unfold stepOf at h
    rw [e, Bool.and_eq_true, Bool.and_eq_true, decide_eq_true_iff, decide_eq_true_iff] at h
    exact h.2.1
  have no1 : ∀ a, ¬ Bfs.Walk (nxS π ss) 1 a a := fun a h => by
    obtain ⟨p, hp, e⟩ := nxS_mem.mp (walk_one.mp h)
    have h := (hss p hp).2
    unfold stepOf at h
    rw [e, decide_eq_true (rfl : a = a)] at h
    simp at h
  refine ⟨2, ((left.length : Nat) : Int) + 1, rfl, by omega, ?_⟩
  refine for_it itf_range (fun i σ' H' => ∃ y2 y5 y6 y7 y8 dw M Gi, σ' = [some (.ref pl), some (.ref rl), y2, some (.ref D2), some (.ref dw), y5, y6, y7, y8] ∧ Wd Gi R H' ∧ Same G1 Gi ∧ Gi dw = some (DnO P wo dw (kvW κ M)) ∧ WkOk Gi rs M ∧ (∀ a b, (a, b) ∈ M.map Prod.snd ↔ Bfs.Walk (nxS π ss) (i + 1) a b) ∧ ∀ m, 0 < m → m ≤ i + 1 → ∀ a, ¬ Bfs.Walk (nxS π ss) m a a)
    ⟨_, _, _, _, _, d3, M0, G6, rfl, w6, q6, hd3, M0ok, M0w, fun m h1 h2 a => by rw [show m = 1 by omega]; exact no1 a⟩ (fun _ _ _ _ _ => trivial) ?_ ?_
  · rintro i v σ' H7 H8 hi ⟨y2, y5, y6, y7, y8, dw, M, Gi, rfl, wi, si, hdw, Mok, Mw, Mn⟩ ⟨rfl, rfl⟩
    walk_at "go"
    intro dl hdl
    have gl := wi.free hdl
    have w7 := wi.new (o := DnO P wo dl []) hdl
    have nlw : dw ≠ dl := fun e => by rw [e, gl] at hdw; cases hdw
    walk_at "go"
    refine g_lockSX (u := DnO P wo dw (kvW κ M)) w7 (by rw [upd_ne nlw]; exact hdw) True.intro fun od H8 w8 => ?_
    have keep0 : ∀ a o, a ≠ dw → Gi a = some o → upd (upd Gi dl (DnO P wo dl [])) dw (.frz od (DnO P wo dw (kvW κ M))) a = some o := fun a o h e => by
      rw [upd_ne h, upd_ne (fun z => by rw [z, gl] at e; cases e)]
      exact e
    have hl0 : upd (upd Gi dl (DnO P wo dl [])) dw (.frz od (DnO P wo dw (kvW κ M))) dl = some (DnO P wo dl (kvW κ [])) := by rw [upd_ne (Ne.symm nlw)]; exact upd_same
    have hw0 : upd (upd Gi dl (DnO P wo dl [])) dw (.frz od (DnO P wo dw (kvW κ M))) dw = some (.frz od (DnO P wo dw (kvW κ M))) := upd_same
    generalize upd (upd Gi dl (DnO P wo dl [])) dw (.frz od (DnO P wo dw (kvW κ M))) = G8 at *
    have tups : ∀ {Gj : Hp}, (∀ a o, a ≠ dw → Gi a = some o → Gj a = some o) → ∀ a vs, Gi a = some (.tup vs) → Gj a = some (.tup vs) := fun kp a vs e => kp a _ (fun z => by rw [z, hdw] at e; cases e) e
    have RAi := RA1.same si
    have hD2i := si _ _ hD2
    have lM := Mok.len hrs
    refine g_forN ?_
    walk_at "go"
    refine ⟨dw, od, kvW κ M, rfl, w8.get hw0, ?_⟩
    refine for_it itf_keysN (fun j σ' H' => ∃ y2 y7 y8 ML Gj, σ' = [some (.ref pl), some (.ref rl), y2, some (.ref D2), some (.ref dw), some (.int (2 + (i : Int))), some (.ref dl), y7, y8] ∧ Wd Gj R H' ∧ Gj dw = some (.frz od (DnO P wo dw (kvW κ M))) ∧ Gj dl = some (DnO P wo dl (kvW κ ML)) ∧ (∀ a o, a ≠ dw → Gi a = some o → Gj a = some o) ∧ WkOk Gj rs ML ∧
        ∀ a b, (a, b) ∈ ML.map Prod.snd ↔ ∃ x ∈ M.take j, ∃ p ∈ ss, x.2.2 = (π p).1 ∧ a = x.2.1 ∧ b = (π p).2)
      ⟨_, _, _, [], G8, rfl, w8, hw0, hl0, keep0, WkOk.nil, fun a b => by simp⟩ (fun j σ' H' _ h => ?_) ?_ ?_
    · obtain ⟨_, _, _, _, _, _, w, h, _⟩ := h
      exact w.get h
    · rintro j v σ' Ha Hb hj ⟨y2, y7, y8, ML, Gj, rfl, wj, hjw, hjl, kpj, okj, mj⟩ ⟨rfl, q, hq, rfl⟩
      unfold kvW at hq
      rw [List.getElem?_map] at hq
      obtain ⟨x, hx, rfl⟩ := Option.map_eq_some_iff.mp hq
      obtain ⟨x1, x2, x3⟩ := Mok.at_ x (List.mem_of_getElem? hx)
      have htk : M.take (j + 1) = M.take j ++ [x] := by
        rw [List.take_add_one, hx]
        rfl
      refine g_tupG ⟨_, _, rfl, SqT.of (wj.get (tups kpj _ _ x1)), rfl, ?_⟩
      walk_at "go"
      have nD2w : D2 ≠ dw := fun e => by rw [e, hdw] at hD2i; cases hD2i
      refine ⟨D2, rfl, ⟨_, SqL.of (wj.get (kpj _ _ nD2w hD2i))⟩, ?_⟩
      refine for_it (itf_list (xs := ss.map V.ref)) (fun e σ' H' => ∃ y2 ML Gj, σ' = [some (.ref pl), some (.ref rl), y2, some (.ref D2), some (.ref dw), some (.int (2 + (i : Int))), some (.ref dl), some (.ref x.2.1), some (.ref x.2.2)] ∧ Wd Gj R H' ∧ Gj dw = some (.frz od (DnO P wo dw (kvW κ M))) ∧ Gj dl = some (DnO P wo dl (kvW κ ML)) ∧ (∀ a o, a ≠ dw → Gi a = some o → Gj a = some o) ∧ WkOk Gj rs ML ∧
          ∀ a b, (a, b) ∈ ML.map Prod.snd ↔ (∃ x ∈ M.take j, ∃ p ∈ ss, x.2.2 = (π p).1 ∧ a = x.2.1 ∧ b = (π p).2) ∨ ∃ p ∈ ss.take e, x.2.2 = (π p).1 ∧ a = x.2.1 ∧ b = (π p).2)
        ⟨_, ML, Gj, rfl, wj, hjw, hjl, kpj, okj, fun a b => by rw [mj]; simp⟩ (fun e σ' H' _ h => ?_) ?_ ?_
      · obtain ⟨_, _, _, _, w, _, _, kp, _⟩ := h
        exact SqL.of (w.get (kp _ _ nD2w hD2i))
      · clear wj hjw hjl kpj okj mj
        rintro e v σ' Hc Hd he ⟨y2, ML, Gj, rfl, wj, hjw, hjl, kpj, okj, mj⟩ ⟨rfl, hv⟩
        rw [List.getElem?_map] at hv
        obtain ⟨p, hp, rfl⟩ := Option.map_eq_some_iff.mp hv
        obtain ⟨hp1, hp2, hp3⟩ := hss1 p (List.mem_of_getElem? hp)
        have RAj : RowsAt Gj rs κ := ⟨fun a ha => tups kpj _ _ (RAi.at_ a ha), RAi.inj, RAi.ok⟩
        have qp : SqT K Gj p [.ref (π p).1, .ref (π p).2] := SqT.of (tups kpj _ _ (si _ _ hp1))
        have htp : ss.take (e + 1) = ss.take e ++ [p] := by
          rw [List.take_add_one, hp]
          rfl
        walk_at "go"
        refine g_ixT wj qp at20 ?_
        walk_at "go"
        refine g_eqD (RAj.dp wj hp2) (RAj.dp wj x3) (rowD_shaped (RAj.ok _ hp2)) (rowD_shaped (RAj.ok _ x3)) ?_
        rw [rowD_eqv]
        by_cases h : (π p).1 = x.2.2
        case neg =>
          rw [decide_eq_false (show κ (π p).1 ≠ κ x.2.2 from fun z => h (RAj.inj _ hp2 _ x3 z))]
          walk_at "go"
          refine ⟨_, ML, Gj, rfl, wj, hjw, hjl, kpj, okj, fun a b => ?_⟩
          rw [mj, htp]
          refine or_congr_right ⟨fun ⟨q, h1, h2⟩ => ⟨q, List.mem_append_left _ h1, h2⟩, fun ⟨q, h1, h2, h3⟩ => ?_⟩
          rcases List.mem_append.mp h1 with h1 | h1
          · exact ⟨q, h1, h2, h3⟩
          · rw [List.mem_singleton.mp h1] at h2
            exact absurd h2.symm h
        rw [decide_eq_true (show κ (π p).1 = κ x.2.2 by rw [h])]
        walk_at "go"
        refine g_ixT wj qp at21 ?_
        walk_at "go"
        refine ⟨show 2 ≤ sizeLine from by rw [sizeLine_eq]; decide, fun t nt => ?_⟩
        have gt := wj.free nt
        have w3 := wj.new (o := .tup [V.ref x.2.1, V.ref (π p).2]) nt
        have eT : Same Gj (upd Gj t (.tup [V.ref x.2.1, V.ref (π p).2])) := Same.newG gt
        have tdl : t ≠ dl := fun z => by rw [z, hjl] at gt; cases gt
        have tdw : t ≠ dw := fun z => by rw [z, hjw] at gt; cases gt
        have hT : PrAt (upd Gj t (.tup [V.ref x.2.1, V.ref (π p).2])) t (x.2.1, (π p).2) := upd_same
        have kp3 : ∀ a o, a ≠ dw → Gi a = some o → upd Gj t (.tup [V.ref x.2.1, V.ref (π p).2]) a = some o := fun a o z h => eT _ _ (kpj a o z h)
        have hl3 := eT _ _ hjl
        have hw3 := eT _ _ hjw
        have RA3 := RAj.same eT
        have ok3 := okj.same eT
        generalize upd Gj t (.tup [V.ref x.2.1, V.ref (π p).2]) = G3 at *
        have kk3 := kvW_keys RA3 ok3
        refine ⟨dl, kvW κ ML, prk (κ x.2.1, κ (π p).2), t, rfl, rfl, w3.get hl3, nkW w3 kk3, keyW w3 (PrAt.key RA3 hT x2 hp3), prk_depth _, ?_, ?_⟩
        · have := ok3.len hrs
          unfold kvW
          rw [List.length_map, sizeLine_eq]
          omega
        rw [put_kvW (y := (x.2.1, (π p).2)) RA3 ok3 x2 hp3]
        have w4 := w3.set (o' := DnO P wo dl (kvW κ (putW ML t (x.2.1, (π p).2)))) hl3
        have tup4 : ∀ a vs, G3 a = some (.tup vs) → upd G3 dl (DnO P wo dl (kvW κ (putW ML t (x.2.1, (π p).2)))) a = some (.tup vs) := fun a vs z => by
          rw [upd_ne (fun q => by rw [q, hl3] at z; cases z)]
          exact z
        have ok4 : WkOk G3 rs (putW ML t (x.2.1, (π p).2)) := ok3.put (Same.refl G3) hT x2 hp3
        refine ⟨_, putW ML t (x.2.1, (π p).2), _, rfl, w4, by rw [upd_ne nlw]; exact hw3, upd_same, fun a o z h => ?_, ⟨fun q hq => ⟨tup4 _ _ (ok4.at_ q hq).1, (ok4.at_ q hq).2⟩, ok4.nd⟩, fun a b => ?_⟩
        · rw [upd_ne (fun q => by rw [q, gl] at h; cases h)]
          exact kp3 a o z h
        · rw [putW_mem, mj, htp, or_assoc]
          refine or_congr_right ⟨?_, ?_⟩
          · rintro (⟨q, h1, h2⟩ | z)
            · exact ⟨q, List.mem_append_left _ h1, h2⟩
            · exact ⟨p, List.mem_append_right _ (List.mem_singleton.mpr rfl), h.symm, congrArg Prod.fst z, congrArg Prod.snd z⟩
          · rintro ⟨q, h1, h2, h3, h4⟩
            rcases List.mem_append.mp h1 with h1 | h1
            · exact .inl ⟨q, h1, h2, h3, h4⟩
            · obtain rfl := List.mem_singleton.mp h1
              exact .inr (Prod.ext h3 h4)
      · clear wj hjw hjl kpj okj mj
        rintro σ' H9 ⟨y2, ML, Gj, rfl, wj, hjw, hjl, kpj, okj, mj⟩
        walk_at "go"
        refine ⟨_, _, _, ML, Gj, rfl, wj, hjw, hjl, kpj, okj, fun a b => ?_⟩
        rw [mj, htk, List.length_map, List.take_length]
        constructor
        · rintro (⟨y, h1, h2⟩ | h)
          · exact ⟨y, List.mem_append_left _ h1, h2⟩
          · exact ⟨x, List.mem_append_right _ (List.mem_singleton.mpr rfl), h⟩
        · rintro ⟨y, h1, h2⟩
          rcases List.mem_append.mp h1 with h1 | h1
          · exact .inl ⟨y, h1, h2⟩
          · obtain rfl := List.mem_singleton.mp h1
            exact .inr h2
    · rintro σ' H9 ⟨y2, y7, y8, ML, Gj, rfl, wj, hjw, hjl, kpj, okj, mj⟩
      refine g_unlockX wj hjw fun w9 => ?_
      rw [show (kvW κ M).length = M.length from List.length_map _, List.take_length] at mj
      have sj : Same Gi (upd Gj dw (DnO P wo dw (kvW κ M))) := fun a o e => by
        by_cases z : a = dw
        · rw [z, upd_same, ← hdw, ← e, z]
        · rw [upd_ne z]
          exact kpj a o z e
      have tup9 : ∀ a vs, Gj a = some (.tup vs) → upd Gj dw (DnO P wo dw (kvW κ M)) a = some (.tup vs) := fun a vs z => by
        rw [upd_ne (fun q => by rw [q, hjw] at z; cases z)]
        exact z
      have okj : WkOk (upd Gj dw (DnO P wo dw (kvW κ M))) rs ML := ⟨fun q hq => ⟨tup9 _ _ (okj.at_ q hq).1, (okj.at_ q hq).2⟩, okj.nd⟩
      have hjl : upd Gj dw (DnO P wo dw (kvW κ M)) dl = some (DnO P wo dl (kvW κ ML)) := by rw [upd_ne (Ne.symm nlw)]; exact hjl
      clear hjw
      generalize upd Gj dw (DnO P wo dw (kvW κ M)) = G9 at *
      have mj : ∀ a b, (a, b) ∈ ML.map Prod.snd ↔ Bfs.Walk (nxS π ss) (i + 1 + 1) a b := fun a b => by
        rw [mj, walk_snoc]
        constructor
        · rintro ⟨x, hx, p, hp, h1, rfl, rfl⟩
          exact ⟨x.2.2, (Mw _ _).mp (List.mem_map_of_mem hx), nxS_mem.mpr ⟨p, hp, Prod.ext h1.symm rfl⟩⟩
        · rintro ⟨c, h1, h2⟩
          obtain ⟨x, hx, e⟩ := List.mem_map.mp ((Mw _ _).mpr h1)
          obtain ⟨p, hp, e2⟩ := nxS_mem.mp h2
          exact ⟨x, hx, p, hp, by rw [e, e2], by rw [e], by rw [e2]⟩
      have s9 := Same.trans si sj
      have RA9 := RA1.same s9
      have lML := okj.len hrs
      walk_at "go"
      refine g_lockEX (u := DnO P wo dl (kvW κ ML)) w9 hjl True.intro fun od2 H10 w10 => ?_
      have tupL : ∀ a vs, G9 a = some (.tup vs) → upd G9 dl (.frz od2 (DnO P wo dl (kvW κ ML))) a = some (.tup vs) := fun a vs z => by
        rw [upd_ne (fun q => by rw [q, hjl] at z; cases z)]
        exact z
      have hl10 : upd G9 dl (.frz od2 (DnO P wo dl (kvW κ ML))) dl = some (.frz od2 (DnO P wo dl (kvW κ ML))) := upd_same
      have back : ∀ {G' : Hp}, Same (upd G9 dl (.frz od2 (DnO P wo dl (kvW κ ML)))) G' → Same G9 (upd G' dl (DnO P wo dl (kvW κ ML))) := fun s a o e => by
        by_cases z : a = dl
        · rw [z, upd_same, ← hjl, ← e, z]
        · rw [upd_ne z]
          exact s _ _ (by rw [upd_ne z]; exact e)
      have RA10 : RowsAt (upd G9 dl (.frz od2 (DnO P wo dl (kvW κ ML)))) rs κ := ⟨fun a ha => tupL _ _ (RA9.at_ a ha), RA9.inj, RA9.ok⟩
      generalize upd G9 dl (.frz od2 (DnO P wo dl (kvW κ ML))) = G10 at *
      refine g_lcN ?_
      walk_at "go"
      refine ⟨dl, od2, kvW κ ML, rfl, w10.get hl10, ?_⟩
      refine lc_it itf_keysN w10 (fun H e => e _ _ hl10) (by unfold kvW; rw [List.length_map, sizeLine_eq]; omega) (fun e G acc => acc = ((ML.take e).filter fun x => decide (x.2.1 = x.2.2)).map fun x => V.ref x.1) rfl ?_ ?_
      · rintro e v Gj acc D6 Ha Hb hjl6 ej6 nD6 hacc ha6 wj ⟨rfl, q, hq, rfl⟩
        unfold kvW at hq hjl6
        rw [List.getElem?_map] at hq
        rw [List.length_map] at hjl6
        obtain ⟨x, hx, rfl⟩ := Option.map_eq_some_iff.mp hq
        obtain ⟨x1, x2, x3⟩ := okj.at_ x (List.mem_of_getElem? hx)
        have htk : ML.take (e + 1) = ML.take e ++ [x] := by
          rw [List.take_add_one, hx]
          rfl
        have eD6 := Same.trans ej6 (Same.newG nD6 (o := .lst acc))
        have qp : SqT K (upd Gj D6 (.lst acc)) x.1 [.ref x.2.1, .ref x.2.2] := SqT.of (eD6 _ _ (tupL _ _ x1))
        have RAj := RA10.same eD6
        walk_at "go"
        refine ⟨rfl, ?_⟩
        walk_at "go"
        refine g_ixT wj qp at20 ?_
        walk_at "go"
        refine g_ixT wj qp at21 ?_
        walk_at "go"
        refine g_eqD (RAj.dp wj x2) (RAj.dp wj x3) (rowD_shaped (RAj.ok _ x2)) (rowD_shaped (RAj.ok _ x3)) ?_
        rw [rowD_eqv]
        by_cases h : x.2.1 = x.2.2
        · rw [decide_eq_true (show κ x.2.1 = κ x.2.2 by rw [h])]
          walk_at "go"
          refine lc_keep (n := (kvW κ ML).length) (Pv := fun e G acc => acc = ((ML.take e).filter fun x => decide (x.2.1 = x.2.2)).map fun x => V.ref x.1) wj ej6 nD6 ha6 (by unfold kvW; rw [List.length_map]; exact hjl6) (by unfold kvW; rw [List.length_map, sizeLine_eq]; omega) ?_
          rw [htk, List.filter_append, List.filter_cons_of_pos (p := fun x : Addr × (Addr × Addr) => decide (x.2.1 = x.2.2)) (a := x) (decide_eq_true h), List.filter_nil, List.map_append, hacc]
          rfl
        · rw [decide_eq_false (show κ x.2.1 ≠ κ x.2.2 from fun z => h (RAj.inj _ x2 _ x3 z))]
          walk_at "go"
          refine lc_drop (Pv := fun e G acc => acc = ((ML.take e).filter fun x => decide (x.2.1 = x.2.2)).map fun x => V.ref x.1) wj ej6 nD6 ha6 ?_
          show acc = _
          rw [htk, List.filter_append, List.filter_cons_of_neg (p := fun x : Addr × (Addr × Addr) => decide (x.2.1 = x.2.2)) (a := x) (by simpa using h), List.filter_nil, List.append_nil]
          exact hacc
      rintro D6 Gn acc6 H11 ej6 nD6 hacc ha6 w11
      rw [show (kvW κ ML).length = ML.length from List.length_map _, List.take_length] at hacc
      have e6 := Same.trans ej6 (Same.newG nD6 (o := .lst acc6))
      have hD6 : upd Gn D6 (.lst acc6) D6 = some (.lst acc6) := upd_same
      generalize upd Gn D6 (.lst acc6) = G11 at *
      have w12 := w11.set (o' := DnO P wo dl (kvW κ ML)) (e6 _ _ hl10)
      refine ⟨w11.get (e6 _ _ hl10), ?_⟩
      have s12 := Same.trans s9 (back e6)
      have l12 : upd G11 dl (DnO P wo dl (kvW κ ML)) dl = some (DnO P wo dl (kvW κ ML)) := upd_same
      have d12 : upd G11 dl (DnO P wo dl (kvW κ ML)) D6 = some (.lst acc6) := by
        rw [upd_ne (fun z => by rw [z, e6 _ _ hl10] at hD6; cases hD6)]
        exact hD6
      have ok12 := okj.same (back e6)
      generalize upd G11 dl (DnO P wo dl (kvW κ ML)) = G12 at *
      walk_at "go"
      refine g_newL w12 (by walk_at "sz") fun p13 H13 n13 w13 => ?_
      refine g_neL0 w13 (SqL.of (upd_old d12 n13)) (SqL.of upd_same) ?_
      replace w13 := w13.drop (Same.newG n13)
      walk_at "go"
      cases hF : ML.filter fun x => decide (x.2.1 = x.2.2) with
      | nil =>
        rw [hF] at hacc
        subst hacc
        refine iteNT ?_
        walk_at "go"
        refine ⟨_, _, _, _, _, dl, ML, G12, rfl, w13, s12, l12, ok12, mj, fun m h1 h2 a wk => ?_⟩
        by_cases z : m ≤ i + 1
        · exact Mn m h1 z a wk
        · obtain rfl : m = i + 1 + 1 := by omega
          obtain ⟨x, hx, e⟩ := List.mem_map.mp ((mj a a).mpr wk)
          have hm : x ∈ ML.filter fun x => decide (x.2.1 = x.2.2) := List.mem_filter.mpr ⟨hx, decide_eq_true (by rw [e])⟩
          rw [hF] at hm
          cases hm
      | cons x r =>
        obtain ⟨hx, hxx⟩ : x ∈ ML ∧ decide (x.2.1 = x.2.2) = true := List.mem_filter.mp (by rw [hF]; exact List.mem_cons_self)
        rw [hF] at hacc
        subst hacc
        rw [if_pos (show (!(List.map (fun x : Addr × (Addr × Addr) => V.ref x.1) (x :: r)).isEmpty) = true from rfl)]
        walk_at "go"
        have := k (some (i + 2)) ⟨by omega, by omega, ⟨x.2.1, (mj _ _).mp (List.mem_map.mpr ⟨x, hx, Prod.ext rfl (of_decide_eq_true hxx).symm⟩)⟩, fun m h1 h2 a => Mn m h1 (by omega) a⟩ _ _ (Same.trans s2 s12) w13
        have e2 : leastV (some (i + 2)) = .int (2 + (i : Int)) := by
          show V.int ((i + 2 : Nat) : Int) = _
          congr 1
          omega
        rw [e2] at this
        exact this
  · rintro σ' H9 ⟨y2, y5, y6, y7, y8, dw, M, Gi, rfl, wi, si, hdw, Mok, Mw, Mn⟩
    walk_at "go"
    exact k none (fun m h1 h2 a => Mn m h1 (by omega) a) _ _ (Same.trans s2 si) wi
end
structure DOk (xs : List Int) (i m : Int) : Prop where
  ne : xs ≠ []
  nn : ∀ x ∈ xs, 0 ≤ x
  len : xs.length ≤ 63
  i0 : 0 ≤ i
  m0 : 0 ≤ m
  m1 : m < 2147483647
def DS (a c : Addr) (H : Hp) : Prop := ∃ xs i m, DOk xs i m ∧ H a = some (.lst [.ref c, .int i, .int m]) ∧ H c = some (.lst (xs.map V.int))
def RD (a c : Addr) : Res := ⟨[a, c], DS a c, fun H H' h e => by
    obtain ⟨xs, i, m, d, h1, h2⟩ := h
    exact ⟨xs, i, m, d, by rw [e a (by simp)]; exact h1, by rw [e c (by simp)]; exact h2⟩,
  fun H h b hb => by
    obtain ⟨xs, i, m, d, h1, h2⟩ := h
    rcases List.mem_cons.mp hb with rfl | hb
    · rw [h1]; simp
    · rw [List.mem_singleton] at hb
      rw [hb, h2]; simp⟩
theorem RD.apart {a c : Addr} {H : Hp} (h : DS a c H) : a ≠ c := by
  obtain ⟨xs, i, m, d, h1, h2⟩ := h
  rintro rfl
  rw [h1] at h2
  cases xs with
  | nil => exact d.ne rfl
  | cons x xs => cases h2
theorem RD.put {a c : Addr} {G H H' : Hp} (w : Wd G (RD a c) H) (h : DS a c H') (k : ∀ b o, b ≠ a → b ≠ c → H b = some o → H' b = some o) : Wd G (RD a c) H' := by
  refine ⟨fun b o e => ?_, w.out, h⟩
  have na : b ≠ a := fun z => by
    have := w.out a (by simp [RD])
    rw [← z, e] at this; cases this
  have nc : b ≠ c := fun z => by
    have := w.out c (by simp [RD])
    rw [← z, e] at this; cases this
  exact k b o na nc (w.sub b o e)
section
variable {P : Program} {wo : World} {A : Ad} {K : PySem.W.Frag} {mg : Str → Option Value} {base : Heap}
def spDraw : Sp := fun vs H Q _ => ∃ G a c b, vs = [.ref a, .int b] ∧ Wd G (RD a c) H ∧ 0 < b ∧ b < 1073741824 ∧ ∀ r H', 0 ≤ r → r < b → Wd G (RD a c) H' → Q (.int r) H'
theorem sc__law_draw : FnScope (["_law_state", "_law_bound", "_law_cells", "_law_at", "_law_cell"] : List Str) (["_law_state", "_law_bound"] : List Str) (defScope s__law_draw) := ⟨rfl, rfl, rfl, by decide +kernel, rfl, by decide +kernel, by decide +kernel⟩
theorem ok_draw {f : Addr} {fd : FuncData} (F : Fun K "_law_draw" "_law_draw" s__law_draw f fd) (T : Txt K mg A) : FnOk P wo K mg base (L2.CX P wo) 1 f fd (["_law_state", "_law_bound"] : List Str) spDraw := by
  refine okT F sc__law_draw (fun vs H Q E h => ?_) (fun cdv Ar outer s H vs Q E hr tk po h => ?_)
  · obtain ⟨_, _, _, _, rfl, _⟩ := h
    rfl
  obtain ⟨G, a, c, b, rfl, w, b0, b1, k⟩ := h
  refine ⟨_, (pss_cons (ps_set (i := 2) sc__law_draw.nd rfl (by first | exact Or.inl rfl | exact Or.inr rfl) (pe_ix (ka_ix K) (pv 0) pe_int (fun _ _ => rfl)))
      (pss_cons (ps_set (i := 3) sc__law_draw.nd rfl (by first | exact Or.inl rfl | exact Or.inr rfl) (pe_op op_mod (pe_ix (ka_ix K) (pv 0) pe_int (fun _ _ => rfl)) (pe_callB (ka_len K) (by rfl) T.nb_len (by decide +kernel) (pa_cons (pv 2) pa_nil))))
      (pss_cons (ps_set (i := 4) sc__law_draw.nd rfl (by first | exact Or.inl rfl | exact Or.inr rfl) (pe_ix (ka_ix K) (pv 2) (pv 3) (fun _ _ => rfl)))
      (pss_cons (ps_if (pt_cmpR op_ge (pv 4) pe_int (nomark _)) (pss_cons (ps_asg (pe_op op_fdiv (pv 4) (pv 1)) (pg_sub (pv 2) (pv 3) set_list))
      (pss_one (ps_ret (pe_op op_mod (pv 4) (pv 1))))) pss_nil)
      (pss_cons (ps_asg (pe_op (ka_add K) (pe_ix (ka_ix K) (pv 0) pe_int (fun _ _ => rfl)) pe_int) (pg_sub (pv 0) pe_int set_list))
      (pss_cons (ps_asg (pe_op op_mod (pe_op (ka_add K) (pe_op (ka_add K) (pe_op (ka_mul K) (pe_ix (ka_ix K) (pv 0) pe_int (fun _ _ => rfl)) pe_int) (pv 4)) pe_int) pe_int) (pg_sub (pv 0) pe_int set_list))
      (pss_one (ps_ret (pe_op op_mod (pe_op op_fdiv (pe_op op_mod (pe_op (ka_mul K) (pe_ix (ka_ix K) (pv 0) pe_int (fun _ _ => rfl)) (pe_ix (ka_ix K) (pv 0) pe_int (fun _ _ => rfl))) pe_int) pe_int) (pv 1)))))))))), ?_⟩
  obtain ⟨xs, i, m, d, ha, hc⟩ := id w.res
  have hac := RD.apart w.res
  have wH : Wd H R0 H := Wd.r0 H
  have hcl : SqL K H c (xs.map V.int) := SqL.of hc
  have n0 : 0 < xs.length := List.length_pos_iff.mpr d.ne
  walk_at "go"
  refine g_ixL wH (SqL.of ha) (by rfl) ?_
  walk_at "go"
  refine g_ixL wH (SqL.of ha) (by rfl) ?_
  walk_at "go"
  refine g_lenL wH hcl ?_
  rw [List.length_map]
  refine g_I (show (0 : Int) < (xs.length : Int) by omega) ?_
  obtain ⟨j, hj⟩ : ∃ j : Nat, i % (xs.length : Int) = (j : Int) := ⟨(i % (xs.length : Int)).toNat, by
    have := Int.emod_nonneg i (show (xs.length : Int) ≠ 0 by omega)
    omega⟩
  have hjl : j < xs.length := by
    have := Int.emod_lt_of_pos i (show (0 : Int) < (xs.length : Int) by omega)
    omega
  rw [hj]
  have hx : (xs.map V.int)[j]? = some (V.int xs[j]) := by simp [hjl]
  have hp : 0 ≤ xs[j] := d.nn _ (List.getElem_mem hjl)
  walk_at "go"
  refine g_ixL wH hcl (atI_nat hx) ?_
  walk_at "go"
  refine iteD (fun h1 => ?_) (fun h1 => ?_)
  · walk_at "go"
    refine g_I ⟨b0, b1⟩ ?_
    walk_at "go"
    have hi : ixN (xs.map V.int).length (j : Int) = some j := by
      unfold ixN
      rw [List.length_map, if_pos (by omega), if_pos (by omega)]
      simp
    refine g_setL wH hc hi fun H1 w1 => ?_
    walk_at "go"
    refine g_I b0 ?_
    refine k _ _ (Int.emod_nonneg _ (by omega)) (Int.emod_lt_of_pos _ b0) (RD.put w ⟨xs.set j (xs[j] / b), i, m, ⟨?_, ?_, ?_, d.i0, d.m0, d.m1⟩, ?_, ?_⟩ fun q o ha' hc' e => ?_)
    · intro z
      have := congrArg List.length z
      rw [List.length_set] at this
      exact d.ne (List.length_eq_zero_iff.mp this)
    · intro x hx
      rcases List.mem_or_eq_of_mem_set hx with h | h
      · exact d.nn x h
      · rw [h]
        exact Int.ediv_nonneg hp (by omega)
    · rw [List.length_set]
      exact d.len
    · exact w1.get (upd_oth ha hac)
    · rw [List.map_set]
      exact w1.get upd_same
    · exact w1.get (upd_oth e hc')
  · walk_at "go"
    refine g_ixL wH (SqL.of ha) (by rfl) ?_
    walk_at "go"
    refine g_setL (j' := 1) wH ha (by rfl) fun H1 w1 => ?_
    walk_at "go"
    refine g_ixL w1 (SqL.of upd_same) (by rfl) ?_
    walk_at "go"
    refine g_mulI (Or.inr (by decide)) ?_
    walk_at "go"
    refine g_I (show (0 : Int) < 2147483647 by decide) ?_
    walk_at "go"
    refine g_setL (j' := 2) w1 upd_same (by rfl) fun H2 w2 => ?_
    have a2 := w2.get upd_same
    have m20 := Int.emod_nonneg (m * 48271 + xs[j] + 12345) (show (2147483647 : Int) ≠ 0 by decide)
    have m21 := Int.emod_lt_of_pos (m * 48271 + xs[j] + 12345) (show (0 : Int) < 2147483647 by decide)
    generalize (m * 48271 + xs[j] + 12345) % 2147483647 = m2 at *
    walk_at "go"
    refine g_ixL w2 (SqL.of upd_same) (by rfl) ?_
    walk_at "go"
    refine g_ixL w2 (SqL.of upd_same) (by rfl) ?_
    refine g_mulI (Or.inl ⟨by omega, by omega⟩) ?_
    walk_at "go"
    refine g_I (show (0 : Int) < 2147483629 by decide) ?_
    walk_at "go"
    refine g_I (show CDiv _ 16 from ⟨by decide, by decide⟩) ?_
    walk_at "go"
    refine g_I b0 ?_
    refine k _ _ (Int.emod_nonneg _ (by omega)) (Int.emod_lt_of_pos _ b0) (RD.put w ⟨xs, i + 1, m2, ⟨d.ne, d.nn, d.len, by have := d.i0; omega, m20, m21⟩, a2, ?_⟩ fun q o ha' hc' e => ?_)
    · exact w2.get (upd_oth (upd_oth hc hac.symm) hac.symm)
    · exact w2.get (upd_oth (upd_oth e ha') ha')
end
section
variable {P : Program} {wo : World} {A : Ad} {K : PySem.W.Frag} {mg : Str → Option Value} {base : Heap}
def spBegun (K : PySem.W.Frag) : Sp := fun vs H Q _ => ∃ (s : Addr) (ns : List Int), vs = [.ref s] ∧ SqL K H s (ns.map V.int) ∧ ∀ a c H', Wd H (RD a c) H' → Q (.ref a) H'
theorem sc__law_begun : FnScope (["_law_script", "_law_cell"] : List Str) (["_law_script"] : List Str) (defScope s__law_begun) := ⟨rfl, rfl, rfl, by decide +kernel, rfl, by decide +kernel, by decide +kernel⟩
theorem cut63 {xs : List V} : cutV xs none (some 63) = xs.take 63 := by
  unfold cutV
  have h1 : HT.sIx xs.length 0 none = 0 := rfl
  have h2 : HT.sIx xs.length xs.length (some 63) = min 63 xs.length := by
    unfold HT.sIx
    simp
    try omega
  rw [h1, h2]
  simp
  try (rw [List.take_eq_take_iff]; omega)
theorem ok_begun {f : Addr} {fd : FuncData} (F : Fun K "_law_begun" "_law_begun" s__law_begun f fd) (T : Txt K mg A) : FnOk P wo K mg base (L2.CX P wo) 1 f fd (["_law_script"] : List Str) (spBegun K) := by
  refine okT F sc__law_begun (fun vs H Q E h => ?_) (fun cdv Ar outer s H vs Q E hr tk po h => ?_)
  · obtain ⟨_, _, rfl, _⟩ := h
    rfl
  obtain ⟨l, ns, rfl, hl, k⟩ := h
  refine ⟨_, (pss_one (ps_ret (pe_lst (pa_cons (ke_orT K (pe_lc (own := [("_law_cell", 1)]) (g := (gName 1)) (tt := tYes) rfl sc__law_begun.nd (ki_list K (pe_slice (ka_sl K) (pv 0) po_none (po_some pe_int))) (blkOk_by (N := (["_law_script", "_law_cell"] : List Str)) (sc := defScope s__law_begun) (by decide +kernel)) (fun _ _ _ _ _ => (pg_name (i := 1) sc__law_begun.nd rfl (by first | exact Or.inl rfl | exact Or.inr rfl))) (fun _ _ _ _ _ => pts_nil) (fun _ _ _ _ _ => (pe_callB call_abs (by rfl) T.nb_abs (by decide +kernel) (pa_cons (pv 1) pa_nil)))) (pe_one (pe_lst (pa_cons pe_int pa_nil)))) (pa_cons pe_int (pa_cons pe_int pa_nil)))))), ?_⟩
  have w := Wd.r0 H
  walk_at "go"
  refine g_slL w hl fun p H1 np w1 => ?_
  rw [cut63, ← List.map_take] at w1
  refine ⟨p, rfl, ⟨_, SqL.of (w1.get upd_same)⟩, ?_⟩
  refine lc_it (itf_list (xs := (ns.take 63).map V.int)) w1 (fun H' e => SqL.of (e _ _ upd_same)) (by walk_at "sz") (fun i _ acc => ∃ ys : List Int, acc = ys.map V.int ∧ (∀ y ∈ ys, 0 ≤ y) ∧ ys.length = i) ⟨[], rfl, by simp, rfl⟩ ?_ ?_
  · rintro i x Gi acc D H2 H2' hi e nD ⟨ys, rfl, nn, hy⟩ hl2 w2 ⟨rfl, hx⟩
    obtain ⟨u, rfl⟩ : ∃ u, x = V.int u := by
      rw [List.getElem?_map] at hx
      cases e : (ns.take 63)[i]? with
      | none => rw [e] at hx; cases hx
      | some u => rw [e] at hx; exact ⟨u, (Option.some.inj hx).symm⟩
    walk_at "go"
    refine ⟨rfl, ?_⟩
    walk_at "go"
    refine ⟨_, rfl, ?_⟩
    refine lc_keep (Pv := fun i _ acc => ∃ ys : List Int, acc = ys.map V.int ∧ (∀ y ∈ ys, 0 ≤ y) ∧ ys.length = i) w2 e nD hl2 hi (by walk_at "sz") ⟨ys ++ [if u < 0 then -u else u], by simp, ?_, by simp [hy]⟩
    intro y hy'
    rcases List.mem_append.mp hy' with h | h
    · exact nn y h
    · rw [List.mem_singleton] at h
      rw [h]
      split <;> omega
  · rintro D Gn acc H2 e nD ⟨ys, rfl, nn, hy⟩ hl2 w2
    have hys : ys.length ≤ 63 := by
      rw [hy, List.length_map, List.length_take]
      omega
    refine ⟨_, .inl ⟨_, SqL.of (w2.get upd_same), rfl⟩, ?_⟩
    have fin : ∀ (c : Addr) (cs : List Int) (H3 : Hp), Same H H3 → H c = none → H3 c = some (.lst (cs.map V.int)) → cs ≠ [] → (∀ y ∈ cs, 0 ≤ y) → cs.length ≤ 63 → ∀ a, H3 a = none → Q (.ref a) (upd H3 a (.lst [.ref c, .int 0, .int 1])) := by
      intro c cs H3 e3 nc hc h1 h2 h3 a ha
      have hca : c ≠ a := ne_of_none hc ha
      refine k a c _ ⟨Same.trans e3 (Same.newG ha), fun b hb => ?_, ⟨cs, 0, 1, ⟨h1, h2, h3, by decide, by decide, by decide⟩, upd_same, by rw [upd_ne hca]; exact hc⟩⟩
      rcases List.mem_cons.mp hb with rfl | hb
      · exact Same.free e3 ha
      · rw [List.mem_singleton] at hb
        rw [hb]
        exact nc
    have e0 : Same H H2 := Same.trans (Same.trans (Same.newG np) e) (Same.trans (Same.newG nD) w2.sub)
    refine iteB (fun hb => ?_) (fun hb => ?_)
    · walk_at "go"
      refine ⟨by walk_at "sz", ?_⟩
      refine fin D ys _ e0 (Same.free (Same.newG np) (Same.free e nD)) (w2.get upd_same) (fun z => ?_) nn hys
      rw [z] at hb
      cases hb
    · walk_at "go"
      refine ⟨by walk_at "sz", fun q hq => ?_⟩
      walk_at "go"
      refine ⟨by walk_at "sz", ?_⟩
      exact fin q [7] _ (Same.trans e0 (Same.newG hq)) (Same.free e0 hq) upd_same (by simp) (by simp) (by simp)
def spPick (K : PySem.W.Frag) : Sp := fun vs H Q _ => ∃ G a c, Wd G (RD a c) H ∧
  ((∃ p xs, vs = [.ref a, .ref p] ∧ (SqL K G p xs ∨ SqT K G p xs) ∧ 0 < xs.length ∧ xs.length < 1000000 ∧ ∀ x H', x ∈ xs → Wd G (RD a c) H' → Q x H') ∨
  (∃ z : Str, vs = [.ref a, .str z] ∧ 0 < z.length ∧ z.length < 1000000 ∧ ∀ ch H', ch ∈ z.cps.toList → Wd G (RD a c) H' → Q (.str ⟨#[ch]⟩) H'))
theorem sc__law_pick : FnScope (["_law_state", "_law_some"] : List Str) (["_law_state", "_law_some"] : List Str) (defScope s__law_pick) := ⟨rfl, rfl, rfl, by decide +kernel, rfl, by decide +kernel, by decide +kernel⟩
theorem ok_pick {f : Addr} {fd : FuncData} (F : Fun K "_law_pick" "_law_pick" s__law_pick f fd) (T : Txt K mg A) (Gd : GFn P wo K mg base 1 "_law_draw" 2 [] (fun vs _ => spDraw vs)) : FnOk P wo K mg base (L2.CX P wo) 2 f fd (["_law_state", "_law_some"] : List Str) (spPick K) := by
  refine okT F sc__law_pick (fun vs H Q E h => ?_) (fun cdv Ar outer s H vs Q E hr tk po h => ?_)
  · obtain ⟨_, _, _, _, ⟨_, _, rfl, _⟩ | ⟨_, rfl, _⟩⟩ := h <;> rfl
  obtain ⟨G, a, c, w, h⟩ := h
  refine ⟨_, (pss_one (ps_ret (pe_ix (ka_ix K) (pv 1) (pe_callG Gd (hr.mono (by decide)) tk (pa_cons (pv 0) (pa_cons (pe_callB (ka_len K) (by rfl) T.nb_len (by decide +kernel) (pa_cons (pv 1) pa_nil)) pa_nil)) pk_nil) (fun _ _ => rfl)))), ?_⟩
  rcases h with ⟨p, xs, rfl, hp, h0, h1, k⟩ | ⟨z, rfl, h0, h1, k⟩
  · walk_at "go"
    have rd : ∀ {H1 : Hp} {Q1 : VK}, Wd G (RD a c) H1 → (∀ r H', 0 ≤ r → r < (xs.length : Int) → Wd G (RD a c) H' → Q1 (.int r) H') → spDraw [V.ref a, V.int xs.length] H1 Q1 E := fun w1 q => ⟨G, a, c, _, rfl, w1, by omega, by omega, q⟩
    have fin : ∀ r H', 0 ≤ r → r < (xs.length : Int) → Wd G (RD a c) H' → rIx K (.ref p) (.int r) H' Q := by
      intro r H' r0 r1 w'
      obtain ⟨j, rfl⟩ : ∃ j : Nat, r = j := ⟨r.toNat, by omega⟩
      have hj : j < xs.length := by omega
      rcases hp with hp | hp
      · exact g_ixL w' hp (atI_nat (List.getElem?_eq_getElem hj)) (k _ _ (List.getElem_mem hj) w')
      · exact g_ixT w' hp (atI_nat (List.getElem?_eq_getElem hj)) (k _ _ (List.getElem_mem hj) w')
    rcases id hp with hp' | hp'
    · refine g_lenL w hp' ?_
      walk_at "go"
      refine ⟨rfl, rfl, ?_⟩
      exact rd w fun r H' r0 r1 w' => fin r H' r0 r1 w'
    · refine g_lenT w hp' ?_
      walk_at "go"
      refine ⟨rfl, rfl, ?_⟩
      exact rd w fun r H' r0 r1 w' => fin r H' r0 r1 w'
  · walk_at "go"
    have hz : z.length ≤ sizeLine := by rw [sizeLine_eq]; omega
    refine g_lenS hz ?_
    walk_at "go"
    refine ⟨rfl, rfl, ?_⟩
    refine ⟨G, a, c, _, rfl, w, by omega, by omega, fun r H' r0 r1 w' => ?_⟩
    obtain ⟨j, rfl⟩ : ∃ j : Nat, r = j := ⟨r.toNat, by omega⟩
    have hj : j < z.cps.toList.length := by
      have : z.cps.toList.length = z.length := by simp [Str.length]
      omega
    exact g_ixS hz (atI_nat (List.getElem?_eq_getElem hj)) (k _ _ (List.getElem_mem hj) w')
end
theorem perm_erase {α : Type} : ∀ (l : List α) (i : Nat) (h : i < l.length), (l[i] :: l.eraseIdx i).Perm l
  | x :: l, 0, _ => List.Perm.refl _
  | x :: l, i + 1, h => ((List.Perm.swap x (l[i]'(Nat.lt_of_succ_lt_succ h)) _)).trans (List.Perm.cons x (perm_erase l i (Nat.lt_of_succ_lt_succ h)))
theorem seqIx_of {r : Int} {n : Nat} (h0 : 0 ≤ r) (h1 : r < n) : seqIndex? r n = some r.toNat := by
  have e : seqIndex? r n = if (decide (0 ≤ (if r < 0 then r + (n : Int) else r)) && decide ((if r < 0 then r + (n : Int) else r) < (n : Int))) = true then some (if r < 0 then r + (n : Int) else r).toNat else none := rfl
  rw [e, if_neg (show ¬ r < 0 by omega), decide_eq_true h0, decide_eq_true h1]
  rfl
section
variable {P : Program} {wo : World} {A : Ad} {K : PySem.W.Frag} {mg : Str → Option Value} {base : Heap}
def spMixed (K : PySem.W.Frag) : Sp := fun vs H Q _ => ∃ G a c l xs, vs = [.ref a, .ref l] ∧ Wd G (RD a c) H ∧ SqL K G l xs ∧ xs.length ≤ 1000 ∧ ∀ p H' ys, ys.Perm xs → G p = none → Wd (upd G p (.lst ys)) (RD a c) H' → Q (.ref p) H'
theorem sc__law_mixed : FnScope (["_law_state", "_law_some", "_law_left", "_law_found"] : List Str) (["_law_state", "_law_some"] : List Str) (defScope s__law_mixed) := ⟨rfl, rfl, rfl, by decide +kernel, rfl, by decide +kernel, by decide +kernel⟩
theorem ok_mixed {f : Addr} {fd : FuncData} (F : Fun K "_law_mixed" "_law_mixed" s__law_mixed f fd) (T : Txt K mg A) (Gd : GFn P wo K mg base 1 "_law_draw" 2 [] (fun vs _ => spDraw vs)) : FnOk P wo K mg base (L2.CX P wo) 2 f fd (["_law_state", "_law_some"] : List Str) (spMixed K) := by
  refine okT F sc__law_mixed (fun vs H Q E h => ?_) (fun cdv Ar outer s H vs Q E hr tk po h => ?_)
  · obtain ⟨_, _, _, _, _, rfl, _⟩ := h
    rfl
  obtain ⟨G, a, c, l, xs, rfl, w, hl, hx, k⟩ := h
  refine ⟨_, (pss_cons (ps_par (i := 2) (j := 3) rfl sc__law_mixed.nd rfl rfl (by decide) rfl rfl (pa_cons (pe_callTy (ka_list K) (by rfl) T.nb_list (by decide +kernel) (pa_cons (pv 1) pa_nil)) (pa_cons (pe_lst pa_nil) pa_nil)) (by rfl))
      (pss_cons (ps_while po (pt_cmpR (op_neL0 K hr.units) (pv 2) (pe_lst pa_nil) (nomark _)) (pss_one (ps_expr (pe_bm PySem.F.plainAttrs_list PySem.F.slot_list_append PySem.F.type_list_append mt_append (pv 3) (pa_cons (pe_bm PySem.F.plainAttrs_list PySem.F.slot_list_pop PySem.F.type_list_pop mt_popAt (pv 2) (pa_cons (pe_callG Gd (hr.mono (by decide)) tk (pa_cons (pv 0) (pa_cons (pe_callB (ka_len K) (by rfl) T.nb_len (by decide +kernel) (pa_cons (pv 2) pa_nil)) pa_nil)) pk_nil) pa_nil)) pa_nil)))))
      (pss_one (ps_ret (pv 3))))), ?_⟩
  walk_at "go"
  refine g_listL w hl fun p1 H1 n1 w => ?_
  walk_at "go"
  refine g_newL w (by walk_at "sz") fun p2 H2 n2 w => ?_
  walk_at "go"
  refine ⟨_, _, rfl, ?_⟩
  walk_at "go"
  obtain ⟨m2, d21⟩ := upd_nonne n2
  refine ⟨fun m σ' H' => ∃ lf fd, σ' = [some (.ref a), some (.ref l), some (.ref p1), some (.ref p2)] ∧ lf.length = m ∧ Wd (upd (upd G p1 (.lst lf)) p2 (.lst fd)) (RD a c) H' ∧ (lf ++ fd).Perm xs,
    ⟨xs.length, xs, [], rfl, rfl, w, by rw [List.append_nil]⟩, ?_⟩
  rintro m σ' H' ⟨lf, fd, rfl, rfl, w, h0⟩
  have h3 : lf.length + fd.length = xs.length := by rw [← List.length_append]; exact h0.length_eq
  have hp2 : upd (upd G p1 (.lst lf)) p2 (.lst fd) p2 = some (.lst fd) := upd_same
  have hp1 : upd (upd G p1 (.lst lf)) p2 (.lst fd) p1 = some (.lst lf) := by rw [upd_ne d21.symm]; exact upd_same
  have s1 : Same G (upd (upd G p1 (.lst lf)) p2 (.lst fd)) := Same.setL (Same.newG n1) m2
  walk_at "go"
  refine g_newL w (by walk_at "sz") fun q H3 nq w3 => ?_
  refine g_neL0 w3 (SqL.of (upd_old hp1 nq)) (SqL.of upd_same) ?_
  replace w := w3.drop (Same.newG nq)
  walk_at "go"
  cases lf with
  | nil =>
    refine iteNT ?_
    walk_at "go"
    rw [upd_comm d21] at w
    refine k p2 _ fd h0 m2 (w.drop (Same.newG ?_))
    rw [upd_ne d21.symm]
    exact n1
  | cons y lf =>
    refine iteNF ?_
    have lx : (y :: lf).length ≤ 1000 := by omega
    refine ⟨_, fun _ _ h => h, ?_⟩
    walk_at "go"
    refine g_tyL w hp2 ?_
    walk_at "go"
    refine g_tyL w hp1 ?_
    walk_at "go"
    refine g_lenL w (SqL.of hp1) ?_
    walk_at "go"
    refine ⟨rfl, rfl, _, a, c, _, rfl, w, by rw [List.length_cons]; omega, by omega, fun r H4 r0 r1 w4 => ?_⟩
    walk_at "go"
    have hlt : r.toNat < (y :: lf).length := by omega
    refine g_popAt w4 hp1 (by omega) (by omega) (seqIx_of r0 r1) (List.getElem?_eq_getElem hlt) fun H5 w5 => ?_
    have e5 : upd (upd (upd G p1 (.lst (y :: lf))) p2 (.lst fd)) p1 (.lst ((y :: lf).eraseIdx r.toNat)) = upd (upd G p1 (.lst ((y :: lf).eraseIdx r.toNat))) p2 (.lst fd) := by rw [upd_comm d21.symm, upd_upd]
    rw [e5] at w5
    walk_at "go"
    refine g_app w5 upd_same (by rw [sizeLine_eq]; omega) fun H6 w6 => ?_
    rw [upd_upd] at w6
    walk_at "go"
    have le : ((y :: lf).eraseIdx r.toNat).length = lf.length := by rw [List.length_eraseIdx, if_pos hlt]; rfl
    refine ⟨_, ?_, _, _, rfl, rfl, w6, List.Perm.trans ?_ h0⟩
    · rw [le, List.length_cons]; omega
    · have pe := perm_erase _ _ hlt
      have := (pe.append_right fd)
      refine List.Perm.trans ?_ this
      rw [List.cons_append, ← List.append_assoc]
      exact List.perm_append_singleton _ _
end
def PrsAt (G : Hp) (rs pas : List Addr) : Prop := ∀ p ∈ pas, ∃ x : Addr × Addr, PrAt G p x ∧ x.1 ∈ rs ∧ x.2 ∈ rs
theorem PrsAt.same {G G' : Hp} {rs pas : List Addr} (h : PrsAt G rs pas) (e : Same G G') : PrsAt G' rs pas := fun p hp => let ⟨x, h1, h2⟩ := h p hp; ⟨x, e _ _ h1, h2⟩
theorem refs_of {rs : List Addr} : ∀ {ys : List V}, (∀ y ∈ ys, y ∈ rs.map V.ref) → ∃ zs : List Addr, ys = zs.map V.ref ∧ ∀ z ∈ zs, z ∈ rs
  | [], _ => ⟨[], rfl, fun z hz => absurd hz List.not_mem_nil⟩
  | y :: ys, h => by
    obtain ⟨zs, rfl, h1⟩ := refs_of fun z hz => h z (List.mem_cons_of_mem _ hz)
    obtain ⟨a, ha, rfl⟩ := List.mem_map.mp (h y List.mem_cons_self)
    exact ⟨a :: zs, rfl, fun z hz => (List.mem_cons.mp hz).elim (fun e => e ▸ ha) (h1 z)⟩
section
variable {P : Program} {wo : World} {A : Ad} {K : PySem.W.Frag} {mg : Str → Option Value} {base : Heap}
def spLps (K : PySem.W.Frag) : Sp := fun vs H Q _ => ∃ (G : Hp) (a c rl : Addr) (rs : List Addr), vs = [.ref a, .ref rl] ∧ Wd G (RD a c) H ∧ SqL K G rl (rs.map V.ref) ∧ 2 ≤ rs.length ∧ rs.length ≤ 12 ∧
  ∀ (pl : Addr) (pas : List Addr) (G' H' : Hp), Same G G' → G' pl = some (.lst (pas.map V.ref)) → pas.length ≤ 60 → PrsAt G' rs pas → Wd G' (RD a c) H' → Q (.ref pl) H'
theorem sc__law_pairs : FnScope (["_law_state", "_law_rows", "_law_found", "_law_turn", "_law_some"] : List Str) (["_law_state", "_law_rows"] : List Str) (defScope s__law_pairs) := ⟨rfl, rfl, rfl, by decide +kernel, rfl, by decide +kernel, by decide +kernel⟩
theorem ok_lps {f : Addr} {fd : FuncData} (F : Fun K "_law_pairs" "_law_pairs" s__law_pairs f fd) (T : Txt K mg A) (Gd : GFn P wo K mg base 1 "_law_draw" 2 [] (fun vs _ => spDraw vs)) (Gp : GFn P wo K mg base 2 "_law_pick" 2 [] (fun vs _ => spPick K vs)) (Gm : GFn P wo K mg base 2 "_law_mixed" 2 [] (fun vs _ => spMixed K vs)) : FnOk P wo K mg base (L2.CX P wo) 3 f fd (["_law_state", "_law_rows"] : List Str) (spLps K) := by
  refine okT F sc__law_pairs (fun vs H Q E h => ?_) (fun cdv Ar outer s H vs Q E hr tk po h => ?_)
  · obtain ⟨_, _, _, _, _, rfl, _⟩ := h
    rfl
  obtain ⟨G, a, c, rl, rs, rfl, w, hrl, r2, r12, k⟩ := h
  refine ⟨_, (pss_cons (ps_set (i := 2) sc__law_pairs.nd rfl (by first | exact Or.inl rfl | exact Or.inr rfl) (pe_lst pa_nil))
      (pss_cons (ps_for po rfl (pi_range1 (by rfl) T.nb_range (pa_cons (pe_callG Gd (hr.mono (by decide)) tk (pa_cons (pv 0) (pa_cons pe_int pa_nil)) pk_nil) pa_nil)) (pg_name (i := 3) sc__law_pairs.nd rfl (by first | exact Or.inl rfl | exact Or.inr rfl)) (pss_one (ps_expr (pe_bm PySem.F.plainAttrs_list PySem.F.slot_list_append PySem.F.type_list_append mt_append (pv 2) (pa_cons (pe_tup (pa_cons (pe_callG Gp (hr.mono (by decide)) tk (pa_cons (pv 0) (pa_cons (pv 1) pa_nil)) pk_nil) (pa_cons (pe_callG Gp (hr.mono (by decide)) tk (pa_cons (pv 0) (pa_cons (pv 1) pa_nil)) pk_nil) pa_nil))) pa_nil)))))
      (pss_cons (ps_for po rfl (pi_range1 (by rfl) T.nb_range (pa_cons (pe_callG Gd (hr.mono (by decide)) tk (pa_cons (pv 0) (pa_cons pe_int pa_nil)) pk_nil) pa_nil)) (pg_name (i := 3) sc__law_pairs.nd rfl (by first | exact Or.inl rfl | exact Or.inr rfl)) (pss_cons (ps_set (i := 4) sc__law_pairs.nd rfl (by first | exact Or.inl rfl | exact Or.inr rfl) (pe_slice (ka_sl K) (pe_callG Gm (hr.mono (by decide)) tk (pa_cons (pv 0) (pa_cons (pv 1) pa_nil)) pk_nil) po_none (po_some (pe_op (ka_add K) pe_int (pe_callG Gd (hr.mono (by decide)) tk (pa_cons (pv 0) (pa_cons pe_int pa_nil)) pk_nil)))))
      (pss_one (ps_set (i := 2) sc__law_pairs.nd rfl (by first | exact Or.inl rfl | exact Or.inr rfl) (pe_op (ka_add K) (pv 2) (pe_listZip K rfl (by rfl) T.nb_list (by rfl) T.nb_zip (pa_cons (pv 4) (pa_cons (pe_op (ka_add K) (pe_slice (ka_sl K) (pv 4) (po_some pe_int) po_none) (pe_slice (ka_sl K) (pv 4) po_none (po_some pe_int))) pa_nil))))))))
      (pss_one (ps_ret (pe_callG Gm (hr.mono (by decide)) tk (pa_cons (pv 0) (pa_cons (pv 2) pa_nil)) pk_nil)))))), ?_⟩
  walk_at "go"
  refine g_newL w (by walk_at "sz") fun fl H1 nf w1 => ?_
  walk_at "go"
  refine ⟨rfl, rfl, _, a, c, _, rfl, w1, by omega, by omega, fun r H2 r0 r1 w2 => ?_⟩
  walk_at "go"
  refine ⟨r, rfl, by omega, by omega, ?_⟩
  refine for_it itf_range (fun i σ' H' => ∃ y3 y4 Gi pas, σ' = [some (.ref a), some (.ref rl), some (.ref fl), y3, y4] ∧ Same G Gi ∧ Gi fl = none ∧ Wd (upd Gi fl (.lst (pas.map V.ref))) (RD a c) H' ∧ PrsAt Gi rs pas ∧ pas.length ≤ i)
    ⟨_, _, G, [], rfl, Same.refl G, nf, w2, fun p hp => absurd hp List.not_mem_nil, Nat.le_refl _⟩ (fun _ _ _ _ _ => trivial) ?_ ?_
  · clear w w1 w2
    rintro i v σ' H3 H4 hi ⟨y3, y4, Gi, pas, rfl, si, ni, w, hps, hpl⟩ ⟨rfl, rfl⟩
    have hfl : upd Gi fl (.lst (pas.map V.ref)) fl = some (.lst (pas.map V.ref)) := upd_same
    have sf := Same.trans si (Same.newG ni (o := .lst (pas.map V.ref)))
    walk_at "go"
    refine g_tyL w hfl ?_
    walk_at "go"
    refine ⟨rfl, rfl, _, a, c, w, .inl ⟨rl, rs.map V.ref, rfl, .inl (Evl.ex_l sf hrl), by rw [List.length_map]; omega, by rw [List.length_map]; omega, fun x H5 hx w5 => ?_⟩⟩
    obtain ⟨x, hxr, rfl⟩ := List.mem_map.mp hx
    walk_at "go"
    refine ⟨rfl, rfl, _, a, c, w5, .inl ⟨rl, rs.map V.ref, rfl, .inl (Evl.ex_l sf hrl), by rw [List.length_map]; omega, by rw [List.length_map]; omega, fun y H6 hy w6 => ?_⟩⟩
    obtain ⟨y, hyr, rfl⟩ := List.mem_map.mp hy
    walk_at "go"
    refine g_newL w6 (by walk_at "sz") fun t H7 nt w7 => ?_
    walk_at "go"
    have tf : t ≠ fl := fun e => by rw [e, hfl] at nt; cases nt
    have nti : Gi t = none := by rwa [upd_ne tf] at nt
    rw [upd_comm tf] at w7
    refine g_app w7 upd_same (by rw [List.length_map, sizeLine_eq]; omega) fun H8 w8 => ?_
    rw [upd_upd] at w8
    walk_at "go"
    have st : Same Gi (upd Gi t (.tup [V.ref x, V.ref y])) := Same.newG nti
    refine ⟨_, _, upd Gi t (.tup [V.ref x, V.ref y]), pas ++ [t], rfl, Same.trans si st, by rw [upd_ne (Ne.symm tf)]; exact ni, by rw [List.map_append]; exact w8, fun q hq => ?_, by rw [List.length_append, List.length_singleton]; omega⟩
    rcases List.mem_append.mp hq with hq | hq
    · exact hps.same st q hq
    · rw [List.mem_singleton.mp hq]
      exact ⟨(x, y), upd_same, hxr, hyr⟩
  · clear w w1 w2
    rintro σ' H3 ⟨y3, y4, Gi, pas, rfl, si, ni, w, hps, hpl⟩
    have hfl : upd Gi fl (.lst (pas.map V.ref)) fl = some (.lst (pas.map V.ref)) := upd_same
    have si := Same.trans si (Same.newG ni (o := .lst (pas.map V.ref)))
    have hps := hps.same (Same.newG ni (o := .lst (pas.map V.ref)))
    have hpl : pas.length ≤ 14 := by omega
    generalize upd Gi fl (.lst (pas.map V.ref)) = Gi at *
    walk_at "go"
    refine ⟨rfl, rfl, _, a, c, _, rfl, w, by omega, by omega, fun r2 H4 q0 q1 w4 => ?_⟩
    walk_at "go"
    refine ⟨r2, rfl, by omega, by omega, ?_⟩
    refine for_it itf_range (fun i σ' H' => ∃ fl y3 y4 Gi pas, σ' = [some (.ref a), some (.ref rl), some (.ref fl), y3, y4] ∧ Same G Gi ∧ Gi fl = some (.lst (pas.map V.ref)) ∧ Wd Gi (RD a c) H' ∧ PrsAt Gi rs pas ∧ pas.length ≤ 14 + 12 * i)
      ⟨fl, _, _, Gi, pas, rfl, si, hfl, w4, hps, by omega⟩ (fun _ _ _ _ _ => trivial) ?_ ?_
    · clear w w4 si hps hfl hpl ni
      rintro i v σ' H5 H6 hi ⟨fl, y3, y4, Gi, pas, rfl, si, hfl, w, hps, hpl⟩ ⟨rfl, rfl⟩
      walk_at "go"
      refine ⟨rfl, rfl, _, a, c, rl, rs.map V.ref, rfl, w, Evl.ex_l si hrl, by rw [List.length_map]; omega, fun p H7 ys hys np w7 => ?_⟩
      obtain ⟨zs, rfl, hzs⟩ := refs_of (rs := rs) fun y hy => hys.mem_iff.mp hy
      have lz : zs.length = rs.length := by
        have := hys.length_eq
        rw [List.length_map, List.length_map] at this
        exact this
      have s7 : Same Gi (upd Gi p (.lst (zs.map V.ref))) := Same.newG np
      have hp7 : upd Gi p (.lst (zs.map V.ref)) p = some (.lst (zs.map V.ref)) := upd_same
      generalize upd Gi p (.lst (zs.map V.ref)) = G7 at *
      walk_at "go"
      refine ⟨rfl, rfl, _, a, c, _, rfl, w7, by omega, by omega, fun r3 H8 z0 z1 w8 => ?_⟩
      walk_at "go"
      obtain ⟨j, rfl⟩ : ∃ j : Nat, r3 = j := ⟨r3.toNat, by omega⟩
      rw [show (2 : Int) + (j : Int) = ((2 + j : Nat) : Int) by omega]
      refine g_slLA w8 (SqL.of hp7) fun p9 G9 H9 _ s9 hp9 w9 => ?_
      rw [cut_to, ← List.map_take] at hp9
      have lt2 : 2 ≤ (zs.take (2 + j)).length := by rw [List.length_take]; omega
      have lt12 : (zs.take (2 + j)).length ≤ 12 := by rw [List.length_take]; omega
      have hzt : ∀ z ∈ zs.take (2 + j), z ∈ rs := fun z hz => hzs z (List.mem_of_mem_take hz)
      generalize zs.take (2 + j) = zt at *
      walk_at "go"
      refine g_lz ?_
      walk_at "go"
      refine g_slLA w9 (SqL.of hp9) fun pA GA HA _ sA hpA wA => ?_
      rw [show (1 : Int) = ((1 : Nat) : Int) from rfl, cut_from, ← List.map_drop] at hpA
      walk_at "go"
      refine g_slLA wA (SqL.of (sA _ _ hp9)) fun pB GB HB _ sB hpB wB => ?_
      rw [show (1 : Int) = ((1 : Nat) : Int) from rfl, cut_to, ← List.map_take] at hpB
      walk_at "go"
      refine g_addLA wB (sB _ _ hpA) hpB (by rw [List.length_map, List.length_map, List.length_drop, List.length_take, sizeLine_eq]; omega) fun pC GC HC _ sC hpC wC => ?_
      rw [← List.map_append] at hpC
      walk_at "go"
      have lc : (zt.drop 1 ++ zt.take 1).length = zt.length := by rw [List.length_append, List.length_drop, List.length_take]; omega
      refine g_lzW (t := false) wC (SqL.of (sC _ _ (sB _ _ (sA _ _ hp9)))) (SqL.of hpC) (by rw [List.length_map, List.length_map, lc]) (by rw [List.length_map, sizeLine_eq]; omega) fun S ts GD HD sD _ hS lts hts wD => ?_
      have sAll : Same Gi GD := Same.trans s7 (Same.trans s9 (Same.trans sA (Same.trans sB (Same.trans sC sD))))
      rw [List.length_map] at lts
      refine g_addLA wD (sAll _ _ hfl) hS (by rw [List.length_map, List.length_map, sizeLine_eq]; omega) fun pE GE HE _ sE hpE wE => ?_
      rw [← List.map_append] at hpE
      walk_at "go"
      refine ⟨pE, _, _, GE, pas ++ ts, rfl, Same.trans si (Same.trans sAll sE), hpE, wE, fun q hq => ?_, by rw [List.length_append]; omega⟩
      rcases List.mem_append.mp hq with hq | hq
      · exact hps.same (Same.trans sAll sE) q hq
      · obtain ⟨i0, hi0⟩ := List.mem_iff_getElem?.mp hq
        have li : i0 < zt.length := by rw [← lts]; exact (List.getElem?_eq_some_iff.mp hi0).1
        have ex : zt[i0]? = some zt[i0] := List.getElem?_eq_getElem li
        have ey : (zt.drop 1 ++ zt.take 1)[i0]? = some ((zt.drop 1 ++ zt.take 1)[i0]'(by omega)) := List.getElem?_eq_getElem (by omega)
        have mx := List.mem_of_getElem? ex
        have my := List.mem_of_getElem? ey
        generalize zt[i0] = x at *
        generalize (zt.drop 1 ++ zt.take 1)[i0]'(by omega) = y at *
        have := hts i0 q (.ref x) (.ref y) hi0 (by rw [List.getElem?_map, ex]; rfl) (by rw [List.getElem?_map, ey]; rfl)
        refine ⟨(x, y), sE _ _ this, hzt x mx, hzt y ?_⟩
        rcases List.mem_append.mp my with m | m
        · exact List.mem_of_mem_drop m
        · exact List.mem_of_mem_take m
    · clear w w4 si hps hfl hpl ni
      rintro σ' H5 ⟨fl, y3, y4, Gi, pas, rfl, si, hfl, w, hps, hpl⟩
      walk_at "go"
      refine ⟨rfl, rfl, _, a, c, fl, pas.map V.ref, rfl, w, SqL.of hfl, by rw [List.length_map]; omega, fun p H7 ys hys np w7 => ?_⟩
      obtain ⟨zs, rfl, hzs⟩ := refs_of (rs := pas) fun y hy => hys.mem_iff.mp hy
      have lz : zs.length = pas.length := by
        have := hys.length_eq
        rw [List.length_map, List.length_map] at this
        exact this
      walk_at "go"
      exact k p zs _ H7 (Same.trans si (Same.newG np)) upd_same (by omega) (fun q hq => (hps.same (Same.newG np)) q (hzs q hq)) w7
end
structure Rb (n k : Nat) (d : PyData) : Prop where
  s : d.showable = true
  dp : d.depth ≤ k
  l : d.shown.length ≤ n
theorem Rb.mono {n m k : Nat} {d : PyData} (h : Rb n k d) (e : n ≤ m) : Rb m k d := ⟨h.s, h.dp, Nat.le_trans h.l e⟩
theorem int_shown {i : Int} (h : i.natAbs < 10 ^ 41) : (PyData.int i).showable = true ∧ (PyData.int i).shown.length ≤ 42 := by
  have hl : i.natAbs.log2 < 1920 := by
    by_cases h0 : i.natAbs = 0
    · rw [h0]
      decide
    · exact Nat.lt_of_lt_of_le ((Nat.log2_lt h0).mpr (Nat.lt_of_lt_of_le h (show 10 ^ 41 ≤ 2 ^ 137 by decide +kernel))) (by decide)
  refine ⟨decide_eq_true hl, ?_⟩
  show (Str.ofString (toString i)).length ≤ 42
  rw [PySem.ofString_length]
  exact int_text_length_le10 (by decide) h
theorem str_shown {s : Str} (h : PyData.strOk s = true) : (PyData.str s).shown.length ≤ 10 * s.length + 2 := by
  refine StrLaws.reprText_len s fun c hc => ?_
  unfold PyData.strOk at h
  have := (Array.all_eq_true'.mp h) c (by simpa using hc)
  have h1 := of_decide_eq_true this
  exact Nat.lt_of_lt_of_le h1 (by decide)
theorem all_rb {n k : Nat} : ∀ {ds : List PyData}, (∀ d ∈ ds, Rb n k d) → PyData.showableAll ds = true ∧ PyData.depthAll ds ≤ k ∧ (PyData.shownAll ds).length = ds.length ∧ ((PyData.shownAll ds).map (·.length)).sum ≤ ds.length * n
  | [], _ => ⟨rfl, Nat.zero_le _, rfl, Nat.zero_le _⟩
  | x :: r, h => by
    obtain ⟨a1, a2, a3, a4⟩ := all_rb (ds := r) fun d hd => h d (List.mem_cons_of_mem _ hd)
    have hx := h x List.mem_cons_self
    refine ⟨?_, ?_, ?_, ?_⟩
    · simp only [PyData.showableAll, hx.s, a1, Bool.and_self]
    · have := hx.dp
      simp only [PyData.depthAll]
      omega
    · simp only [PyData.shownAll, List.length_cons, a3]
    · have := hx.l
      simp only [PyData.shownAll, List.map_cons, List.sum_cons, List.length_cons, Nat.succ_mul]
      omega
theorem tup_rb {n k m : Nat} {ds : List PyData} (h : ∀ d ∈ ds, Rb n k d) (hm : ds.length ≤ m) : Rb (m * (n + 2) + 3) (k + 1) (.tuple ds) := by
  obtain ⟨a1, a2, a3, a4⟩ := all_rb h
  refine ⟨?_, ?_, ?_⟩
  · simp only [PyData.showable, a1]
  · simp only [PyData.depth]
    omega
  · simp only [PyData.shown]
    have h1 := tupleText_len_le (PyData.shownAll ds)
    rw [a3] at h1
    have e1 : ds.length * n + 2 * ds.length = ds.length * (n + 2) := by rw [Nat.mul_comm 2 ds.length, ← Nat.mul_add]
    have e2 : ds.length * (n + 2) ≤ m * (n + 2) := Nat.mul_le_mul_right _ hm
    omega
theorem lst_rb {n k m : Nat} {ds : List PyData} (h : ∀ d ∈ ds, Rb n k d) (hm : ds.length ≤ m) : Rb (m * (n + 2) + 3) (k + 1) (.list ds) := by
  obtain ⟨a1, a2, a3, a4⟩ := all_rb h
  refine ⟨?_, ?_, ?_⟩
  · simp only [PyData.showable, a1]
  · simp only [PyData.depth]
    omega
  · simp only [PyData.shown]
    have h1 := listText_len_le (PyData.shownAll ds)
    rw [a3] at h1
    have e1 : ds.length * n + 2 * ds.length = ds.length * (n + 2) := by rw [Nat.mul_comm 2 ds.length, ← Nat.mul_add]
    have e2 : ds.length * (n + 2) ≤ m * (n + 2) := Nat.mul_le_mul_right _ hm
    omega
theorem dq_all {α : Type} {K : PySem.W.Frag} {G : Hp} {f : α → V} {g : α → PyData} : ∀ {l : List α}, (∀ x ∈ l, Dq K G (f x) (g x)) → DqAll K G (l.map f) (l.map g)
  | [], _ => .nil
  | x :: r, h => .cons (h x List.mem_cons_self) (dq_all fun y hy => h y (List.mem_cons_of_mem _ hy))
theorem g_reprB {K : PySem.W.Frag} {G : Hp} {R : Res} {H : Hp} {v : V} {d : PyData} {Q : VK} {n k : Nat} (w : Wd G R H) (h : Dq K G v d) (t : Rb n k d) (hn : n ≤ 1000000) (hk : k ≤ 90) (q : Q (.str d.shown) H) : qRepr K [v] H Q :=
  ⟨v, d, rfl, h.mono w.sub, t.s, Nat.le_trans t.dp (by omega), by have := t.l; rw [sizeLine_eq]; omega, q⟩
abbrev RowV := Str × Int
def RowL (G : Hp) (l : List (Addr × RowV)) : Prop := ∀ x ∈ l, G x.1 = some (.tup [.str x.2.1, .int x.2.2])
theorem RowL.nil {G : Hp} : RowL G [] := fun x hx => absurd hx List.not_mem_nil
theorem RowL.same {G G' : Hp} {l : List (Addr × RowV)} (h : RowL G l) (e : Same G G') : RowL G' l := fun x hx => e _ _ (h x hx)
theorem RowL.snoc {G G' : Hp} {l : List (Addr × RowV)} (h : RowL G l) (e : Same G G') {a : Addr} {s : Str} {i : Int} (ha : G' a = some (.tup [.str s, .int i])) : RowL G' (l ++ [(a, (s, i))]) := fun x hx => by
  rcases List.mem_append.mp hx with hx | hx
  · exact e _ _ (h x hx)
  · rw [List.mem_singleton.mp hx]
    exact ha
def kOf (G : Hp) (a : Addr) : RowV := match G a with
  | some (.tup [.str s, .int i]) => (s, i)
  | _ => (Str.empty, 0)
theorem RowL.rows {G : Hp} {l : List (Addr × RowV)} (h : RowL G l) (nd : (l.map Prod.snd).Nodup) (ok : ∀ x ∈ l, PyData.strOk x.2.1 = true) {rs : List Addr} (hr : ∀ a ∈ rs, a ∈ l.map Prod.fst) : RowsAt G rs (kOf G) := by
  have key : ∀ a ∈ rs, ∃ x ∈ l, x.1 = a ∧ kOf G a = x.2 := fun a ha => by
    obtain ⟨x, hx, rfl⟩ := List.mem_map.mp (hr a ha)
    refine ⟨x, hx, rfl, ?_⟩
    unfold kOf
    rw [h x hx]
  refine ⟨fun a ha => ?_, fun a ha b hb e => ?_, fun a ha => ?_⟩
  · obtain ⟨x, hx, rfl, e⟩ := key a ha
    rw [e]
    exact h x hx
  · obtain ⟨x, hx, rfl, e1⟩ := key a ha
    obtain ⟨y, hy, rfl, e2⟩ := key b hb
    have e3 : x.2 = y.2 := by rw [← e1, ← e2, e]
    obtain ⟨i, hi⟩ := List.mem_iff_getElem?.mp hx
    obtain ⟨j, hj⟩ := List.mem_iff_getElem?.mp hy
    have e4 : i = j := by
      have li := (List.getElem?_eq_some_iff.mp hi).1
      have lj := (List.getElem?_eq_some_iff.mp hj).1
      refine (List.getElem?_inj (l := l.map Prod.snd) (by rw [List.length_map]; exact li) nd).mp ?_
      rw [List.getElem?_map, List.getElem?_map, hi, hj]
      exact congrArg some e3
    subst e4
    rw [hi] at hj
    cases hj
    rfl
  · obtain ⟨x, hx, rfl, e⟩ := key a ha
    rw [e]
    exact ok x hx
def VALS : List RowV := [("a", 1), ("a", 2), ("a", 10), ("b", 0), ("b", 3), ("c", 2), ("zz", 1), ("b", 12), ("c", 0), ("d", 7), ("zz", 0), ("d", 11)]
theorem vals_nd : VALS.Nodup := by decide +kernel
theorem vals_ok : ∀ v ∈ VALS, PyData.strOk v.1 = true ∧ v.1.length ≤ 10 ∧ v.2.natAbs < 10 ^ 41 := by
  have : VALS.all (fun v => PyData.strOk v.1 && (decide (v.1.length ≤ 10) && decide (v.2.natAbs < 10 ^ 41))) = true := by decide +kernel
  intro v hv
  have h := List.all_eq_true.mp this v hv
  simp only [Bool.and_eq_true, decide_eq_true_eq] at h
  exact h
theorem Rb.up {n k m : Nat} {d : PyData} (h : Rb n k d) (e : k ≤ m) : Rb n m d := ⟨h.s, Nat.le_trans h.dp e, h.l⟩
theorem rowD_rb {x : RowV} (h : x ∈ VALS) : Rb 211 1 (rowD x) := by
  obtain ⟨h1, h2, h3⟩ := vals_ok x h
  refine tup_rb (n := 102) (m := 2) (k := 0) (fun d hd => ?_) (Nat.le_refl _)
  rcases List.mem_cons.mp hd with rfl | hd
  · have := str_shown h1
    exact ⟨rfl, Nat.le_refl _, by omega⟩
  · rw [List.mem_singleton.mp hd]
    obtain ⟨q1, q2⟩ := int_shown h3
    exact ⟨q1, Nat.le_refl _, by omega⟩
theorem prD_rb {x : RowV × RowV} (h1 : x.1 ∈ VALS) (h2 : x.2 ∈ VALS) : Rb 429 2 (prD x) := by
  refine tup_rb (n := 211) (m := 2) (k := 1) (fun d hd => ?_) (Nat.le_refl _)
  rcases List.mem_cons.mp hd with rfl | hd
  · exact rowD_rb h1
  · rw [List.mem_singleton.mp hd]
    exact rowD_rb h2
def shD (κ : Addr → RowV) (π : Addr → Addr × Addr) (pas gs : List Addr) : PyData := .tuple [.list (pas.map fun p => prD (κ (π p).1, κ (π p).2)), .list (gs.map fun a => rowD (κ a))]
theorem shD_rb {κ : Addr → RowV} {π : Addr → Addr × Addr} {pas gs rs : List Addr} (hκ : ∀ a ∈ rs, κ a ∈ VALS) (hp : ∀ p ∈ pas, (π p).1 ∈ rs ∧ (π p).2 ∈ rs) (hg : ∀ a ∈ gs, a ∈ rs) (lp : pas.length ≤ 60) (lg : gs.length ≤ 60) : Rb 51733 4 (shD κ π pas gs) := by
  refine tup_rb (n := 25863) (m := 2) (k := 3) (fun d hd => ?_) (Nat.le_refl _)
  rcases List.mem_cons.mp hd with rfl | hd
  · refine lst_rb (n := 429) (m := 60) (k := 2) (fun d hd => ?_) (by rw [List.length_map]; exact lp)
    obtain ⟨p, m, rfl⟩ := List.mem_map.mp hd
    exact prD_rb (hκ _ (hp p m).1) (hκ _ (hp p m).2)
  · rw [List.mem_singleton.mp hd]
    refine (lst_rb (n := 429) (m := 60) (k := 2) (fun d hd => ?_) (by rw [List.length_map]; exact lg))
    obtain ⟨a, m, rfl⟩ := List.mem_map.mp hd
    exact ((rowD_rb (hκ _ (hg a m))).mono (by decide)).up (by decide)
theorem shD_dq {K : PySem.W.Frag} {G : Hp} {rs : List Addr} {κ : Addr → RowV} (RA : RowsAt G rs κ) {π : Addr → Addr × Addr} {pas gs : List Addr} {pl gl t : Addr} (hpl : G pl = some (.lst (pas.map V.ref))) (hgl : G gl = some (.lst (gs.map V.ref))) (hp : ∀ p ∈ pas, PrAt G p (π p) ∧ (π p).1 ∈ rs ∧ (π p).2 ∈ rs) (hg : ∀ a ∈ gs, a ∈ rs)
    (ht : G t = some (.tup [.ref pl, .ref gl])) : Dq K G (.ref t) (shD κ π pas gs) := by
  have row : ∀ a ∈ rs, Dq K G (.ref a) (rowD (κ a)) := fun a ha => .tup (SqT.of (RA.at_ a ha)) (.cons (.str _) (.cons (.int _) .nil))
  refine .tup (SqT.of ht) (.cons (.lst (SqL.of hpl) (dq_all fun p hm => ?_)) (.cons (.lst (SqL.of hgl) (dq_all fun a hm => row a (hg a hm))) .nil))
  obtain ⟨h1, h2, h3⟩ := hp p hm
  exact .tup (SqT.of h1) (.cons (row _ h2) (.cons (row _ h3) .nil))
theorem RowL.val {G : Hp} {l : List (Addr × RowV)} (h : RowL G l) {a : Addr} (ha : a ∈ l.map Prod.fst) : kOf G a ∈ l.map Prod.snd := by
  obtain ⟨x, hx, rfl⟩ := List.mem_map.mp ha
  have : kOf G x.1 = x.2 := by
    unfold kOf
    rw [h x hx]
  rw [this]
  exact List.mem_map_of_mem hx
def prOf (G : Hp) (p : Addr) : Addr × Addr := match G p with
  | some (.tup [.ref x, .ref y]) => (x, y)
  | _ => (0, 0)
theorem PrsAt.of {G : Hp} {rs pas : List Addr} (h : PrsAt G rs pas) : ∀ p ∈ pas, PrAt G p (prOf G p) ∧ (prOf G p).1 ∈ rs ∧ (prOf G p).2 ∈ rs := fun p hp => by
  obtain ⟨⟨x, y⟩, h1, h2, h3⟩ := h p hp
  have h1 : G p = some (.tup [.ref x, .ref y]) := h1
  have e : prOf G p = (x, y) := by
    unfold prOf
    rw [h1]
  rw [e]
  exact ⟨h1, h2, h3⟩
theorem nx_left {G : Hp} {rs : List Addr} {κ : Addr → RowV} (RA : RowsAt G rs κ) {π : Addr → Addr × Addr} {pas gs left : List Addr} (hp : ∀ p ∈ pas, (π p).1 ∈ rs ∧ (π p).2 ∈ rs) (hl : ∀ a, a ∈ left ↔ a ∈ rs ∧ a ∉ gs) (a b : Addr) :
    b ∈ nxS π (pas.filter fun p => stepOf left (π p)) a ↔ b ∈ nxOf gs (srtOf κ π pas) a := by
  rw [nxS_mem, nxOf_mem]
  constructor
  · rintro ⟨p, hm, e⟩
    obtain ⟨h1, h2⟩ := List.mem_filter.mp hm
    refine ⟨by rw [← e]; exact srt_all RA hp h1, ?_⟩
    rw [e] at h2
    unfold stepOf at h2
    unfold goes
    simp only [Bool.and_eq_true, decide_eq_true_eq, Bool.not_eq_true', decide_eq_false_iff_not] at h2 ⊢
    exact ⟨h2.2.2, ((hl _).mp h2.1).2, ((hl _).mp h2.2.1).2⟩
  · rintro ⟨h1, h2⟩
    obtain ⟨p, hm, e⟩ := srt_mem h1
    refine ⟨p, List.mem_filter.mpr ⟨hm, ?_⟩, e⟩
    have hr := hp p hm
    rw [e] at hr ⊢
    unfold goes at h2
    unfold stepOf
    simp only [Bool.and_eq_true, decide_eq_true_eq, Bool.not_eq_true', decide_eq_false_iff_not] at h2 ⊢
    exact ⟨(hl _).mpr ⟨hr.1, h2.2.1⟩, (hl _).mpr ⟨hr.2, h2.2.2⟩, h2.1⟩
theorem law_best {G : Hp} {rs : List Addr} {κ : Addr → RowV} (RA : RowsAt G rs κ) {π : Addr → Addr × Addr} {pas gs left : List Addr} (hp : ∀ p ∈ pas, (π p).1 ∈ rs ∧ (π p).2 ∈ rs) (hl : ∀ a, a ∈ left ↔ a ∈ rs ∧ a ∉ gs) (ll : left.length ≤ rs.length) {o : Option Nat}
    (ho : Bfs.LeastAt (nxS π (pas.filter fun p => stepOf left (π p))) left.length o) :
    (Bfs.bestOf (nxOf gs (srtOf κ π pas)) rs.length (ksrt κ π pas gs) none = none ∧ o = none) ∨ ∃ c s, Bfs.bestOf (nxOf gs (srtOf κ π pas)) rs.length (ksrt κ π pas gs) none = some c ∧ o = some c.length ∧ Bfs.IsCyc (nxOf gs (srtOf κ π pas)) s c ∧ ∀ a ∈ c, a ∈ rs := by
  have mem : ∀ a b, b ∈ nxOf gs (srtOf κ π pas) a → a ∈ rs ∧ b ∈ rs ∧ b ∉ gs := fun a b h => by
    obtain ⟨h1, h2⟩ := nxOf_mem.mp h
    obtain ⟨p, hm, e⟩ := srt_mem h1
    have hr := hp p hm
    rw [e] at hr
    unfold goes at h2
    simp only [Bool.and_eq_true, decide_eq_true_eq] at h2
    exact ⟨hr.1, hr.2, h2.2.2⟩
  have h1 := least_iff (nx_left RA hp hl) ho
  have h2 := least_up (fun a b h => (hl b).mpr (mem a b h).2) ll h1
  refine Bfs.best_least (fun a b h => (mem a b h).2.1) (fun s hs => ?_) (fun a ha => ksrt_mem.mpr (ks_nx.mpr ha)) h2
  obtain ⟨b, r, e⟩ := List.exists_cons_of_ne_nil (ks_nx.mp (ksrt_mem.mp hs))
  exact (mem s b (by rw [e]; exact List.mem_cons_self)).1
set_option maxHeartbeats 8000000
def spLaw (K : PySem.W.Frag) : Sp := fun vs H Q _ => ∃ (s : Addr) (ns : List Int), vs = [.ref s] ∧ SqL K H s (ns.map V.int) ∧ ∀ H', Q (.bl true) H'
def Fnd (K : PySem.W.Frag) (G : Hp) : Option (List Addr) → V → Prop
  | none, v => v = .non
  | some c, v => ∃ t, v = .ref t ∧ SqT K G t (c.map V.ref)
theorem Fnd.same {K : PySem.W.Frag} {G G' : Hp} {b : Option (List Addr)} {v : V} (h : Fnd K G b v) (e : Same G G') : Fnd K G' b v := by
  cases b with
  | none => exact h
  | some c => obtain ⟨t, e1, e2⟩ := h; exact ⟨t, e1, Evl.ex_t e e2⟩
theorem sh_of {K : PySem.W.Frag} {P : Program} {wo : World} {G H : Hp} {R : Res} {Q : VK} {E : XK} {pl wl : Addr} {rs pas gs : List Addr} {κ : Addr → RowV} {π : Addr → Addr × Addr} (w : Wd G R H) (RA : RowsAt G rs κ) (hrs : rs.length ≤ 12) (hpl : SqT K G pl (pas.map V.ref) ∨ G pl = some (.lst (pas.map V.ref))) (hwl : SqT K G wl (gs.map V.ref) ∨ G wl = some (.lst (gs.map V.ref)))
    (lp : pas.length ≤ 60) (lg : gs.length ≤ 12) (hpp : ∀ p ∈ pas, PrAt G p (π p) ∧ (π p).1 ∈ rs ∧ (π p).2 ∈ rs) (hgs : ∀ a ∈ gs, a ∈ rs) (k : ∀ v G' H', Same G G' → Fnd K G' (Bfs.bestOf (nxOf gs (srtOf κ π pas)) rs.length (ksrt κ π pas gs) none) v → Wd G' R H' → Q v H') : spSh K P wo [.ref pl, .ref wl] H Q E :=
  ⟨G, R, pl, wl, rs, κ, π, pas, gs, rfl, w, RA, hrs, hpl, hwl, lp, lg, hpp, hgs, fun h G' H' s w => k _ G' H' s (by rw [h]; rfl) w, fun c h t G' H' s ht w => k _ G' H' s (by rw [h]; exact ⟨t, rfl, ht⟩) w⟩
theorem sqT_set {K : PySem.W.Frag} {G : Hp} {fl t : Addr} {xs ys : List V} {o : HO} (h : SqT K G t xs) (hf : G fl = some (.lst ys)) : SqT K (upd G fl o) t xs := by
  rcases h with (h | ⟨u, h⟩) | h
  · refine .inl (.inl ?_)
    rw [upd_ne (fun z => by rw [z, hf] at h; cases h)]
    exact h
  · refine .inl (.inr ⟨u, ?_⟩)
    rw [upd_ne (fun z => by rw [z, hf] at h; cases h)]
    exact h
  · exact .inr h
theorem Fnd.set {K : PySem.W.Frag} {G : Hp} {fl : Addr} {ys : List V} {o : HO} {b : Option (List Addr)} {v : V} (h : Fnd K G b v) (hf : G fl = some (.lst ys)) : Fnd K (upd G fl o) b v := by
  cases b with
  | none => exact h
  | some c => obtain ⟨t, e1, e2⟩ := h; exact ⟨t, e1, sqT_set e2 hf⟩
theorem rowT_shaped {rs : List Addr} {κ : Addr → RowV} (ok : ∀ a ∈ rs, PyData.strOk (κ a).1 = true) {bs : List Addr} (h : ∀ b ∈ bs, b ∈ rs) : SeqAt.shaped (.tuple (bs.map fun b => rowD (κ b))) = true := by
  obtain ⟨h1, h2⟩ := rowDs_can ok bs h
  unfold SeqAt.shaped
  rw [Bool.and_eq_true, decide_eq_true_iff]
  constructor
  · simpa [PyData.canLay0] using h1
  · simp [PyData.depth]
    omega
theorem rowT_self {κ : Addr → RowV} : ∀ bs : List Addr, PyData.eqvAll (bs.map fun b => rowD (κ b)) (bs.map fun b => rowD (κ b)) = true
  | [] => rfl
  | b :: bs => by
    rw [List.map_cons]
    simp only [PyData.eqvAll, rowD_eqv, rowT_self bs, decide_true, Bool.and_self]
section
variable {P : Program} {wo : World} {A : Ad} {K : PySem.W.Frag} {mg : Str → Option Value} {base : Heap}
theorem sc_law : FnScope (["_law_script", "_law_state", "_law_turn", "_law_names", "_law_rows", "_law_pairs_here", "_law_gone", "_law_shown", "_law_least_here", "_law_found", "_law_cycle", "_law_row"] : List Str) (["_law_script"] : List Str) (defScope s_law) := ⟨rfl, rfl, rfl, by decide +kernel, rfl, by decide +kernel, by decide +kernel⟩
theorem ok_law {f : Addr} {fd : FuncData} (F : Fun K "law" "law" s_law f fd) (T : Txt K mg A) (hun : ∀ H, SqT K H A.unit []) (Gb : GFn P wo K mg base 1 "_law_begun" 1 [] (fun vs _ => spBegun K vs)) (Gd : GFn P wo K mg base 1 "_law_draw" 2 [] (fun vs _ => spDraw vs)) (Gm : GFn P wo K mg base 2 "_law_mixed" 2 [] (fun vs _ => spMixed K vs))
    (Glps : GFn P wo K mg base 3 "_law_pairs" 2 [] (fun vs _ => spLps K vs)) (Gll : GFn P wo K mg base 2 "_law_least" 2 [] (fun vs _ => spLl K P wo vs)) (Gic : GFn P wo K mg base 2 "_law_is_cycle" 3 [] (fun vs _ => spIc K vs)) (Gsc : GFn P wo K mg base 3 "shortest_cycle" 1 [] (fun vs zs => spSh K P wo (vs ++ ([.ref A.unit] ++ zs))))
    (Gsck : GFn P wo K mg base 3 "shortest_cycle" 1 ["without"] (fun vs zs => spSh K P wo (vs ++ zs))) : FnG P wo K mg base (L2.CX P wo) 4 f fd (["_law_script"] : List Str) (spLaw K) := by
  refine okG F sc_law (fun vs H Q E h => ?_) (fun cdv Ar outer s H vs Q E hr hgd tk po h => ?_)
  · obtain ⟨_, _, rfl, _⟩ := h
    rfl
  obtain ⟨l, ns, rfl, hl, k⟩ := h
  refine ⟨_, (pss_cons (ps_set (i := 1) sc_law.nd rfl (by first | exact Or.inl rfl | exact Or.inr rfl) (pe_callG Gb (hr.mono (by decide)) tk (pa_cons (pv 0) pa_nil) pk_nil))
      (pss_cons (ps_for po rfl (pi_range1 (by rfl) T.nb_range (pa_cons pe_int pa_nil)) (pg_name (i := 2) sc_law.nd rfl (by first | exact Or.inl rfl | exact Or.inr rfl)) (pss_cons (ps_set (i := 3) sc_law.nd rfl (by first | exact Or.inl rfl | exact Or.inr rfl) (pe_lst (pa_cons (pe_tup (pa_cons pe_str (pa_cons pe_int pa_nil))) (pa_cons (pe_tup (pa_cons pe_str (pa_cons pe_int pa_nil))) (pa_cons (pe_tup (pa_cons pe_str (pa_cons pe_int pa_nil))) (pa_cons (pe_tup (pa_cons pe_str (pa_cons pe_int pa_nil))) (pa_cons (pe_tup (pa_cons pe_str (pa_cons pe_int pa_nil))) (pa_cons (pe_tup (pa_cons pe_str (pa_cons pe_int pa_nil))) (pa_cons (pe_tup (pa_cons pe_str (pa_cons pe_int pa_nil))) (pa_cons (pe_tup (pa_cons pe_str (pa_cons pe_int pa_nil))) pa_nil))))))))))
      (pss_cons (ps_set (i := 3) sc_law.nd rfl (by first | exact Or.inl rfl | exact Or.inr rfl) (pe_callG Gm (hr.mono (by decide)) tk (pa_cons (pv 1) (pa_cons (pe_op (ka_add K) (pv 3) (pe_lst (pa_cons (pe_tup (pa_cons pe_str (pa_cons pe_int pa_nil))) (pa_cons (pe_tup (pa_cons pe_str (pa_cons pe_int pa_nil))) (pa_cons (pe_tup (pa_cons pe_str (pa_cons pe_int pa_nil))) (pa_cons (pe_tup (pa_cons pe_str (pa_cons pe_int pa_nil))) pa_nil)))))) pa_nil)) pk_nil))
      (pss_cons (ps_set (i := 4) sc_law.nd rfl (by first | exact Or.inl rfl | exact Or.inr rfl) (pe_slice (ka_sl K) (pv 3) po_none (po_some (pe_op (ka_add K) pe_int (pe_callG Gd (hr.mono (by decide)) tk (pa_cons (pv 1) (pa_cons pe_int pa_nil)) pk_nil)))))
      (pss_cons (ps_set (i := 5) sc_law.nd rfl (by first | exact Or.inl rfl | exact Or.inr rfl) (pe_callG Glps (hr.mono (by decide)) tk (pa_cons (pv 1) (pa_cons (pv 4) pa_nil)) pk_nil))
      (pss_cons (ps_set (i := 6) sc_law.nd rfl (by first | exact Or.inl rfl | exact Or.inr rfl) (pe_slice (ka_sl K) (pe_callG Gm (hr.mono (by decide)) tk (pa_cons (pv 1) (pa_cons (pv 4) pa_nil)) pk_nil) po_none (po_some (pe_callG Gd (hr.mono (by decide)) tk (pa_cons (pv 1) (pa_cons pe_int pa_nil)) pk_nil))))
      (pss_cons (ps_set (i := 7) sc_law.nd rfl (by first | exact Or.inl rfl | exact Or.inr rfl) (pe_callB (ka_reprQ K hgd (hu120 hr)) (by rfl) T.nb_repr (by decide +kernel) (pa_cons (pe_tup (pa_cons (pv 5) (pa_cons (pv 6) pa_nil))) pa_nil)))
      (pss_cons (ps_set (i := 8) sc_law.nd rfl (by first | exact Or.inl rfl | exact Or.inr rfl) (pe_callG Gll (hr.mono (by decide)) tk (pa_cons (pv 5) (pa_cons (pe_callB (ka_sortedL K (hu32 hr)) (by rfl) T.nb_sorted (by decide +kernel) (pa_cons (pe_lc (own := [("_law_row", 11)]) (g := (gName 11)) (tt := _) rfl sc_law.nd (ki_list K (pv 4)) (blkOk_by (N := (["_law_script", "_law_state", "_law_turn", "_law_names", "_law_rows", "_law_pairs_here", "_law_gone", "_law_shown", "_law_least_here", "_law_found", "_law_cycle", "_law_row"] : List Str)) (sc := defScope s_law) (by decide +kernel)) (fun _ _ _ _ _ => (pg_name (i := 11) sc_law.nd rfl (by first | exact Or.inl rfl | exact Or.inr rfl))) (fun _ _ _ _ _ => (pts_one (pt_cmpR (ka_niDL K (Nat.lt_of_le_of_lt (Nat.add_le_add_left (by decide : 65 ≤ 120) _) (hu120 hr))) (pv 11) (pv 6) (by first | exact nomark _ | rfl)))) (fun _ _ _ _ _ => (pv 11))) pa_nil)) pa_nil)) pk_nil))
      (pss_cons (ps_set (i := 9) sc_law.nd rfl (by first | exact Or.inl rfl | exact Or.inr rfl) (pe_lst (pa_cons (pe_callG Gsck (hr.mono (by decide)) tk (pa_cons (pv 5) pa_nil) (pk_cons (pv 6) pk_nil)) (pa_cons (pe_callG Gsck (hr.mono (by decide)) tk (pa_cons (pe_callTy call_tuple_of (by rfl) T.nb_tuple (by decide +kernel) (pa_cons (pv 5) pa_nil)) pa_nil) (pk_cons (pe_callTy call_tuple_of (by rfl) T.nb_tuple (by decide +kernel) (pa_cons (pv 6) pa_nil)) pk_nil)) pa_nil))))
      (pss_cons (ps_if (pt_cmpR (op_eqL0 K hr.units) (pv 6) (pe_lst pa_nil) (nomark _)) (pss_one (ps_expr (pe_bm PySem.F.plainAttrs_list PySem.F.slot_list_append PySem.F.type_list_append mt_append (pv 9) (pa_cons (pe_callG Gsc (hr.mono (by decide)) tk (pa_cons (pv 5) pa_nil) pk_nil) pa_nil)))) pss_nil)
      (pss_cons (ps_for po rfl (ki_list K (pv 9)) (pg_name (i := 10) sc_law.nd rfl (by first | exact Or.inl rfl | exact Or.inr rfl)) (pss_one (ps_if (PW.pt (pw_or (pt_cmpR op_isN (pv 10) pe_non (nomark _)) (pw_or1 (pt_cmpR op_isN (pv 8) pe_non (nomark _))))) (pss_one (ps_if (PW.pt (pw_or (pt_cmpR op_notN (pv 10) pe_non (nomark _)) (pw_or1 (pt_cmpR op_notN (pv 8) pe_non (nomark _))))) (pss_one (ps_ret pe_bl)) pss_nil)) (pss_one (ps_if (PW.pt (pw_or (pt_cmpR (ka_ne K hr.units) (pe_callB (ka_len K) (by rfl) T.nb_len (by decide +kernel) (pa_cons (pv 10) pa_nil)) (pv 8) (nomark _)) (pw_or1 (pt_not (kt_truth K (pe_callG Gic (hr.mono (by decide)) tk (pa_cons (pv 5) (pa_cons (pv 10) (pa_cons (pv 6) pa_nil))) pk_nil) (by intro _; rfl)))))) (pss_one (ps_ret pe_bl)) pss_nil)))))
      (pss_one (ps_if (PW.pt (pw_or (pt_cmpR (ka_ne K hr.units) (pe_callG Gsck (hr.mono (by decide)) tk (pa_cons (pv 5) pa_nil) (pk_cons (pv 6) pk_nil)) (pe_ix (ka_ix K) (pv 9) pe_int (fun _ _ => rfl)) (nomark _)) (pw_or1 (pt_cmpR (ka_ne K hr.units) (pe_callB (ka_reprQ K hgd (hu120 hr)) (by rfl) T.nb_repr (by decide +kernel) (pa_cons (pe_tup (pa_cons (pv 5) (pa_cons (pv 6) pa_nil))) pa_nil)) (pv 7) (nomark _))))) (pss_one (ps_ret pe_bl)) pss_nil)))))))))))))
      (pss_one (ps_ret pe_bl)))), ?_⟩
  walk_at "go"
  refine ⟨rfl, rfl, l, ns, rfl, hl, fun a c H1 w => ?_⟩
  walk_at "go"
  refine ⟨4, rfl, by omega, by omega, ?_⟩
  refine for_it itf_range (fun i σ' H' => ∃ y2 y3 y4 y5 y6 y7 y8 y9 y10 y11 Gi, σ' = [some (.ref l), some (.ref a), y2, y3, y4, y5, y6, y7, y8, y9, y10, y11] ∧ Wd Gi (RD a c) H')
    ⟨_, _, _, _, _, _, _, _, _, _, H, rfl, w⟩ (fun _ _ _ _ _ => trivial) ?_ ?_
  · clear w
    rintro i v σ' H2 H3 hi ⟨y2, y3, y4, y5, y6, y7, y8, y9, y10, y11, Gi, rfl, w2⟩ ⟨rfl, rfl⟩
    have L0 := RowL.nil (G := Gi)
    walk_at "go"
    refine g_newA w2 (by walk_at "sz") fun p1 G1 H21 n1 s1 h1 w21 => ?_
    walk_at "go"
    have L1 := L0.snoc s1 h1
    refine g_newA w21 (by walk_at "sz") fun p2 G2 H22 n2 s2 h2 w22 => ?_
    walk_at "go"
    have L2 := L1.snoc s2 h2
    refine g_newA w22 (by walk_at "sz") fun p3 G3 H23 n3 s3 h3 w23 => ?_
    walk_at "go"
    have L3 := L2.snoc s3 h3
    refine g_newA w23 (by walk_at "sz") fun p4 G4 H24 n4 s4 h4 w24 => ?_
    walk_at "go"
    have L4 := L3.snoc s4 h4
    refine g_newA w24 (by walk_at "sz") fun p5 G5 H25 n5 s5 h5 w25 => ?_
    walk_at "go"
    have L5 := L4.snoc s5 h5
    refine g_newA w25 (by walk_at "sz") fun p6 G6 H26 n6 s6 h6 w26 => ?_
    walk_at "go"
    have L6 := L5.snoc s6 h6
    refine g_newA w26 (by walk_at "sz") fun p7 G7 H27 n7 s7 h7 w27 => ?_
    walk_at "go"
    have L7 := L6.snoc s7 h7
    refine g_newA w27 (by walk_at "sz") fun p8 G8 H28 n8 s8 h8 w28 => ?_
    walk_at "go"
    have L8 := L7.snoc s8 h8
    refine g_newA w28 (by walk_at "sz") fun pa Ga Ha na sa ha wa => ?_
    walk_at "go"
    have L8a := L8.same sa
    refine g_newA wa (by walk_at "sz") fun p9 G9 H29 n9 s9 h9 w29 => ?_
    walk_at "go"
    have L9 := L8a.snoc s9 h9
    refine g_newA w29 (by walk_at "sz") fun p10 G10 H30 n10 s10 h10 w30 => ?_
    walk_at "go"
    have L10 := L9.snoc s10 h10
    refine g_newA w30 (by walk_at "sz") fun p11 G11 H31 n11 s11 h11 w31 => ?_
    walk_at "go"
    have L11 := L10.snoc s11 h11
    refine g_newA w31 (by walk_at "sz") fun p12 G12 H32 n12 s12 h12 w32 => ?_
    walk_at "go"
    have L12 := L11.snoc s12 h12
    refine g_newA w32 (by walk_at "sz") fun pb Gb2 Hb nb sb hb wb => ?_
    walk_at "go"
    have LB := L12.same sb
    have ha2 := sb _ _ (s12 _ _ (s11 _ _ (s10 _ _ (s9 _ _ ha))))
    refine g_addLA wb ha2 hb (by walk_at "sz") fun pc Gc Hc nc sc hc2 wc => ?_
    walk_at "go"
    have LC := LB.same sc
    obtain ⟨ls, RL, hv, hpc⟩ : ∃ ls : List (Addr × RowV), RowL Gc ls ∧ ls.map Prod.snd = VALS ∧ Gc pc = some (.lst ((ls.map Prod.fst).map V.ref)) := ⟨_, LC, rfl, hc2⟩
    have l12 : ls.length = 12 := by
      have := congrArg List.length hv
      rw [List.length_map] at this
      exact this
    clear L0 L1 L2 L3 L4 L5 L6 L7 L8 L8a L9 L10 L11 L12 LB LC ha2 hc2 hb wb ha wa
    refine ⟨rfl, rfl, Gc, a, c, pc, _, rfl, wc, SqL.of hpc, by rw [List.length_map, List.length_map]; omega, fun pm Hm ys hys nm wm => ?_⟩
    obtain ⟨zs, rfl, hzs⟩ := refs_of (rs := ls.map Prod.fst) fun y hy => hys.mem_iff.mp hy
    have lz : zs.length = 12 := by
      have := hys.length_eq
      rw [List.length_map, List.length_map, List.length_map, l12] at this
      exact this
    have sm : Same Gc (upd Gc pm (.lst (zs.map V.ref))) := Same.newG nm
    have hpm : upd Gc pm (.lst (zs.map V.ref)) pm = some (.lst (zs.map V.ref)) := upd_same
    generalize upd Gc pm (.lst (zs.map V.ref)) = Gm0 at *
    walk_at "go"
    refine ⟨rfl, rfl, _, a, c, _, rfl, wm, by omega, by omega, fun r Hr r0 r1 wr => ?_⟩
    walk_at "go"
    obtain ⟨j, rfl⟩ : ∃ j : Nat, r = j := ⟨r.toNat, by omega⟩
    rw [show (2 : Int) + (j : Int) = ((2 + j : Nat) : Int) by omega]
    refine g_slLA wr (SqL.of hpm) fun pr Gr Hr2 _ sr hpr wr2 => ?_
    rw [cut_to, ← List.map_take] at hpr
    have rs2 : 2 ≤ (zs.take (2 + j)).length := by rw [List.length_take]; omega
    have rs12 : (zs.take (2 + j)).length ≤ 12 := by rw [List.length_take]; omega
    have hrs : ∀ a ∈ zs.take (2 + j), a ∈ ls.map Prod.fst := fun a ha => hzs a (List.mem_of_mem_take ha)
    generalize zs.take (2 + j) = rs at *
    walk_at "go"
    refine ⟨rfl, rfl, Gr, a, c, pr, rs, rfl, wr2, SqL.of hpr, rs2, rs12, fun pl pas Gp Hp sp hpl lpas hps wp => ?_⟩
    have RLp := RL.same (Same.trans sm (Same.trans sr sp))
    have RA := RLp.rows (by rw [hv]; exact vals_nd) (fun x hx => (vals_ok x.2 (by rw [← hv]; exact List.mem_map_of_mem hx)).1) hrs
    have hκ : ∀ a ∈ rs, kOf Gp a ∈ VALS := fun a ha => by rw [← hv]; exact RLp.val (hrs a ha)
    have hpp := hps.of
    have hpr := sp _ _ hpr
    generalize kOf Gp = κ at *
    generalize prOf Gp = π at *
    clear RLp RL hpc hys nm wm wr wr2 hpm sm sr sp hps
    walk_at "go"
    refine ⟨rfl, rfl, Gp, a, c, pr, rs.map V.ref, rfl, wp, SqL.of hpr, by rw [List.length_map]; omega, fun pg Hg ys2 hys2 ng wg => ?_⟩
    obtain ⟨gz, rfl, hgz⟩ := refs_of (rs := rs) fun y hy => hys2.mem_iff.mp hy
    have lgz : gz.length = rs.length := by
      have := hys2.length_eq
      rw [List.length_map, List.length_map] at this
      exact this
    have sg : Same Gp (upd Gp pg (.lst (gz.map V.ref))) := Same.newG ng
    have hpg : upd Gp pg (.lst (gz.map V.ref)) pg = some (.lst (gz.map V.ref)) := upd_same
    generalize upd Gp pg (.lst (gz.map V.ref)) = Gg at *
    walk_at "go"
    refine ⟨rfl, rfl, _, a, c, _, rfl, wg, by omega, by omega, fun r2 Hr3 q0 q1 wr3 => ?_⟩
    walk_at "go"
    obtain ⟨j2, rfl⟩ : ∃ j : Nat, r2 = j := ⟨r2.toNat, by omega⟩
    refine g_slLA wr3 (SqL.of hpg) fun pw Gw Hw _ sw hpw ww => ?_
    rw [cut_to, ← List.map_take] at hpw
    have hgs : ∀ a ∈ gz.take j2, a ∈ rs := fun a ha => hgz a (List.mem_of_mem_take ha)
    have lgs : (gz.take j2).length ≤ 12 := by rw [List.length_take]; omega
    generalize gz.take j2 = gs at *
    have s0 := Same.trans sg sw
    have RA := RA.same s0
    have hpl := s0 _ _ hpl
    have hpr := s0 _ _ hpr
    have hpp : ∀ p ∈ pas, PrAt Gw p (π p) ∧ (π p).1 ∈ rs ∧ (π p).2 ∈ rs := fun p hp => ⟨s0 _ _ (hpp p hp).1, (hpp p hp).2⟩
    clear hpg ng hys2 wg wr3 wp sg sw s0 hgz lgz
    walk_at "go"
    refine g_newA ww (by walk_at "sz") fun tt Gt Ht _ st htt wt => ?_
    walk_at "go"
    refine g_reprB wt (shD_dq (RA.same st) (st _ _ hpl) (st _ _ hpw) (fun p hp => ⟨st _ _ (hpp p hp).1, (hpp p hp).2⟩) hgs htt) (shD_rb hκ (fun p hp => (hpp p hp).2) hgs lpas (by omega)) (by omega) (by omega) ?_
    have RA := RA.same st
    have hpl := st _ _ hpl
    have hpr := st _ _ hpr
    have hpw := st _ _ hpw
    have hpp : ∀ p ∈ pas, PrAt Gt p (π p) ∧ (π p).1 ∈ rs ∧ (π p).2 ∈ rs := fun p hp => ⟨st _ _ (hpp p hp).1, (hpp p hp).2⟩
    clear ww st
    walk_at "go"
    refine ⟨pr, rfl, ⟨_, SqL.of (wt.get hpr)⟩, ?_⟩
    refine lc_it (itf_list (xs := rs.map V.ref)) wt (fun H e => SqL.of (e _ _ hpr)) (by rw [sizeLine_eq, List.length_map]; omega) (fun i G acc => acc = ((rs.take i).filter fun a => !decide (a ∈ gs)).map V.ref) rfl ?_ ?_
    · rintro e y Gj acc D2 Ha Hb hjl ej2 nD2 hacc ha2 wj ⟨rfl, hy⟩
      rw [List.length_map] at hjl
      rw [List.getElem?_map] at hy
      obtain ⟨x, hx, rfl⟩ := Option.map_eq_some_iff.mp hy
      have eD2 := Same.trans ej2 (Same.newG nD2 (o := .lst acc))
      have htk : rs.take (e + 1) = rs.take e ++ [x] := by
        rw [List.take_add_one, hx]
        rfl
      walk_at "go"
      refine ⟨rfl, ?_⟩
      walk_at "go"
      refine g_niR (RA.same eD2) wj (List.mem_of_getElem? hx) (SqL.of (eD2 _ _ hpw)) hgs ?_
      by_cases h : x ∈ gs
      · rw [decide_eq_true h]
        walk_at "go"
        refine lc_drop (Pv := fun i G acc => acc = ((rs.take i).filter fun a => !decide (a ∈ gs)).map V.ref) wj ej2 nD2 ha2 ?_
        show acc = _
        rw [htk, List.filter_append, List.filter_cons_of_neg (p := fun a => !decide (a ∈ gs)) (a := x) (by simpa using h), List.filter_nil, List.append_nil]
        exact hacc
      · rw [decide_eq_false h]
        walk_at "go"
        refine lc_keep (n := (rs.map V.ref).length) (Pv := fun i G acc => acc = ((rs.take i).filter fun a => !decide (a ∈ gs)).map V.ref) wj ej2 nD2 ha2 (by rw [List.length_map]; exact hjl) (by rw [sizeLine_eq, List.length_map]; omega) ?_
        rw [htk, List.filter_append, List.filter_cons_of_pos (p := fun a => !decide (a ∈ gs)) (a := x) (by simpa using h), List.filter_nil, List.map_append, hacc]
        rfl
    rintro D2 Gn2 acc2 Ha2 ej2 nD2 hacc ha2 w5
    rw [List.length_map, List.take_length] at hacc
    subst hacc
    have hl0 : ∀ a, a ∈ rs.filter (fun a => !decide (a ∈ gs)) ↔ a ∈ rs ∧ a ∉ gs := fun a => by
      rw [List.mem_filter]
      simp
    have ll0 : (rs.filter fun a => !decide (a ∈ gs)).length ≤ rs.length := List.length_filter_le _ _
    generalize rs.filter (fun a => !decide (a ∈ gs)) = lf0 at *
    have s2 : Same Gt (upd Gn2 D2 (.lst (lf0.map V.ref))) := Same.trans ej2 (Same.newG nD2)
    have hD2 : upd Gn2 D2 (.lst (lf0.map V.ref)) D2 = some (.lst (lf0.map V.ref)) := upd_same
    generalize upd Gn2 D2 (.lst (lf0.map V.ref)) = G5 at *
    have RA := RA.same s2
    have hpl := s2 _ _ hpl
    have hpw := s2 _ _ hpw
    have htt := s2 _ _ htt
    have hpp : ∀ p ∈ pas, PrAt G5 p (π p) ∧ (π p).1 ∈ rs ∧ (π p).2 ∈ rs := fun p hp => ⟨s2 _ _ (hpp p hp).1, (hpp p hp).2⟩
    clear wt hpr ej2 nD2 ha2
    walk_at "go"
    refine ⟨D2, lf0.map fun a => (a, rowD (κ a)), rfl, by rw [List.map_map]; exact SqL.of (w5.get hD2), fun b hb => ?_, by rw [List.length_map, sizeLine_eq]; omega, ?_, ?_, fun p7 n7 => ?_⟩
    · obtain ⟨x, hx, rfl⟩ := List.mem_map.mp hb
      exact ⟨RA.dp w5 ((hl0 x).mp hx).1, rowD_depth _⟩
    · intro d hd d' hd'
      rw [List.map_map] at hd hd'
      obtain ⟨q, _, rfl⟩ := List.mem_map.mp hd
      obtain ⟨q', _, rfl⟩ := List.mem_map.mp hd'
      exact alike_row _ _
    · refine .inl fun d hd => ?_
      rw [List.map_map] at hd
      obtain ⟨q, _, rfl⟩ := List.mem_map.mp hd
      exact ⟨_, _, rfl⟩
    have hlm : ∀ x, x ∈ (((lf0.map fun a => (a, rowD (κ a))).mergeSort (PySem.W.dataLe false Prod.snd)).map Prod.fst) ↔ x ∈ rs ∧ x ∉ gs := fun x => by
      rw [← hl0, List.mem_map]
      constructor
      · rintro ⟨b, hb, rfl⟩
        rw [List.mem_mergeSort] at hb
        obtain ⟨q, hq, rfl⟩ := List.mem_map.mp hb
        exact hq
      · exact fun h => ⟨(x, rowD (κ x)), List.mem_mergeSort.mpr (List.mem_map.mpr ⟨x, h, rfl⟩), rfl⟩
    have llm : (((lf0.map fun a => (a, rowD (κ a))).mergeSort (PySem.W.dataLe false Prod.snd)).map Prod.fst).length ≤ rs.length := by
      rw [List.length_map, List.length_mergeSort, List.length_map]
      exact ll0
    have w7 := w5.new (o := .lst (((lf0.map fun a => (a, rowD (κ a))).mergeSort (PySem.W.dataLe false Prod.snd)).map fun b => V.ref b.1)) n7
    rw [show (((lf0.map fun a => (a, rowD (κ a))).mergeSort (PySem.W.dataLe false Prod.snd)).map fun b => V.ref b.1) = (((lf0.map fun a => (a, rowD (κ a))).mergeSort (PySem.W.dataLe false Prod.snd)).map Prod.fst).map V.ref from by rw [List.map_map]; rfl] at w7 ⊢
    generalize ((lf0.map fun a => (a, rowD (κ a))).mergeSort (PySem.W.dataLe false Prod.snd)).map Prod.fst = lf at *
    have s7 : Same G5 (upd G5 p7 (.lst (lf.map V.ref))) := Same.newG (w5.free n7)
    have h7 : upd G5 p7 (.lst (lf.map V.ref)) p7 = some (.lst (lf.map V.ref)) := upd_same
    generalize upd G5 p7 (.lst (lf.map V.ref)) = G7 at *
    have RA := RA.same s7
    have hpl := s7 _ _ hpl
    have hpw := s7 _ _ hpw
    have htt := s7 _ _ htt
    have hpp : ∀ p ∈ pas, PrAt G7 p (π p) ∧ (π p).1 ∈ rs ∧ (π p).2 ∈ rs := fun p hp => ⟨s7 _ _ (hpp p hp).1, (hpp p hp).2⟩
    clear w5 s7 s2 hl0 ll0 hD2
    walk_at "go"
    refine ⟨rfl, rfl, G7, RD a c, pl, p7, rs, κ, π, pas, lf, rfl, w7, RA, rs12, hpl, h7, lpas, by omega, hpp, fun x hx => ((hlm x).mp hx).1, fun o ho G8 H8 s8 w8 => ?_⟩
    have best := law_best RA (fun p hp => (hpp p hp).2) hlm llm ho
    have RA := RA.same s8
    have hpl := s8 _ _ hpl
    have hpw := s8 _ _ hpw
    have htt := s8 _ _ htt
    have hpp : ∀ p ∈ pas, PrAt G8 p (π p) ∧ (π p).1 ∈ rs ∧ (π p).2 ∈ rs := fun p hp => ⟨s8 _ _ (hpp p hp).1, (hpp p hp).2⟩
    clear w7 h7 hlm llm ho s8
    walk_at "go"
    refine ⟨rfl, rfl, sh_of w8 RA rs12 (.inr hpl) (.inr hpw) lpas lgs hpp hgs fun v1 G9 H9 s9 f1 w9 => ?_⟩
    walk_at "go"
    refine ⟨pl, _, rfl, .inl ⟨SqL.of (w9.get (s9 _ _ hpl)), fun t1 n1 => ?_⟩⟩
    have wA := w9.new (o := .tup (pas.map V.ref)) n1
    have sA : Same G8 (upd G9 t1 (.tup (pas.map V.ref))) := Same.trans s9 (Same.newG (w9.free n1))
    have hA : upd G9 t1 (.tup (pas.map V.ref)) t1 = some (.tup (pas.map V.ref)) := upd_same
    have f1 := f1.same (Same.newG (w9.free n1) (o := .tup (pas.map V.ref)))
    generalize upd G9 t1 (.tup (pas.map V.ref)) = GA at *
    walk_at "go"
    refine ⟨pw, _, rfl, .inl ⟨SqL.of (wA.get (sA _ _ hpw)), fun t2 n2 => ?_⟩⟩
    have wB := wA.new (o := .tup (gs.map V.ref)) n2
    have sB0 : Same GA (upd GA t2 (.tup (gs.map V.ref))) := Same.newG (wA.free n2)
    have sB : Same G8 (upd GA t2 (.tup (gs.map V.ref))) := Same.trans sA sB0
    have hB : upd GA t2 (.tup (gs.map V.ref)) t2 = some (.tup (gs.map V.ref)) := upd_same
    have hA := sB0 _ _ hA
    have f1 := f1.same sB0
    generalize upd GA t2 (.tup (gs.map V.ref)) = GB at *
    walk_at "go"
    refine ⟨rfl, rfl, sh_of wB (RA.same sB) rs12 (.inl (SqT.of hA)) (.inl (SqT.of hB)) lpas lgs (fun p hp => ⟨sB _ _ (hpp p hp).1, (hpp p hp).2⟩) hgs fun v2 GC HC sC f2 wC => ?_⟩
    have f1 := f1.same sC
    have sC := Same.trans sB sC
    have RA := RA.same sC
    have hpl := sC _ _ hpl
    have hpw := sC _ _ hpw
    have htt := sC _ _ htt
    have hpp : ∀ p ∈ pas, PrAt GC p (π p) ∧ (π p).1 ∈ rs ∧ (π p).2 ∈ rs := fun p hp => ⟨sC _ _ (hpp p hp).1, (hpp p hp).2⟩
    clear w8 w9 wA wB sA sB sB0 sC hA hB n1 n2 s9
    walk_at "go"
    refine g_newL wC (by walk_at "sz") fun fl HD nf wD => ?_
    walk_at "go1"
    dsimp only
    with_reducible refine jSeq (C := fun σ' H' => ∃ vals y10 y11 GE, σ' = [some (.ref l), some (.ref a), some (.int (0 + (i : Int))), some (.ref pm), some (.ref pr), some (.ref pl), some (.ref pw), some (.str (shD κ π pas gs).shown), some (leastV o), some (.ref fl), y10, y11] ∧ Same GC GE ∧ Wd GE (RD a c) H' ∧ GE fl = some (.lst vals) ∧
      (∀ v ∈ vals, Fnd K GE (Bfs.bestOf (nxOf gs (srtOf κ π pas)) rs.length (ksrt κ π pas gs) none) v) ∧ vals[0]? = some v1) (fun N hN => ?_) ?_
    · have hfl : upd GC fl (.lst [v1, v2]) fl = some (.lst [v1, v2]) := upd_same
      have sD : Same GC (upd GC fl (.lst [v1, v2])) := Same.newG nf
      walk_at "go"
      refine g_newL wD (by walk_at "sz") fun pE HE nE wE => ?_
      refine g_eqL0 wE (SqL.of (upd_old (sD _ _ hpw) nE)) (SqL.of upd_same) ?_
      replace wE := wE.drop (Same.newG nE)
      walk_at "go"
      have f1 := f1.same sD
      have f2 := f2.same sD
      by_cases he : gs = []
      · rw [if_pos (show (List.map V.ref gs).isEmpty = true by rw [he]; rfl)]
        walk_at "go"
        refine g_tyL wE hfl ?_
        walk_at "go"
        refine ⟨rfl, rfl, sh_of (gs := gs) wE (RA.same sD) rs12 (.inr (sD _ _ hpl)) (.inl (by rw [he]; exact hun _)) lpas lgs (fun p hp => ⟨sD _ _ (hpp p hp).1, (hpp p hp).2⟩) hgs fun v3 GF HF sF f3 wF => ?_⟩
        walk_at "go"
        refine g_app wF (sF _ _ hfl) (by rw [sizeLine_eq]; show 2 < 16777216; decide) fun HG wG => ?_
        walk_at "go"
        refine hN _ _ ⟨[v1, v2] ++ [v3], _, _, _, rfl, fun x o e => ?_, wG, upd_same, fun v hv => ?_, rfl⟩
        · rw [upd_ne (fun z => by rw [z, nf] at e; cases e)]
          exact sF _ _ (sD _ _ e)
        · rcases List.mem_append.mp hv with hv | hv
          · rcases List.mem_cons.mp hv with rfl | hv
            · exact (f1.same sF).set (sF _ _ hfl)
            · rw [List.mem_singleton.mp hv]
              exact (f2.same sF).set (sF _ _ hfl)
          · rw [List.mem_singleton.mp hv]
            exact f3.set (sF _ _ hfl)
      · rw [if_neg (show ¬ ((List.map V.ref gs).isEmpty = true) by cases gs with | nil => exact absurd rfl he | cons x r => exact Bool.false_ne_true)]
        walk_at "go"
        refine hN _ _ ⟨[v1, v2], _, _, _, rfl, sD, wE, hfl, fun v hv => ?_, rfl⟩
        rcases List.mem_cons.mp hv with rfl | hv
        · exact f1
        · rw [List.mem_singleton.mp hv]
          exact f2
    clear f1 f2 wD
    rintro σ' HE ⟨vals, y10, y11, GE, rfl, sE, wE, hfl, hfs, h0⟩
    have RA := RA.same sE
    have hpl := sE _ _ hpl
    have hpw := sE _ _ hpw
    have htt := sE _ _ htt
    have hpp : ∀ p ∈ pas, PrAt GE p (π p) ∧ (π p).1 ∈ rs ∧ (π p).2 ∈ rs := fun p hp => ⟨sE _ _ (hpp p hp).1, (hpp p hp).2⟩
    walk_at "go"
    refine ⟨fl, rfl, ⟨_, SqL.of (wE.get hfl)⟩, ?_⟩
    refine for_it (itf_list (xs := vals)) (fun e σ' H' => ∃ y10 y11 GF, σ' = [some (.ref l), some (.ref a), some (.int (0 + (i : Int))), some (.ref pm), some (.ref pr), some (.ref pl), some (.ref pw), some (.str (shD κ π pas gs).shown), some (leastV o), some (.ref fl), y10, y11] ∧ Same GE GF ∧ Wd GF (RD a c) H')
      ⟨_, _, GE, rfl, Same.refl GE, wE⟩ (fun e σ' H' _ h => ?_) ?_ ?_
    · obtain ⟨_, _, GF, _, sF, w⟩ := h
      exact SqL.of (w.get (sF _ _ hfl))
    · rintro e v σ' HF HG he ⟨y10, y11, GF, rfl, sF, wF⟩ ⟨rfl, hv⟩
      have fv := (hfs v (List.mem_of_getElem? hv)).same sF
      rcases best with ⟨hb, rfl⟩ | ⟨cy, st, hb, rfl, hc, hcr⟩
      · rw [hb] at fv
        obtain rfl : v = .non := fv
        walk_at "go"
        refine ⟨rfl, ?_⟩
        rw [decide_eq_true (rfl : V.non = V.non)]
        walk_at "go"
        refine ⟨rfl, ?_⟩
        rw [decide_eq_true (rfl : V.non = V.non)]
        walk_at "go"
        refine ⟨rfl, ?_⟩
        rw [decide_eq_true (show leastV none = V.non from rfl)]
        walk_at "go"
        exact ⟨_, _, GF, rfl, sF, wF⟩
      · rw [hb] at fv
        obtain ⟨tc, rfl, htc⟩ := fv
        walk_at "go"
        refine ⟨rfl, ?_⟩
        rw [decide_eq_false (show V.ref tc ≠ V.non from fun z => by cases z)]
        walk_at "go"
        refine ⟨rfl, ?_⟩
        rw [decide_eq_false (show leastV (some cy.length) ≠ V.non from fun z => by cases z)]
        walk_at "go"
        refine g_lenT wF htc ?_
        walk_at "go"
        rw [show leastV (some cy.length) = V.int (cy.length : Int) from rfl, List.length_map]
        refine g_neD (.int _) (.int _) rfl rfl ?_
        rw [show PyData.eqv (.int (cy.length : Int)) (.int (cy.length : Int)) = true from by simp [PyData.eqv]]
        walk_at "go"
        refine ⟨rfl, rfl, GF, RD a c, pl, tc, pw, rs, κ, π, pas, gs, cy, st, rfl, wF, RA.same sF, rs12, sF _ _ hpl, lpas, fun p hp => ⟨sF _ _ (hpp p hp).1, (hpp p hp).2⟩, htc, sF _ _ hpw, hgs, hc, hcr, fun GH HH sH wH => ?_⟩
        walk_at "go"
        exact ⟨_, _, GH, rfl, Same.trans sF sH, wH⟩
    · rintro σ' HF ⟨y10, y11, GF, rfl, sF, wF⟩
      walk_at "go"
      refine ⟨rfl, rfl, sh_of wF (RA.same sF) rs12 (.inr (sF _ _ hpl)) (.inr (sF _ _ hpw)) lpas lgs (fun p hp => ⟨sF _ _ (hpp p hp).1, (hpp p hp).2⟩) hgs fun v5 GG HG sG f5 wG => ?_⟩
      have sFG := Same.trans sF sG
      walk_at "go"
      refine g_ixL wG (SqL.of (sFG _ _ hfl)) (L2.atI_nat (j := 0) h0) ?_
      have fa := (hfs v1 (List.mem_of_getElem? h0)).same sFG
      walk_at "go"
      have cmp : ∀ Q' : VK, Q' (.bl false) HG → aNe K v5 v1 HG Q' := fun Q' q => by
        rcases best with ⟨hb, rfl⟩ | ⟨cy, st, hb, rfl, hc, hcr⟩
        · rw [hb] at f5 fa
          obtain rfl : v5 = .non := f5
          obtain rfl : v1 = .non := fa
          exact g_neD .non .non rfl rfl q
        · rw [hb] at f5 fa
          obtain ⟨ta, rfl, hta⟩ := f5
          obtain ⟨tb, rfl, htb⟩ := fa
          refine g_neD (.tup (Evl.ex_t wG.sub hta) (dps_rows (RA.same sFG) wG cy hcr)) (.tup (Evl.ex_t wG.sub htb) (dps_rows (RA.same sFG) wG cy hcr)) (rowT_shaped RA.ok hcr) (rowT_shaped RA.ok hcr) ?_
          rw [show PyData.eqv (.tuple (cy.map fun b => rowD (κ b))) (.tuple (cy.map fun b => rowD (κ b))) = true from rowT_self cy]
          exact q
      refine cmp _ ?_
      walk_at "go"
      refine g_newA wG (by walk_at "sz") fun t9 GI HI _ sI ht9 wI => ?_
      walk_at "go"
      have sGI := Same.trans sFG sI
      refine g_reprB wI (shD_dq (RA.same sGI) (sGI _ _ hpl) (sGI _ _ hpw) (fun p hp => ⟨sGI _ _ (hpp p hp).1, (hpp p hp).2⟩) hgs ht9) (shD_rb hκ (fun p hp => (hpp p hp).2) hgs lpas (by omega)) (by omega) (by omega) ?_
      walk_at "go"
      refine g_neS rfl ?_
      rw [decide_eq_true rfl]
      walk_at "go"
      exact ⟨_, _, _, _, _, _, _, _, _, _, _, rfl, wI⟩
  · rintro σ' H2 ⟨y2, y3, y4, y5, y6, y7, y8, y9, y10, y11, Gi, rfl, w2⟩
    walk_at "go"
    exact k H2
end
end Sv
set_option maxHeartbeats 4000000
namespace Sv
open PySem PySem.Spec PyProof.Rows L2 Sw
theorem all_mk : EndT := by
  intro P wo K h mg fa X G hfa hfile htop c
  obtain ⟨oc5, od11, dc7, pm8, an12, cd9, ct10, sl13, p_h14, p_h15⟩ := Hk.fnK_ok (a := x_f1 K) (x := "shortest_cycle") (q := "shortest_cycle") (ps := defArgs s_shortest_cycle) (b := defBody s_shortest_cycle) (sc := defScope s_shortest_cycle) (c.fnv 0 (d := d_0) rfl) (c.bit 0 1 (l := fb0) (f := b_1) rfl rfl) (c.bit 0 2 (l := fb0) (f := b_2) rfl rfl)
  obtain ⟨ts_h21, od18, n19, sl20, l_h21, p_h21⟩ := Hk.tup_ok (c.bit 0 5 (l := fb0) (f := b_5) rfl rfl)
  obtain rfl : ts_h21 = [] := List.eq_nil_of_length_eq_zero l_h21
  obtain ⟨oc35, od41, kV36, dc37, pm38, an42, cd39, ct40, sl43, p_h44, p_h45⟩ := Hk.fn_ok (a := x_f33 K) (x := "followers") (q := "followers") (ps := defArgs s_followers) (b := defBody s_followers) (sc := defScope s_followers) (c.fnv 1 (d := d_1) rfl) (c.bit 0 18 (l := fb0) (f := b_18) rfl rfl) (c.bit 0 19 (l := fb0) (f := b_19) rfl rfl)
  obtain ⟨oc49, od55, kV50, dc51, pm52, an56, cd53, ct54, sl57, p_h58, p_h59⟩ := Hk.fn_ok (a := x_f47 K) (x := "path_to") (q := "path_to") (ps := defArgs s_path_to) (b := defBody s_path_to) (sc := defScope s_path_to) (c.fnv 2 (d := d_2) rfl) (c.bit 0 22 (l := fb0) (f := b_22) rfl rfl) (c.bit 0 23 (l := fb0) (f := b_23) rfl rfl)
  obtain ⟨oc63, od69, kV64, dc65, pm66, an70, cd67, ct68, sl71, p_h72, p_h73⟩ := Hk.fn_ok (a := x_f61 K) (x := "cycle_from") (q := "cycle_from") (ps := defArgs s_cycle_from) (b := defBody s_cycle_from) (sc := defScope s_cycle_from) (c.fnv 3 (d := d_3) rfl) (c.bit 0 26 (l := fb0) (f := b_26) rfl rfl) (c.bit 0 27 (l := fb0) (f := b_27) rfl rfl)
  obtain ⟨oc77, od83, kV78, dc79, pm80, an84, cd81, ct82, sl85, p_h86, p_h87⟩ := Hk.fn_ok (a := x_f75 K) (x := "_law_begun") (q := "_law_begun") (ps := defArgs s__law_begun) (b := defBody s__law_begun) (sc := defScope s__law_begun) (c.fnv 4 (d := d_4) rfl) (c.bit 0 30 (l := fb0) (f := b_30) rfl rfl) (c.bit 0 31 (l := fb0) (f := b_31) rfl rfl)
  obtain ⟨oc91, od97, kV92, dc93, pm94, an98, cd95, ct96, sl99, p_h100, p_h101⟩ := Hk.fn_ok (a := x_f89 K) (x := "_law_draw") (q := "_law_draw") (ps := defArgs s__law_draw) (b := defBody s__law_draw) (sc := defScope s__law_draw) (c.fnv 5 (d := d_5) rfl) (c.bit 0 34 (l := fb0) (f := b_34) rfl rfl) (c.bit 0 35 (l := fb0) (f := b_35) rfl rfl)
  obtain ⟨oc105, od111, kV106, dc107, pm108, an112, cd109, ct110, sl113, p_h114, p_h115⟩ := Hk.fn_ok (a := x_f103 K) (x := "_law_pick") (q := "_law_pick") (ps := defArgs s__law_pick) (b := defBody s__law_pick) (sc := defScope s__law_pick) (c.fnv 6 (d := d_6) rfl) (c.bit 0 38 (l := fb0) (f := b_38) rfl rfl) (c.bit 0 39 (l := fb0) (f := b_39) rfl rfl)
  obtain ⟨oc119, od125, kV120, dc121, pm122, an126, cd123, ct124, sl127, p_h128, p_h129⟩ := Hk.fn_ok (a := x_f117 K) (x := "_law_mixed") (q := "_law_mixed") (ps := defArgs s__law_mixed) (b := defBody s__law_mixed) (sc := defScope s__law_mixed) (c.fnv 7 (d := d_7) rfl) (c.bit 1 2 (l := fb1) (f := b_42) rfl rfl) (c.bit 1 3 (l := fb1) (f := b_43) rfl rfl)
  obtain ⟨oc133, od139, kV134, dc135, pm136, an140, cd137, ct138, sl141, p_h142, p_h143⟩ := Hk.fn_ok (a := x_f131 K) (x := "_law_least") (q := "_law_least") (ps := defArgs s__law_least) (b := defBody s__law_least) (sc := defScope s__law_least) (c.fnv 8 (d := d_8) rfl) (c.bit 1 6 (l := fb1) (f := b_46) rfl rfl) (c.bit 1 7 (l := fb1) (f := b_47) rfl rfl)
  obtain ⟨oc147, od153, kV148, dc149, pm150, an154, cd151, ct152, sl155, p_h156, p_h157⟩ := Hk.fn_ok (a := x_f145 K) (x := "_law_is_cycle") (q := "_law_is_cycle") (ps := defArgs s__law_is_cycle) (b := defBody s__law_is_cycle) (sc := defScope s__law_is_cycle) (c.fnv 9 (d := d_9) rfl) (c.bit 1 10 (l := fb1) (f := b_50) rfl rfl) (c.bit 1 11 (l := fb1) (f := b_51) rfl rfl)
  obtain ⟨oc161, od167, kV162, dc163, pm164, an168, cd165, ct166, sl169, p_h170, p_h171⟩ := Hk.fn_ok (a := x_f159 K) (x := "_law_pairs") (q := "_law_pairs") (ps := defArgs s__law_pairs) (b := defBody s__law_pairs) (sc := defScope s__law_pairs) (c.fnv 10 (d := d_10) rfl) (c.bit 1 14 (l := fb1) (f := b_54) rfl rfl) (c.bit 1 15 (l := fb1) (f := b_55) rfl rfl)
  obtain ⟨oc175, od181, kV176, dc177, pm178, an182, cd179, ct180, sl183, p_h184, p_h185⟩ := Hk.fn_ok (a := x_f173 K) (x := "law") (q := "law") (ps := defArgs s_law) (b := defBody s_law) (sc := defScope s_law) (c.fnv 11 (d := d_11) rfl) (c.bit 1 18 (l := fb1) (f := b_58) rfl rfl) (c.bit 1 19 (l := fb1) (f := b_59) rfl rfl)
  have e := hfa.symm.trans (PySem.W.mg_of X G (Hk.eqV_ok (c.bit 1 17 (l := fb1) (f := b_57) rfl rfl)))
  cases e
  refine ⟨(PySem.W.fnOf "law" "law" (defArgs s_law) (defBody s_law) (defScope s_law) .none kV176 dc177 pm178 an182 cd179 ct180), fun s v => .of_eq rfl, fun base _ _ => ?_⟩
  let A : Ad := ⟨(x_ea3 K)⟩
  have T : Txt K mg A := ⟨PySem.W.mg_none_of X G (of_decide_eq_true (p := PySem.W.nsIn K mainGlobals "dict" = some none) (c.bit 0 6 (l := fb0) (f := b_6) rfl rfl)), PySem.W.mg_none_of X G (of_decide_eq_true (p := PySem.W.nsIn K mainGlobals "sorted" = some none) (c.bit 0 7 (l := fb0) (f := b_7) rfl rfl)), PySem.W.mg_none_of X G (of_decide_eq_true (p := PySem.W.nsIn K mainGlobals "tuple" = some none) (c.bit 0 8 (l := fb0) (f := b_8) rfl rfl)), PySem.W.mg_none_of X G (of_decide_eq_true (p := PySem.W.nsIn K mainGlobals "len" = some none) (c.bit 0 9 (l := fb0) (f := b_9) rfl rfl)), PySem.W.mg_none_of X G (of_decide_eq_true (p := PySem.W.nsIn K mainGlobals "abs" = some none) (c.bit 0 10 (l := fb0) (f := b_10) rfl rfl)), PySem.W.mg_none_of X G (of_decide_eq_true (p := PySem.W.nsIn K mainGlobals "list" = some none) (c.bit 0 11 (l := fb0) (f := b_11) rfl rfl)), PySem.W.mg_none_of X G (of_decide_eq_true (p := PySem.W.nsIn K mainGlobals "range" = some none) (c.bit 0 12 (l := fb0) (f := b_12) rfl rfl)), PySem.W.mg_none_of X G (of_decide_eq_true (p := PySem.W.nsIn K mainGlobals "isinstance" = some none) (c.bit 0 13 (l := fb0) (f := b_13) rfl rfl)), PySem.W.mg_none_of X G (of_decide_eq_true (p := PySem.W.nsIn K mainGlobals "set" = some none) (c.bit 0 14 (l := fb0) (f := b_14) rfl rfl)), PySem.W.mg_none_of X G (of_decide_eq_true (p := PySem.W.nsIn K mainGlobals "zip" = some none) (c.bit 0 15 (l := fb0) (f := b_15) rfl rfl)), PySem.W.mg_none_of X G (of_decide_eq_true (p := PySem.W.nsIn K mainGlobals "repr" = some none) (c.bit 0 16 (l := fb0) (f := b_16) rfl rfl))⟩
  have hun : ∀ H, SqT K H A.unit [] := fun H => Or.inr ⟨_, _, _, p_h21, rfl, rfl, by rw [sizeLine_eq]; show 0 ≤ 16777216; decide, .nil⟩
  have F_followers := fun_mk (st := s_followers) p_h44 p_h45 ((c.bit 0 20 (l := fb0) (f := b_20) rfl rfl))
  have O_followers := ok_fo (P := P) (wo := wo) (base := base) F_followers T
  have Gfo : GFn P wo K mg base _ "followers" _ _ _ := ⟨(x_f33 K), PySem.W.mg_of X G (Hk.eqV_ok (c.bit 0 17 (l := fb0) (f := b_17) rfl rfl)), ((c.bit 0 20 (l := fb0) (f := b_20) rfl rfl)), cal0 O_followers (F_followers.binds (ps := ["pairs", "without"]) fun _ _ _ _ _ _ us hl => match us, hl with | [_, _], _ => rfl) rfl⟩
  have F_path_to := fun_mk (st := s_path_to) p_h58 p_h59 ((c.bit 0 24 (l := fb0) (f := b_24) rfl rfl))
  have O_path_to := ok_pt (P := P) (wo := wo) (base := base) F_path_to T
  have Gpt : GFn P wo K mg base _ "path_to" _ _ _ := ⟨(x_f47 K), PySem.W.mg_of X G (Hk.eqV_ok (c.bit 0 21 (l := fb0) (f := b_21) rfl rfl)), ((c.bit 0 24 (l := fb0) (f := b_24) rfl rfl)), cal0 O_path_to (F_path_to.binds (ps := ["parents", "row"]) fun _ _ _ _ _ _ us hl => match us, hl with | [_, _], _ => rfl) rfl⟩
  have F_cycle_from := fun_mk (st := s_cycle_from) p_h72 p_h73 ((c.bit 0 28 (l := fb0) (f := b_28) rfl rfl))
  have O_cycle_from := ok_cf F_cycle_from T Gpt
  have Gcy : GFn P wo K mg base _ "cycle_from" _ _ _ := ⟨(x_f61 K), PySem.W.mg_of X G (Hk.eqV_ok (c.bit 0 25 (l := fb0) (f := b_25) rfl rfl)), ((c.bit 0 28 (l := fb0) (f := b_28) rfl rfl)), cal0 O_cycle_from (F_cycle_from.binds (ps := ["ahead", "start"]) fun _ _ _ _ _ _ us hl => match us, hl with | [_, _], _ => rfl) rfl⟩
  have F_sh : FunD K "shortest_cycle" "shortest_cycle" (defArgs s_shortest_cycle) (defBody s_shortest_cycle) (defScope s_shortest_cycle) [] [("without", .ref (x_ea3 K))] (x_f1 K) _ := ⟨⟨_, _, _, _, _, _, _, _, _, _, rfl, p_h14, p_h15, .inl ⟨rfl, rfl⟩, .inr ⟨_, rfl, fun q hq => by rw [List.mem_singleton] at hq; subst hq; exact ⟨_, (Hk.eqV_ok (c.bit 0 4 (l := fb0) (f := b_4) rfl rfl)), rfl⟩⟩⟩, ((c.bit 0 3 (l := fb0) (f := b_3) rfl rfl))⟩
  have O_sh := ok_sh F_sh T Gfo Gcy
  obtain ⟨mv, hb⟩ := F_sh.kbinds0 (ps := ["pairs", "without"]) 1 ["without"] [] (fun us _ ws => us ++ ws) (by simp) (by simp) (fun r _ rz => r.append rz) (fun _ _ _ _ _ _ us mv ws l1 l2 l3 => match us, ws, mv, l1, l2, l3 with | [_], [_], [], _, _, _ => rfl)
  obtain ⟨mv0, hb0⟩ := F_sh.kbinds0 (ps := ["pairs", "without"]) 1 [] [("without", V.ref (x_ea3 K))] (fun us mv ws => us ++ (mv ++ ws)) (by simp) (by simp) (fun r rm rz => r.append (rm.append rz)) (fun _ _ _ _ _ _ us mv ws l1 l2 l3 => match us, mv, ws, l1, l2, l3 with | [_], [_], [], _, _, _ => ⟨_, _, _, _, _, _, rfl, rfl, rfl⟩)
  have Gsck : GFn P wo K mg base 3 "shortest_cycle" 1 ["without"] (fun vs zs => spSh K P wo (vs ++ zs)) := ⟨(x_f1 K), PySem.W.mg_of X G (Hk.eqV_ok (c.bit 0 0 (l := fb0) (f := b_0) rfl rfl)), ((c.bit 0 3 (l := fb0) (f := b_3) rfl rfl)), calK O_sh hb⟩
  have Gsc : GFn P wo K mg base 3 "shortest_cycle" 1 [] (fun vs zs => spSh K P wo (vs ++ ([.ref A.unit] ++ zs))) := ⟨(x_f1 K), PySem.W.mg_of X G (Hk.eqV_ok (c.bit 0 0 (l := fb0) (f := b_0) rfl rfl)), ((c.bit 0 3 (l := fb0) (f := b_3) rfl rfl)), calK O_sh hb0⟩
  have F__law_begun := fun_mk (st := s__law_begun) p_h86 p_h87 ((c.bit 0 32 (l := fb0) (f := b_32) rfl rfl))
  have O__law_begun := ok_begun (P := P) (wo := wo) (base := base) F__law_begun T
  have Gb : GFn P wo K mg base _ "_law_begun" _ _ _ := ⟨(x_f75 K), PySem.W.mg_of X G (Hk.eqV_ok (c.bit 0 29 (l := fb0) (f := b_29) rfl rfl)), ((c.bit 0 32 (l := fb0) (f := b_32) rfl rfl)), cal0 O__law_begun (F__law_begun.binds (ps := ["_law_script"]) fun _ _ _ _ _ _ us hl => match us, hl with | [_], _ => rfl) rfl⟩
  have F__law_draw := fun_mk (st := s__law_draw) p_h100 p_h101 ((c.bit 0 36 (l := fb0) (f := b_36) rfl rfl))
  have O__law_draw := ok_draw (P := P) (wo := wo) (base := base) F__law_draw T
  have Gd : GFn P wo K mg base _ "_law_draw" _ _ _ := ⟨(x_f89 K), PySem.W.mg_of X G (Hk.eqV_ok (c.bit 0 33 (l := fb0) (f := b_33) rfl rfl)), ((c.bit 0 36 (l := fb0) (f := b_36) rfl rfl)), cal0 O__law_draw (F__law_draw.binds (ps := ["_law_state", "_law_bound"]) fun _ _ _ _ _ _ us hl => match us, hl with | [_, _], _ => rfl) rfl⟩
  have F__law_pick := fun_mk (st := s__law_pick) p_h114 p_h115 ((c.bit 1 0 (l := fb1) (f := b_40) rfl rfl))
  have O__law_pick := ok_pick F__law_pick T Gd
  have Gp : GFn P wo K mg base _ "_law_pick" _ _ _ := ⟨(x_f103 K), PySem.W.mg_of X G (Hk.eqV_ok (c.bit 0 37 (l := fb0) (f := b_37) rfl rfl)), ((c.bit 1 0 (l := fb1) (f := b_40) rfl rfl)), cal0 O__law_pick (F__law_pick.binds (ps := ["_law_state", "_law_some"]) fun _ _ _ _ _ _ us hl => match us, hl with | [_, _], _ => rfl) rfl⟩
  have F__law_mixed := fun_mk (st := s__law_mixed) p_h128 p_h129 ((c.bit 1 4 (l := fb1) (f := b_44) rfl rfl))
  have O__law_mixed := ok_mixed F__law_mixed T Gd
  have Gm : GFn P wo K mg base _ "_law_mixed" _ _ _ := ⟨(x_f117 K), PySem.W.mg_of X G (Hk.eqV_ok (c.bit 1 1 (l := fb1) (f := b_41) rfl rfl)), ((c.bit 1 4 (l := fb1) (f := b_44) rfl rfl)), cal0 O__law_mixed (F__law_mixed.binds (ps := ["_law_state", "_law_some"]) fun _ _ _ _ _ _ us hl => match us, hl with | [_, _], _ => rfl) rfl⟩
  have F__law_least := fun_mk (st := s__law_least) p_h142 p_h143 ((c.bit 1 8 (l := fb1) (f := b_48) rfl rfl))
  have O__law_least := ok_ll (P := P) (wo := wo) (base := base) F__law_least T
  have Gll : GFn P wo K mg base _ "_law_least" _ _ _ := ⟨(x_f131 K), PySem.W.mg_of X G (Hk.eqV_ok (c.bit 1 5 (l := fb1) (f := b_45) rfl rfl)), ((c.bit 1 8 (l := fb1) (f := b_48) rfl rfl)), cal0 O__law_least (F__law_least.binds (ps := ["_law_pairs_here", "_law_rows"]) fun _ _ _ _ _ _ us hl => match us, hl with | [_, _], _ => rfl) rfl⟩
  have F__law_is_cycle := fun_mk (st := s__law_is_cycle) p_h156 p_h157 ((c.bit 1 12 (l := fb1) (f := b_52) rfl rfl))
  have O__law_is_cycle := ok_ic (P := P) (wo := wo) (base := base) F__law_is_cycle T
  have Gic : GFn P wo K mg base _ "_law_is_cycle" _ _ _ := ⟨(x_f145 K), PySem.W.mg_of X G (Hk.eqV_ok (c.bit 1 9 (l := fb1) (f := b_49) rfl rfl)), ((c.bit 1 12 (l := fb1) (f := b_52) rfl rfl)), cal0 O__law_is_cycle (F__law_is_cycle.binds (ps := ["_law_pairs_here", "_law_found", "_law_gone"]) fun _ _ _ _ _ _ us hl => match us, hl with | [_, _, _], _ => rfl) rfl⟩
  have F__law_pairs := fun_mk (st := s__law_pairs) p_h170 p_h171 ((c.bit 1 16 (l := fb1) (f := b_56) rfl rfl))
  have O__law_pairs := ok_lps F__law_pairs T Gd Gp Gm
  have Glps : GFn P wo K mg base _ "_law_pairs" _ _ _ := ⟨(x_f159 K), PySem.W.mg_of X G (Hk.eqV_ok (c.bit 1 13 (l := fb1) (f := b_53) rfl rfl)), ((c.bit 1 16 (l := fb1) (f := b_56) rfl rfl)), cal0 O__law_pairs (F__law_pairs.binds (ps := ["_law_state", "_law_rows"]) fun _ _ _ _ _ _ us hl => match us, hl with | [_, _], _ => rfl) rfl⟩
  have F_law := fun_mk (st := s_law) p_h184 p_h185 ((c.bit 1 20 (l := fb1) (f := b_60) rfl rfl))
  exact ok_law F_law T hun Gb Gd Gm Glps Gll Gic Gsc Gsck
end Sv
open PySem PySem.W PyProof.Rows in
theorem PySem.Challenge.cw_savewise_k28_shortest_cycles_holds : PySem.Challenge.rw_savewise_k28_shortest_cycles.Holds := by
  exact Sv.headA Sv.all_mk
