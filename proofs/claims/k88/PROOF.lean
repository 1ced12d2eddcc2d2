import PyProof.Rows.All
import Wide.All
import OpenK.AllK
import Wide.FinOn
import HandS.ForMost
import HandS.Walk
import HandS.Codes
import HandS.Defaults
import HandS.IsInst
import HandS.More
import HandS.Star
import KE.KSuper
import HandS.DeepEq
import HandS.SortInts
import HandS.Sort
import PyProof.Rows.MatchSeqLen
import KE.KEqNest
import KE.KBytesNew
import PySem.Challenge.RW_tarhouse_k88_whole_unpacked_twice
import HandS.MakeKw
import HandS.MakeKwOnly
import PyProof.EqLayable
import HandS.SetKeys
import HandS.ClsMeth
import HandS.Lambda
import HandS.EndTab
import HandS.Head0
import HandS.Head1
import HandS.Head2
import HandS.HeadEnd
import HandS.HeadHook1
import HandS.HeadHook2
import HandS.HeadHook3
import HandS.HeadHook4
import HandS.HeadNt
import HandS.HeadWalk
import KE.KStateDown
import Lean
/-! K88R1 -/
section
set_option Elab.async false
set_option linter.all false
set_option maxRecDepth 100000
set_option maxHeartbeats 4000000
/-! super().m(..) in a method of a plain class: the def's own class stands in its closure. -/
namespace L2.K88
open PySem PySem.Spec PyProof.Rows

/-- the context of a body whose def closes over __class__ -/
def cxC (P : Program) (w : World) (K : PySem.W.Frag) (mg : Str → Option Value) (base : Heap) (N : List Str) (qual : Str) (scope : Scope) (f : Addr) (cd : Value) (cc : Addr) (A : Around) (outer : List Env) (s : Shared) (H : Hp) : Cx where
  prog := P
  w := w
  K := K
  mg := mg
  base := base
  A := A.deeper (PySem.W.ksEnv qual scope s.heap.objs.size f cd cc)
  N := N
  s_0 := s
  H_0 := H
  env := PySem.W.ksEnv qual scope s.heap.objs.size f cd cc
  outer := outer
  stack := PySem.W.ksEnv qual scope s.heap.objs.size f cd cc :: outer
  ex := []
  calm := true
  fn := fun x => !(x == ("__class__" : Str))
  pn := []
  xe := fun _ _ => False

/-- names of such a def: none of its own is captured -/
structure SupScope (N ps : List Str) (sc : Scope) : Prop where
  kind : sc.kind = .function
  co : sc.isCoroutine = false
  gen : sc.isGenerator = false
  nd : N.Nodup
  pre : N.take ps.length = ps
  par : ∀ x ∈ ps, sc.names.lookup x = some .local
  nocell : ∀ y ∈ sc.names, y.2 ≠ .cell
  free : ∀ x, sc.names.lookup x = some .free → x = "__class__"
  here : sc.names.lookup ("__class__" : Str) = some .free

theorem zip_rev_lookup : ∀ {ps : List Str} {us : List Value} {i : Nat} {x : Str} {u : Value}, ps.Nodup → ps[i]? = some x → us[i]? = some u → (ps.zip us).reverse.lookup x = some u
  | [], _, _, _, _, _, h, _ => by simp at h
  | _ :: _, [], _, _, _, _, _, h => by simp at h
  | p :: ps, v :: us, 0, x, u, nd, h1, h2 => by
    simp at h1 h2
    subst h1 h2
    have hn : ∀ q ∈ (ps.zip us).reverse, q.1 ≠ p := fun q hq e => (List.nodup_cons.mp nd).1 (by
      rw [← e]
      exact (List.of_mem_zip (List.mem_reverse.mp hq)).1)
    have h0 : ∀ l : List (Str × Value), (∀ q ∈ l, q.1 ≠ p) → (l ++ [(p, v)]).lookup p = some v := by
      intro l
      induction l with
      | nil => intro _; simp
      | cons q l ih =>
        intro h
        have hq : (p == q.1) = false := beq_eq_false_iff_ne.mpr fun e => h q (List.mem_cons_self ..) e.symm
        rw [List.cons_append, List.lookup_cons, hq]
        exact ih fun z hz => h z (List.mem_cons_of_mem _ hz)
    rw [List.zip_cons_cons, List.reverse_cons]
    exact h0 _ hn
  | p :: ps, v :: us, i + 1, x, u, nd, h1, h2 => by
    have ih := zip_rev_lookup (i := i) (List.nodup_cons.mp nd).2 (by simpa using h1) (by simpa using h2)
    have h0 : ∀ l m : List (Str × Value), ∀ z, l.lookup x = some z → (l ++ m).lookup x = some z := by
      intro l m z
      induction l with
      | nil => intro h; simp at h
      | cons q l ihl =>
        intro h
        rw [List.cons_append, List.lookup_cons]
        rw [List.lookup_cons] at h
        cases hb : (x == q.1) with
        | true => rw [hb] at h; exact h
        | false => rw [hb] at h; exact ihl h
    rw [List.zip_cons_cons, List.reverse_cons]
    exact h0 _ _ _ ih

theorem inv_startC {P : Program} {w : World} {K : PySem.W.Frag} {mg : Str → Option Value} {base : Heap} {N ps : List Str} {qual : Str} {scope : Scope} {f cc : Addr} {cd : Value} {A : Around} {outer : List Env} {s : Shared} {h₁ : Heap} {tk : Nat} {H : Hp} {us : List Value} {vs : List V} {ccl : Value} {ccd : Option Addr} {ccv : Option Value} {ccs : Array (Option Value)}
    (S : SupScope N ps scope) (hd : A.handled = none) (e0 : Env0 P w K mg base A outer s H) (hl : vs.length = ps.length) (r : Vals vs us) (hcc : K.lookup cc = some ⟨ccl, ccd, .cell ccv, ccs⟩)
    (hns : h₁.Ns s.heap.objs.size fun y => (ps.zip us).reverse.lookup y) (kp : ∀ b o, s.heap.get? b = some o → h₁.get? b = some o) :
    Inv (cxC P w K mg base N qual scope f cd cc A outer s H) [] (start N vs) H { s with heap := h₁, toks := tk } := by
  have hpl : ps.length ≤ N.length := by have := congrArg List.length S.pre; rw [List.length_take] at this; omega
  have noA : ∀ b : Addr, b ∉ (cxC P w K mg base N qual scope f cd cc A outer s H).ex := fun b z => absurd (show b ∈ ([] : List Addr) from z) (by simp)
  have cel : ∀ y c, (PySem.W.ksEnv qual scope s.heap.objs.size f cd cc).cells.lookup y = some c → y = "__class__" ∧ c = cc := fun y c h => by
    have h : (match y == ("__class__" : Str) with | true => some cc | false => none) = some c := h
    cases hb : (y == ("__class__" : Str)) with
    | true => rw [hb] at h; exact ⟨beq_iff_eq.mp hb, (Option.some.inj h).symm⟩
    | false => rw [hb] at h; cases h
  have hat := e0.mod.kin _ _ hcc
  refine ⟨⟨e0.mod, S.kind, rfl, rfl, Nat.le_refl _, fun y z c h1 h2 => ?_, fun y hy => ?_, fun y c hf h => ?_, fun _ => hd, Around.frames_deeper e0.frames, .inr ⟨rfl, rfl⟩, fun b z => absurd z (noA b), e0.bs, e0.bsz, fun b _ _ => noA b, fun b z => absurd z (noA b), e0.funs, e0.frf⟩,
    rfl, e0.bare, Un.kept kp, ⟨_, hns, fun i y v h1 h2 h3 => ?_⟩, fun y c h => ?_, e0.hok.fresh (Nat.le_refl _), fun y c h => ?_, fun p hp => absurd (show p ∈ ([] : List (Addr × Obj)) from hp) (by simp), e0.hok.kept kp, ?_⟩
  · rw [(cel y c h1).1, (cel z c h2).1]
  · have hy : scope.names.lookup y = some .cell ∨ scope.names.lookup y = some .free := hy
    rcases hy with hy | hy
    · exact absurd rfl (S.nocell _ (PySem.mem_of_lookup hy))
    · refine ⟨cc, ?_⟩
      rw [S.free y hy]
      rfl
  · have e := (cel y c h).1
    rw [e] at hf
    have hf : (!(("__class__" : Str) == ("__class__" : Str))) = true := hf
    rw [beq_self_eq_true] at hf
    cases hf
  · have hi : i < vs.length := by
      unfold start at h2
      by_cases hi : i < vs.length
      · exact hi
      · rw [List.getElem?_append_right (by simpa using hi)] at h2
        rw [List.getElem?_replicate] at h2
        split at h2 <;> cases h2
    have ha : vs[i]? = some v := by
      unfold start at h2
      rw [List.getElem?_append_left (by simpa using hi), List.getElem?_map] at h2
      cases e : vs[i]? with
      | none => rw [e] at h2; cases h2
      | some a => rw [e] at h2; cases h2; rfl
    obtain ⟨u, hu, rv⟩ := r.get ha
    have hp : ps[i]? = some y := by
      rw [← S.pre, List.getElem?_take_of_lt (by omega)]; exact h1
    have ndP : ps.Nodup := by rw [← S.pre]; exact S.nd.sublist (List.take_sublist _ _)
    exact ⟨u, rv, .inl ⟨S.par y (List.mem_of_getElem? hp), zip_rev_lookup ndP hp hu⟩⟩
  · rw [(cel y c h).2]
    exact ⟨ccv, _, kp _ _ (e0.bs _ _ hat).1, rfl⟩
  · rw [(cel y c h).2]
    exact (e0.bs _ _ hat).2
  · unfold start
    show _ = N.length
    rw [List.length_append, List.length_map, List.length_replicate]
    omega

/-- statements run within the def's own activation -/
structure PAt (X : Cx) (c : Code) (st : List Stmt) (t : TS) : Prop where
  run : ∀ (pins : List (Addr × Obj)) (s : Shared) (σ : St) (H : Hp) (D : Ends), Inv X pins σ H s → t D σ H → PySem.wpAt (model X.prog X.w) X.A c (execs st X.env) (SP X pins D) X.xe s
section
variable {X : Cx} {c : Code} {st : Stmt} {rest : List Stmt} {t u : TS}
theorem pat_of {sts : List Stmt} (h : PSs X sts t) : PAt X c sts t := ⟨fun pins s σ H D I q => wpAt_of_wpAny (h.run pins s σ H D I q)⟩
theorem pat_cons (h1 : PS X st t) (h2 : PAt X c rest u) : PAt X c (st :: rest) (tSeq t u) := by
  refine ⟨fun pins s σ H D I h => ?_⟩
  refine ks_wpAt_execs_cons (wpAt_of_wpAny (thn (h1.run pins s σ H { D with nx := u D } I h) fun f s1 q => ?_))
  cases f with
  | next =>
    obtain ⟨σ', H', I', q⟩ := q
    exact h2.run pins s1 σ' H' D I' q
  | ret v => exact q
  | brk => exact q
  | cont => exact q
end
/-- what K holds of a def that closes over its class D and calls super() upon an instance of C -/
structure SupK (K : PySem.W.Frag) (f cc D C : Addr) (fd : FuncData) (slf : Str) (cda : Addr) : Prop where
  lk : ∃ oc od osl, K.lookup f = some ⟨oc, od, .func fd, osl⟩
  par : ∃ ar : Arg, (fd.params.posonlyargs ++ fd.params.args).head? = some ar ∧ ar.arg = slf
  cell : ∃ cl cld csl, K.lookup cc = some ⟨cl, cld, .cell (some (.ref D)), csl⟩
  cls : ∃ cdD, PySem.W.clsIn K D = some cdD
  sub : PySem.W.mroIn K C (.ref D) = some true
  cl : Cls K C
/-- its code object tells the program's own file -/
def CodeFile (K : PySem.W.Frag) (P : Program) (cda : Addr) : Prop := ∃ ccl cdd ccs vs file tf, K.lookup cda = some ⟨ccl, cdd, .fields vs, ccs⟩ ∧ vs[2]? = some (.str file tf) ∧ ((P.main.file : Str) == file) = true
/-- super().m(e, ..) as a statement; slot 0 holds the instance -/
def tSup (C g : Addr) (sp : Sp) (ta : TA) : TS := fun D σ H => ∃ x dx fs, σ[0]? = some (some (.ref x)) ∧ H x = some (.ins C dx fs) ∧ ∀ q, H q = none → ta σ (upd H q (.met g x)) fun vs H1 => H1 q = some (.met g x) ∧ sp (.ref x :: vs) H1 (fun _ H2 => D.nx σ H2) fun _ _ _ => False
section
variable {P : Program} {w : World} {K : PySem.W.Frag} {mg : Str → Option Value} {base : Heap} {N : List Str} {qual : Str} {scope : Scope} {f cc cda : Addr} {A : Around} {outer : List Env} {s₀ : Shared} {H₀ : Hp}
theorem pat_super {CX : CXT} {k : Nat} {D C g : Addr} {fd : FuncData} {slf m : Str} {sp : Sp} {e : Expr} {es : List Expr} {rest : List Stmt} {ta : TA} {u : TS} {p0 p1 apos pos spos : Pos} {body : List Stmt} {pl : Sem Bool}
    (k0 : SupK K f cc D C fd slf cda) (kc : CodeFile K P cda) (hN : N[0]? = some slf) (hself : scope.names.lookup slf = some .local) (hks : scope.names.lookup ("super" : Str) = some .globalImplicit) (hkc : scope.names.lookup ("__class__" : Str) = some .free) (hat : (m == ("__class__" : Str)) = false)
    (hsk : scope.kind = .function) (hms : mg "super" = none) (htop : (P.main.scope.names.lookup ("super" : Str)).isSome = false) (ho : PySem.W.nsIn K PySem.cStatics "thirdparty.any" = some none) (hm : PySem.W.ks_superIn K C D m = some (some (.ref g))) (ht : PySem.W.typeIn K (.ref g) = some (.type "function")) (hfn : PySem.W.fnIn K g = true)
    (F : FnR P w K mg base CX0 k g sp) (hr : Room k (A.deeper (PySem.W.ksEnv qual scope s₀.heap.objs.size f (.ref cda) cc))) (ha : PA (cxC P w K mg base N qual scope f (.ref cda) cc A outer s₀ H₀) (e :: es) ta)
    (hrest : PAt (cxC P w K mg base N qual scope f (.ref cda) cc A outer s₀ H₀) (.func body (PySem.W.ksEnv qual scope s₀.heap.objs.size f (.ref cda) cc)) rest u)
    (hcall : eval (.Call (.Attribute (.Call (.Name "super" p0) [] [] p1) m apos) (e :: es) [] pos) (PySem.W.ksEnv qual scope s₀.heap.objs.size f (.ref cda) cc) = (do
      let ov ← attributeBase (.Call (.Name "super" p0) [] [] p1) m (PySem.W.ksEnv qual scope s₀.heap.objs.size f (.ref cda) cc) (eval (.Call (.Name "super" p0) [] [] p1) (PySem.W.ksEnv qual scope s₀.heap.objs.size f (.ref cda) cc))
      standAt apos.atName
      let (fv, first) ← holding [ov] (getMethod ov m pl)
      callWith pos fv first (backTo pos (starEach (e :: es) (PySem.W.ksEnv qual scope s₀.heap.objs.size f (.ref cda) cc))) []) := by rfl)
    (hsw : swapsWith (.Call (.Attribute (.Call (.Name "super" p0) [] [] p1) m apos) (e :: es) [] pos) none spos.line (PySem.W.ksEnv qual scope s₀.heap.objs.size f (.ref cda) cc) = pure false := by rfl)
    (he : starEach (e :: es) (PySem.W.ksEnv qual scope s₀.heap.objs.size f (.ref cda) cc) = (false, eval e (PySem.W.ksEnv qual scope s₀.heap.objs.size f (.ref cda) cc)) :: starEach es (PySem.W.ksEnv qual scope s₀.heap.objs.size f (.ref cda) cc) := by rfl) 
    (hpl : (backTo pos (starEach es (PySem.W.ksEnv qual scope s₀.heap.objs.size f (.ref cda) cc))).any (·.1) = false := by rfl) :
    PAt (cxC P w K mg base N qual scope f (.ref cda) cc A outer s₀ H₀) (.func body (PySem.W.ksEnv qual scope s₀.heap.objs.size f (.ref cda) cc))
      (.Expr (.Call (.Attribute (.Call (.Name "super" p0) [] [] p1) m apos) (e :: es) [] pos) spos :: rest) (tSeq (tSup C g sp ta) u) := by
  refine ⟨fun pins s σ H Dn I h => ?_⟩
  obtain ⟨x, dx, fs, hs0, hx, h⟩ := h
  have X : K.In s.heap := I.kIn
  obtain ⟨oc, od, osl, lk⟩ := k0.lk
  obtain ⟨ar, har, ear⟩ := k0.par
  obtain ⟨ccl, cdd, ccs, vs0, file, tf, lcode, hvs, hfile⟩ := kc
  obtain ⟨cl, cld, csl, lcell⟩ := k0.cell
  obtain ⟨cdD, hD⟩ := k0.cls
  obtain ⟨oD, hD1, hD2⟩ : ∃ oD, s.heap.get? D = some oD ∧ oD.data = .cls cdD := by
    unfold PySem.W.clsIn at hD
    split at hD
    · rename_i c d cd' sl ho
      cases hD
      exact ⟨_, X _ _ ho, rfl⟩
    · cases hD
  refine ks_wpAt_execs_cons (ks_wpAt_Expr_any ?_ I.quiet hsw)
  refine ks_wpAt_MethodCall (pl := pl) ?_ hcall
  refine ks_wpAt_super_base (env := PySem.W.ksEnv qual scope s₀.heap.objs.size f (.ref cda) cc) hks hkc hat rfl (X _ _ lk) rfl har rfl (X _ _ lcode) rfl hvs hfile htop ?_
  obtain ⟨mb, hb1, hb2⟩ := I.mod.blt
  have hg : s.heap.Ns mainGlobals mg := I.mod.glob.keeps I.bk
  have hB : s.heap.Ns builtinsNs mb := hb1.keeps I.bk
  refine PySem.W.ks_loadName_global hsk hks (Calls.loadGlobal_builtin hg hms hB ((hb2 _ (by decide +kernel)).trans (by kernel_rfl)) ⟨rfl, ?_⟩)
  refine wpAny_loadName_free hsk hkc rfl ⟨_, X _ _ lcell, rfl⟩ ?_
  obtain ⟨m0, hn, hl⟩ := I.loc
  obtain ⟨ux, rx, look⟩ := hl 0 slf (.ref x) hN hs0 (.inl hself)
  obtain rfl : ux = Value.ref x := rx
  have hv : m0 slf = some (.ref x) := by
    rcases look with ⟨_, h1⟩ | ⟨h1, _⟩
    · exact h1
    · have h1 : scope.names.lookup slf = some .cell ∨ scope.names.lookup slf = some .free := h1
      rw [hself] at h1
      rcases h1 with h1 | h1 <;> cases h1
  rw [ear]
  refine wpAny_loadName_local hsk hself hn hv ?_
  have hkey : s.heap.objs.size = s.heap.objs.size := rfl
  obtain ⟨mA, O, _⟩ := ins_get I.hok hx
  obtain ⟨odx, J, _⟩ := O.look
  have hnx : H s.heap.objs.size = none := I.hok.fresh (Nat.le_refl _)
  obtain ⟨hh, g0, d0, t0, os0⟩ := s
  refine ks_wpAny_isType_cls hD1 hD2 ⟨rfl, ?_⟩
  refine ks_wpAny_call_super hD1 hD2 J.at_ J.cls (fun c e => ?_) (PySem.W.looks_mroIn X k0.sub) (fun h' e1 kp1 => ?_)
  · have := J.no
    unfold PySem.W.notCls at this
    rw [e] at this
    exact Bool.noConfusion this
  have I1 : Inv (cxC P w K mg base N qual scope f (.ref cda) cc A outer s₀ H₀) pins σ H ⟨h', g0, d0, t0, os0⟩ := I.kept (t' := t0) kp1
  have X1 : K.In h' := I1.kIn
  cases hc : PySem.W.clsIn K C with
  | none => unfold PySem.W.ks_superIn at hm; rw [hc] at hm; cases hm
  | some cd =>
    unfold PySem.W.ks_superIn at hm
    rw [hc] at hm
    obtain ⟨of, hof, hofc⟩ : ∃ of, h'.get? g = some of ∧ of.cls = .type "function" := by
      have ht' : (K.lookup g).map (·.cls) = some (.type "function") := ht
      cases z : K.lookup g with
      | none => rw [z] at ht'; cases ht'
      | some of => rw [z] at ht'; exact ⟨of, X1 _ _ z, Option.some.inj ht'⟩
    refine ks_wpAny_getMethod_super e1 (PySem.W.looks_opaque X1 ho) (l₀ := cd.mro) ?_ rfl X1 hm hof hofc (PySem.W.ks_ne X J hc) hat ?_
    · exact fun A Q E s k q => wpAny_bind ((PySem.W.looks_clsIn X1 hc) A _ E s k (wpAny_pure q))
    · have hnq : H h'.objs.size = none := I1.hok.fresh (Nat.le_refl _)
      have I2 : Inv (cxC P w K mg base N qual scope f (.ref cda) cc A outer s₀ H₀) pins σ (upd H h'.objs.size (.met g x)) ⟨h'.push (PySem.W.methodObj (.ref g) (.ref x)), g0, d0, t0 + 1, os0⟩ :=
        I1.laid (t' := t0 + 1) (a := h'.objs.size) (o := .met g x) (fun b u z => Heap.get?_push_of_some _ z) (Nat.le_refl _)
          (show (h'.push (PySem.W.methodObj (.ref g) (.ref x))).get? h'.objs.size = some (PySem.W.methodObj (.ref g) (.ref x)) from Heap.get?_push_size h' rfl)
      have hrun : wpAny (model P w) (A.deeper (PySem.W.ksEnv qual scope s₀.heap.objs.size f (.ref cda) cc)) (spliced (backTo pos (starEach (e :: es) (PySem.W.ksEnv qual scope s₀.heap.objs.size f (.ref cda) cc))))
          (fun vs s₁ => PySem.W.MethP K h'.objs.size g (.ref x) s₁.heap ∧ wpAny (model P w) (A.deeper (PySem.W.ksEnv qual scope s₀.heap.objs.size f (.ref cda) cc)) (call (.ref h'.objs.size) ([] ++ vs)) (fun _ s' => PySem.wpAt (model P w) (A.deeper (PySem.W.ksEnv qual scope s₀.heap.objs.size f (.ref cda) cc)) (.func body (PySem.W.ksEnv qual scope s₀.heap.objs.size f (.ref cda) cc)) (execs rest (PySem.W.ksEnv qual scope s₀.heap.objs.size f (.ref cda) cc)) (SP (cxC P w K mg base N qual scope f (.ref cda) cc A outer s₀ H₀) pins Dn) (fun _ _ => False) s') (fun _ _ => False) s₁) (fun _ _ => False) ⟨h'.push (PySem.W.methodObj (.ref g) (.ref x)), g0, d0, t0 + 1, os0⟩ := by
        refine thn (ha.run pos pins _ σ _ _ I2 (h h'.objs.size hnq)) fun us s3 ⟨vs, H3, I3, rv, hq3, hsp⟩ => ⟨met_P I3 hq3, ?_⟩
        refine wpAny_call (PySem.W.method_call (met_P I3 hq3).1 ?_)
        refine codeAny_mono (F _ _ s3 H3 (Value.ref x :: us) (V.ref x :: vs) (fun v H2 => ({ Dn with nx := u Dn } : Ends).nx σ H2) (fun _ _ _ => False) hr I3.env0 (.cons rfl rv) hsp) fun r s4 hq => ?_
        cases r with
        | error e => exact hq.elim
        | ok fl =>
          cases fl with
          | ret uu =>
            obtain ⟨vv, H4, I4, _, q4⟩ := I3.after hq
            exact hrest.run pins s4 σ H4 Dn I4 q4
          | next => exact False.elim hq
          | brk => exact False.elim hq
          | cont => exact False.elim hq
      show wpAny (model P w) (A.deeper (PySem.W.ksEnv qual scope s₀.heap.objs.size f (.ref cda) cc)) (callWith pos (Value.ref h'.objs.size) [] (backTo pos (starEach (e :: es) (PySem.W.ksEnv qual scope s₀.heap.objs.size f (.ref cda) cc))) []) _ _ _
      rw [he] at hrun ⊢
      refine callwith_met (X := cxC P w K mg base N qual scope f (.ref cda) cc A outer s₀ H₀) (g := g) (a := x) ?_ hfn (Calls.evalArgs_plain hrun)
      show (false || (backTo pos (starEach es (PySem.W.ksEnv qual scope s₀.heap.objs.size f (.ref cda) cc))).any (·.1) || _) = false
      rw [hpl]
      rfl
end
/-- a method whose def closes over its class -/
theorem fn_super {P : Program} {w : World} {K : PySem.W.Frag} {mg : Str → Option Value} {base : Heap} {k : Nat} {f cc : Addr} {name qual : Str} {params : Arguments} {body : List Stmt} {scope : Scope} {dV kV doc pm cdv ct oc ccl : Value} {an od ccd : Option Addr} {ccv : Option Value}
    {osl ccs : Array (Option Value)} {N ps : List Str} {sp : Sp} (lk : K.lookup f = some ⟨oc, od, .func (PySem.W.ksFn name qual params body scope dV kV doc pm an cdv ct cc), osl⟩) (hcd : PySem.W.codeIn K cdv qual = true) (hcc : K.lookup cc = some ⟨ccl, ccd, .cell ccv, ccs⟩) (S : SupScope N ps scope)
    (len : ∀ vs H Q E, sp vs H Q E → vs.length = ps.length)
    (hbody : ∀ (A : Around) (outer : List Env) (s : Shared) (H : Hp) (vs : List V) (Q : VK) (E : XK), Room k (A.deeper (PySem.W.ksEnv qual scope s.heap.objs.size f cdv cc)) → sp vs H Q E →
      ∃ t, PAt (cxC P w K mg base N qual scope f cdv cc A outer s H) (.func body (PySem.W.ksEnv qual scope s.heap.objs.size f cdv cc)) body t ∧ t { nx := fun _ H' => Q .non H', rt := Q } (start N vs) H) :
    FnOk P w K mg base CX0 (k + 1) f (PySem.W.ksFn name qual params body scope dV kV doc pm an cdv ct cc) ps sp := by
  refine ⟨len, fun A outer s H args us vs Q E hr e0 hb r hsp => ?_⟩
  have hl := len _ _ _ _ hsp
  have KX : K.In s.heap := e0.mod.kin.keeps fun b o e => (e0.bs b o e).1
  have lim : s.heap.NoLimit := e0.mod.nolimit.keeps fun b o e => (e0.bs b o e).1
  refine ks_codeAny_call_defAt hr.depth (KX _ _ lk) rfl lim (PySem.W.codeRec_of KX hcd) rfl hb S.nocell (fun y hy => S.par y.1 (List.of_mem_zip hy).1) (fun h₁ hns kp => ?_) S.co S.gen S.kind
  obtain ⟨t, ht, hq⟩ := hbody A outer s H vs Q E (hr.deeper _) hsp
  have I := inv_startC (P := P) (w := w) (mg := mg) (qual := qual) (f := f) (cd := cdv) (tk := s.toks + (ps.zip us).length) S hr.hd e0 hl r hcc hns kp
  refine ks_wpAt_mono (ht.run [] _ (start N vs) H _ I hq) (fun fl s' hs => ?_) fun e s' hs => False.elim hs
  have fin : ∀ {σ' : St} {H' : Hp} {v : V} {u : Value}, Inv (cxC P w K mg base N qual scope f cdv cc A outer s H) [] σ' H' s' → RelV v u → Q v H' → CE outer P w H s Q u s' :=
    fun {σ' H' v u} J rv q => ⟨v, H', J.os, J.bare, J.base, J.hok, rv, q⟩
  cases fl with
  | ret u =>
    obtain ⟨v, σ', H', J, rv, q⟩ := hs
    exact fin J rv q
  | next =>
    obtain ⟨σ', H', J, q⟩ := hs
    exact fin (v := V.non) (u := Value.none) J rfl q
  | brk =>
    obtain ⟨_, _, _, q⟩ := hs
    exact False.elim q
  | cont =>
    obtain ⟨_, _, _, q⟩ := hs
    exact False.elim q

end L2.K88

end
/-! K88R2 -/
section
set_option Elab.async false
set_option linter.all false
set_option maxRecDepth 100000
set_option maxHeartbeats 4000000
/-! match statements over values, captures and sequences of a tuple -/
namespace L2.K88
open PySem PySem.Spec PyProof.Rows

/-- what a pattern binds: slots and values -/
abbrev Bs := List (Nat × V)
/-- a pattern's answer -/
abbrev BK := Option Bs → Hp → Prop
def BRel (X : Cx) : Bs → List (Str × Value) → Prop := Paired fun p q => X.N[p.1]? = some q.1 ∧ Loc X.env.scope q.1 ∧ (X.fn q.1 = true ∨ X.env.scope.names.lookup q.1 = some .local) ∧ RelV p.2 q.2
def ORel (X : Cx) : Option Bs → Option (List (Str × Value)) → Prop
  | none, none => True
  | some b, some c => BRel X b c
  | _, _ => False
theorem brel_app {X : Cx} : ∀ {a b : Bs} {c d : List (Str × Value)}, BRel X a c → BRel X b d → BRel X (a ++ b) (c ++ d)
  | _, _, _, _, .nil, h => h
  | _, _, _, _, .cons r t, h => .cons r (brel_app t h)
structure PM (X : Cx) (p : Pattern) (t : V → Hp → BK → Prop) : Prop where
  run : ∀ (pins : List (Addr × Obj)) (s : Shared) (σ : St) (H : Hp) (v : V) (u : Value) (Q : BK), Inv X pins σ H s → RelV v u → t v H Q →
    wpAny (model X.prog X.w) X.A (matchPattern p X.env u) (fun r s' => ∃ b H', Inv X pins σ H' s' ∧ ORel X b r ∧ Q b H') X.xe s
structure PMs (X : Cx) (ps : List Pattern) (t : List V → Hp → BK → Prop) : Prop where
  run : ∀ (pins : List (Addr × Obj)) (s : Shared) (σ : St) (H : Hp) (vs : List V) (us : List Value) (Q : BK), Inv X pins σ H s → Vals vs us → t vs H Q →
    wpAny (model X.prog X.w) X.A (matchEach ps X.env us) (fun r s' => ∃ b H', Inv X pins σ H' s' ∧ ORel X b r ∧ Q b H') X.xe s
section
variable {X : Cx}
/-- a written text -/
def tMStr (c : Str) : V → Hp → BK → Prop := fun v H Q => ∃ z, v = .str z ∧ (z = c → Q (some []) H) ∧ (z ≠ c → Q none H)
theorem pm_str {c : Str} {j : Nat} {p pos : Pos} : PM X (.MatchValue (.Constant (.str c) j p) pos) (tMStr c) := by
  refine ⟨fun pins s σ H v u Q I r h => ?_⟩
  obtain ⟨z, rfl, h1, h2⟩ := h
  refine wpAny_matchPattern_Value (Calls.Constant_str ?_)
  have I1 := I.tok (s.toks + 1)
  obtain ⟨t, rfl⟩ := r
  refine PyProof.Rows.eq_str ?_
  by_cases e : z = c
  · subst e
    refine wpAny_truthy_bool ?_
    simp only [beq_self_eq_true, if_true]
    exact ⟨some [], H, I1, .nil, h1 rfl⟩
  · refine wpAny_truthy_bool ?_
    rw [show (z == c) = false from beq_eq_false_iff_ne.mpr e]
    exact ⟨none, H, I1, True.intro, h2 e⟩
def tMCap (i : Nat) : V → Hp → BK → Prop := fun v H Q => Q (some [(i, v)]) H
theorem pm_cap {i : Nat} {n : Str} {pos : Pos} (hi : X.N[i]? = some n) (hx : Loc X.env.scope n) (hf : X.fn n = true ∨ X.env.scope.names.lookup n = some .local := by first | exact .inl rfl | exact .inr rfl) : PM X (.MatchAs none (some n) pos) (tMCap i) := by
  refine ⟨fun pins s σ H v u Q I r h => ?_⟩
  exact wpAny_matchPattern_Capture ⟨some [(i, v)], H, I, .cons ⟨hi, hx, hf, r⟩ .nil, h⟩
def tMAny : V → Hp → BK → Prop := fun _ H Q => Q (some []) H
theorem pm_any {pos : Pos} : PM X (.MatchAs none none pos) tMAny := by
  refine ⟨fun pins s σ H v u Q I r h => ?_⟩
  exact wpAny_matchPattern_Capture ⟨some [], H, I, .nil, h⟩
def tMNil : List V → Hp → BK → Prop := fun _ H Q => Q (some []) H
theorem pms_nil : PMs X [] tMNil := ⟨fun pins s σ H vs us Q I r h => wpAny_matchEach_nil ⟨some [], H, I, .nil, h⟩⟩
def tMCons (t : V → Hp → BK → Prop) (u : List V → Hp → BK → Prop) : List V → Hp → BK → Prop := fun vs H Q => ∃ v r, vs = v :: r ∧ t v H fun b H1 => match b with
  | none => Q none H1
  | some bs => u r H1 fun c H2 => match c with
    | none => Q none H2
    | some cs => Q (some (bs ++ cs)) H2
theorem pms_cons {p : Pattern} {ps : List Pattern} {t : V → Hp → BK → Prop} {u : List V → Hp → BK → Prop} (h1 : PM X p t) (h2 : PMs X ps u) (hp : p.isStar = false := by rfl) : PMs X (p :: ps) (tMCons t u) := by
  refine ⟨fun pins s σ H vs us Q I r h => ?_⟩
  obtain ⟨v, vr, rfl, h⟩ := h
  cases r with
  | cons r rr =>
    refine wpAny_matchEach_cons (thn (h1.run pins s σ H _ _ _ I r h) fun ro s1 ⟨b, H1, I1, rb, q1⟩ => ?_) hp
    cases b with
    | none =>
      cases ro with
      | none => exact ⟨none, H1, I1, True.intro, q1⟩
      | some _ => exact rb.elim
    | some bs =>
      cases ro with
      | none => exact rb.elim
      | some cs =>
        refine thn (h2.run pins s1 σ H1 _ _ _ I1 rr q1) fun ro2 s2 ⟨b2, H2, I2, rb2, q2⟩ => ?_
        cases b2 with
        | none =>
          cases ro2 with
          | none => exact ⟨none, H2, I2, True.intro, q2⟩
          | some _ => exact rb2.elim
        | some bs2 =>
          cases ro2 with
          | none => exact rb2.elim
          | some cs2 => exact ⟨some (bs ++ bs2), H2, I2, brel_app rb rb2, q2⟩
/-- [p, q, ..] against a tuple -/
def tMSeq (K : PySem.W.Frag) (n : Nat) (t : List V → Hp → BK → Prop) : V → Hp → BK → Prop := fun v H Q => ∃ a xs, v = .ref a ∧ SqT K H a xs ∧ (xs.length ≠ n → Q none H) ∧ (xs.length = n → t xs H Q)
theorem pm_seq {ps : List Pattern} {pos : Pos} {t : List V → Hp → BK → Prop} {n : Nat} (hc : X.calm = true) (h : PMs X ps t) (hn : ps.length = n := by rfl) (hstar : ps.findIdx? (·.isStar) = none := by rfl)
    (hwild : (ps.all fun p => p.isWildcard || (p.isStar && p.names.isEmpty)) = false := by rfl) : PM X (.MatchSequence ps pos) (tMSeq X.K n t) := by
  refine ⟨fun pins s σ H v u Q I r hw => ?_⟩
  obtain ⟨a, xs, rfl, hq, h1, h2⟩ := hw
  obtain rfl : u = Value.ref a := r
  obtain ⟨its, rv, ht, hz⟩ := I.tuple hq
  have hl := rv.length
  have hfit : ((its.toArray.size : Nat) : Int) < 2 ^ 63 := by
    rw [List.size_toArray, ← hl]
    rw [sizeLine_eq] at hz
    omega
  by_cases e : xs.length = n
  · have hs : its.toArray.size = ps.length := by rw [List.size_toArray, ← hl, hn, e]
    refine matchSeq_tuple_hit ht hfit hs ?_ hstar hwild
    rw [← hs]
    refine unpackItems_tuple (s := { s with toks := s.toks + 1 + 1 }) (I.ok.hd hc) ht fun h' hx => ?_
    have I1 : Inv X pins σ H { s with heap := h', toks := s.toks + 1 + 1 } := I.kept (t' := s.toks + 1 + 1) fun b o e => hx b o (Nat.ne_of_lt (Heap.lt_size e)) e
    exact h.run pins _ σ H xs _ Q I1 (by simpa using rv) (h2 e)
  · refine matchSeq_tuple_miss ht hfit (by rw [List.size_toArray, ← hl, hn]; exact e) ⟨none, H, I.tok _, True.intro, h1 e⟩ hstar hwild
/-- the values stored at their slots -/
def putB (bs : Bs) (σ : St) : St := bs.foldl (fun σ p => σ.set p.1 (some p.2)) σ
theorem store_bs (hN : X.N.Nodup) {pins : List (Addr × Obj)} {H : Hp} {Q : Unit → Shared → Prop} : ∀ {bs : Bs} {cs : List (Str × Value)} {σ : St} {s : Shared}, BRel X bs cs → Inv X pins σ H s → (∀ s', Inv X pins (putB bs σ) H s' → Q () s') →
    wpAny (model X.prog X.w) X.A (assignInOrder (cs.map fun (n, _) => bindName X.env n) (cs.map (·.2))) Q X.xe s
  | _, _, σ, s, .nil, I, h => wpAny_assignInOrder_none (h s I)
  | p :: bs, q :: cs, σ, s, .cons r t, I, h => by
    obtain ⟨hi, hx, hf, rv⟩ := r
    refine wpAny_assignInOrder_more ?_
    refine wpAny_bindName (store_ok I hN hi hx rv (fun s1 I1 => ?_) hf)
    exact store_bs hN t I1 h

/-- the cases of a match -/
abbrev TMC := V → TS
structure PMC (X : Cx) (cs : List MatchCase) (t : TMC) : Prop where
  run : ∀ (first : Bool) (pins : List (Addr × Obj)) (s : Shared) (σ : St) (H : Hp) (v : V) (u : Value) (D : Ends), Inv X pins σ H s → RelV v u → t v D σ H →
    wpAny (model X.prog X.w) X.A (matchCases cs X.env u first) (SP X pins D) X.xe s
def tCNil : TMC := fun _ D σ H => D.nx σ H
theorem pmc_nil : PMC X [] tCNil := ⟨fun f pins s σ H v u D I r h => wpAny_matchCases_nil ⟨σ, H, I, h⟩⟩
def tCCons (tp : V → Hp → BK → Prop) (tb : TS) (tr : TMC) : TMC := fun v D σ H => tp v H fun b H1 => match b with
  | none => tr v D σ H1
  | some bs => tb D (putB bs σ) H1
theorem pmc_cons {p : Pattern} {body : List Stmt} {rest : List MatchCase} {tp : V → Hp → BK → Prop} {tb : TS} {tr : TMC} (hN : X.N.Nodup) (h1 : PM X p tp) (h2 : PSs X body tb) (h3 : PMC X rest tr) : PMC X (⟨p, none, body⟩ :: rest) (tCCons tp tb tr) := by
  refine ⟨fun f pins s σ H v u D I r h => ?_⟩
  refine wpAny_matchCases_cons (thn (h1.run pins s σ H v u _ I r h) fun ro s1 ⟨b, H1, I1, rb, q1⟩ => ?_)
  cases b with
  | none =>
    cases ro with
    | none => exact h3.run false pins s1 σ H1 v u D I1 r q1
    | some _ => exact rb.elim
  | some bs =>
    cases ro with
    | none => exact rb.elim
    | some cs => exact store_bs hN rb I1 fun s2 I2 => h2.run pins s2 _ H1 D I2 q1
def tMatch (te : TE) (tc : TMC) : TS := fun D σ H => te σ H fun v H1 => tc v D σ H1
theorem ps_match {e : Expr} {cs : List MatchCase} {pos : Pos} {te : TE} {tc : TMC} (he : PE X e te) (hc : PMC X cs tc) : PS X (.Match e cs pos) (tMatch te tc) := by
  refine ⟨fun pins s σ H D I h => ?_⟩
  exact wpAny_Match (thn (he.run pins s σ H _ I h) fun u s1 ⟨v, H1, I1, r, q⟩ => hc.run true pins s1 σ H1 v u D I1 r q)
end
/-! ### == of nested lists and tuples that are equal -/
/-- two lists, or two tuples, of equal items -/
def EqL (K : PySem.W.Frag) (H : Hp) (E : V → V → Prop) (x y : V) : Prop :=
  ∃ a b xs ys, x = .ref a ∧ y = .ref b ∧ ((SqL K H a xs ∧ SqL K H b ys) ∨ (SqT K H a xs ∧ SqT K H b ys)) ∧ Paired E xs ys
/-- equal, of nesting below n -/
def EqN (K : PySem.W.Frag) (H : Hp) : Nat → V → V → Prop
  | 0 => fun _ _ => False
  | n + 1 => fun x y => (x = y ∧ flatB x = true) ∨ EqL K H (EqN K H n) x y
section
variable {X : Cx} {pins : List (Addr × Obj)} {σ : St} {H : Hp} {s : Shared}
theorem eqL_run (I : Inv X pins σ H s) {A : Around} {F : V → V → Prop} (hu : A.units < cLine) (ih : ∀ x y v u, F x y → RelV x v → RelV y u → SeqAt.EqP X.prog X.w A.in1 s v u true) {x y : V} {v u : Value} (h : EqL X.K H F x y) (rx : RelV x v) (ry : RelV y u)
    (E Q : Value → Shared → Prop) (q : Q (.bool true) s) : wpAny (model X.prog X.w) A (richCompare .Eq v u) Q E s := by
  obtain ⟨a, b, xs, ys, rfl, rfl, hab, hp⟩ := h
  cases (show v = Value.ref a from rx)
  cases (show u = Value.ref b from ry)
  rcases hab with ⟨ha, hb⟩ | ⟨ha, hb⟩
  · obtain ⟨us, r1, p1, _⟩ := I.list ha
    obtain ⟨ws, r2, p2, _⟩ := I.list hb
    have hsz : us.toArray.size = ws.toArray.size := by
      rw [List.size_toArray, List.size_toArray, ← r1.length, ← r2.length]
      exact Paired.length hp
    refine SeqAt.rcP_lists (e := fun _ => true) p1.isList p2.isList hsz hu (fun j h1 h2 => ?_) E Q ?_
    · have k := items_run ih hp r1 r2 j (by simpa using h1) (by simpa using h2)
      simpa using k
    · rw [show ((List.range us.toArray.size).all fun _ => true) = true from List.all_eq_true.mpr fun _ _ => rfl]
      exact q
  · obtain ⟨us, r1, p1, _⟩ := I.tuple ha
    obtain ⟨ws, r2, p2, _⟩ := I.tuple hb
    have hsz : us.toArray.size = ws.toArray.size := by
      rw [List.size_toArray, List.size_toArray, ← r1.length, ← r2.length]
      exact Paired.length hp
    refine SeqAt.rcIn_tuples (e := fun _ => true) (show s.heap.IsTuple a us.toArray from p1) (show s.heap.IsTuple b ws.toArray from p2) hu (fun j h1 h2 => ?_) ?_
    · have k := items_run ih hp r1 r2 j (by simpa using h1) (by simpa using h2)
      have k2 : SeqAt.EqIn X.prog X.w A.in1 s (us[j]'(by simpa using h1)) (ws[j]'(by simpa using h2)) true := k
      simpa using k2
    · rw [show ((List.range (min us.toArray.size ws.toArray.size)).all fun _ => true) = true from List.all_eq_true.mpr fun _ _ => rfl, hsz]
      simpa using q
theorem eqN_run (I : Inv X pins σ H s) : ∀ (n : Nat) (A : Around), A.units + n < cLine → ∀ (x y : V) (v u : Value), EqN X.K H n x y → RelV x v → RelV y u → SeqAt.EqP X.prog X.w A s v u true
  | 0, _, _, _, _, _, _, h, _, _ => (show False from h).elim
  | n + 1, A, hu, x, y, v, u, h, rx, ry => by
    rcases h with ⟨rfl, f⟩ | h
    · exact (eqAt_same rx ry f).eqP
    · have step := eqL_run I (A := A) (by omega) (eqN_run I n A.in1 (by show A.units + 1 + n < cLine; omega)) h rx ry
      obtain ⟨a, b, _, _, rfl, rfl, _⟩ := h
      cases (show v = Value.ref a from rx)
      cases (show u = Value.ref b from ry)
      by_cases e : a = b
      · subst e
        exact (SeqAt.EqAt.same _).eqP
      · exact SeqAt.eqP_refs e step
end
section
variable {X : Cx}
/-- a == b, two equal lists -/
def rEqN (K : PySem.W.Frag) : R2 := fun x y H Q => ∃ n, n ≤ 60 ∧ EqL K H (EqN K H n) x y ∧ Q (.bl true) H
theorem op_eqN (hu : X.A.units + 64 < cLine) : OpR X (compareOp .Eq) (rEqN X.K) := by
  intro pins s σ H x y v u Q I rx ry h
  obtain ⟨n, hn, h, q⟩ := h
  exact eqL_run I (A := X.A) (by omega) (eqN_run I n X.A.in1 (by show X.A.units + 1 + n < cLine; omega)) h rx ry _ _ ⟨.bl true, H, I, rfl, q⟩

/-! ### powers and products of ints below 2 ^ 1000 -/
def CPowW (i j : Int) : Prop := 0 ≤ j ∧ j ≤ 1000 ∧ i.natAbs < 2 ^ 1000
theorem op_powW : OpR X (binaryOp .Pow) (rI CPowW fun i j => .int (i ^ j.toNat)) := opI fun i j _ _ _ _ _ hc q => by
  refine pow_int hc.1 ?_ q
  have h1 : Builtin.Int.intBits i ≤ 1000 := PyProof.Rows.intBits_le hc.2.2
  have h2 : (Builtin.Int.intBits i : Int) * j ≤ 1000 * j := Int.mul_le_mul_of_nonneg_right (by omega) hc.1
  have h3 := hc.2.1
  omega
def CMulB (i j : Int) : Prop := i.natAbs < 2 ^ 1000 ∧ j.natAbs < 2 ^ 1000
theorem op_mulB : OpR X (binaryOp .Mult) (rI CMulB fun i j => .int (i * j)) := opI fun i j _ _ _ _ _ hc q => by
  refine mul_int q (IntMulOk.of_bits ?_ ?_)
  · exact Nat.le_trans (PyProof.Rows.intBits_le hc.1) (by decide)
  · exact Nat.le_trans (PyProof.Rows.intBits_le hc.2) (by decide)

/-! ### sorted(d) of a dict whose keys are texts, any number of them -/
/-- a stands not above b -/
def StrLe (a b : Str) : Prop := ¬ b.cps.toList < a.cps.toList
def sv : Value → Str
  | .str x _ => x
  | _ => Str.empty
def ltSv (v u : Value) : Bool := decide ((sv v).cps.toList < (sv u).cps.toList)
theorem swo_str : SrtO.Swo ltSv := by
  refine ⟨fun x y h => ?_, fun x y z h1 h2 => ?_⟩
  · exact decide_eq_false (List.lt_asymm (of_decide_eq_true h))
  · have a : ¬ (sv y).cps.toList < (sv x).cps.toList := of_decide_eq_false h1
    have b : ¬ (sv z).cps.toList < (sv y).cps.toList := of_decide_eq_false h2
    exact decide_eq_false (List.not_lt.mpr (List.le_trans (List.not_lt.mp a) (List.not_lt.mp b)))
theorem strs_mem : ∀ {vs : List Value} {ss : List Str}, StrsAre vs ss → ∀ v ∈ vs, ∃ x t, v = Value.str x t
  | _, _, .nil, v, h => absurd h (by simp)
  | _, _, .cons x t r, v, h => by
    rcases List.mem_cons.mp h with e | h
    · exact ⟨x, t, e⟩
    · exact strs_mem r v h
theorem sv_strs : ∀ {vs : List Value} {ss : List Str}, StrsAre vs ss → vs.map sv = ss
  | _, _, .nil => rfl
  | _, _, .cons x t r => congrArg (x :: ·) (sv_strs r)
theorem strs_sv : ∀ {vs : List Value}, (∀ v ∈ vs, ∃ x t, v = Value.str x t) → StrsAre vs (vs.map sv)
  | [], _ => .nil
  | v :: vs, h => by
    obtain ⟨x, t, e⟩ := h v List.mem_cons_self
    subst e
    exact .cons x t (strs_sv fun u hu => h u (List.mem_cons_of_mem _ hu))
theorem str_sortable {prog : Program} {w : World} {A : Around} {s : Shared} {a : Addr} {vs : List Value} {ss : List Str} (hS : StrsAre vs ss) (h2 : 2 ≤ vs.length) : SrtO.SortableO prog w A s a vs ltSv := by
  intro h' _
  refine ⟨PyProof.Rows.oneType', fun Q E hq => ?_, fun p q hm hm' => ?_⟩
  · match vs, hS, h2 with
    | v1 :: v2 :: rest, hS, _ =>
      rw [keyKind_strs hS]
      exact wpAny_pure hq
    | [], _, h => exact absurd h (by decide)
    | [v], _, h => exact absurd h (by simp)
  · obtain ⟨x, t, e⟩ := strs_mem hS _ hm
    obtain ⟨y, u, e'⟩ := strs_mem hS _ hm'
    show wpAny (model prog w) A (PyProof.Rows.keyLt' PyProof.Rows.oneType' p.1 q.1) (fun r s' => s' = _ ∧ r = ltSv p.1 q.1) (fun _ _ => False) _
    rw [e, e', keyLt'_oneType]
    exact oneLt_str ⟨rfl, rfl⟩
end
section
variable {X : Cx}
theorem call_sortedDS (hcalm : X.calm = true) : CallR X (.builtin "sorted") (fun xs H Q => ∃ (a : Addr) (kvs : List (Key × V)) (ks : List Str), xs = [.ref a] ∧ Rd H a (.dK kvs) ∧ kvs.map (·.1) = ks.map Sum.inr ∧
    ∀ (ys : List Str) (p : Addr), ys.Perm ks → ys.Pairwise StrLe → H p = none → Q (.ref p) (upd H p (.lst (ys.map V.str)))) := by
  intro pins s σ H xs us Q I r q
  obtain ⟨a, kvs, ks, ex, hd, hks, q⟩ := q
  subst ex
  obtain ⟨u, eu, rx⟩ := vals1 r
  subst eu
  cases rx
  have hz : kvs.length ≤ sizeLine := by
    rcases hd with h | ⟨o, h⟩
    · exact (show ObjOk X.prog X.w H s.heap a (.dK kvs) from I.hok a _ h).1
    · exact (show ObjOk X.prog X.w H s.heap a (.dK kvs) from (show ObjOk X.prog X.w H s.heap a (.frz o (.dK kvs)) from I.hok a _ h).2).1
  obtain ⟨z, lo, vs, rel, dd⟩ := dk_rd I.hok hd
  obtain ⟨ep, hat⟩ := dd.dictAt
  have hkeys : vs.map (·.1) = ks.map Sum.inr := rel.keys.symm.trans hks
  have hl : vs.length = ks.length := by
    have e := congrArg List.length hkeys
    rw [List.length_map, List.length_map] at e
    exact e
  have hlk : kvs.length = ks.length := by
    have e := congrArg List.length hks
    rw [List.length_map, List.length_map] at e
    exact e
  have h16 : vs.length ≤ sizeLine := by rw [hl, ← hlk]; exact hz
  refine Calls.call_function_entry PyProof.Rows.kind_sorted PyProof.Rows.plain_sorted PyProof.Rows.entry_sorted (PyProof.Rows.args_sorted1 _) ?_
  unfold Builtin.«sorted»
  refine wpAny_bind (m := checkCount "sorted" 1 1 _) (wpAny_pure ?_)
  refine wpAny_bind (PySem.W.kdu_collect (A := X.A.in1) (PySem.W.kdl_dict (knd := mixKind X.prog X.w) (kvs := vs) (ep := ep) lo) (I.ok.hd hcalm) hat h16 fun h' tk acc hk hacc => ?_)
  have hal : acc.toList.length = ks.length := by rw [Array.length_toList, hacc.1, hl]
  have hS : StrsAre acc.toList ks := strs_at hal fun j v e => by
    obtain ⟨k, x, e1, e2⟩ := hacc.2 j v (by rw [← Array.getElem?_toList]; exact e)
    have e3 : (vs.map (·.1))[j]? = some k := by rw [List.getElem?_map, e1]; all_goals rfl
    rw [hkeys, List.getElem?_map] at e3
    cases e4 : ks[j]? with
    | none => rw [e4] at e3; cases e3
    | some y =>
      rw [e4] at e3
      have e5 : Sum.inr y = k := Option.some.inj e3
      subst e5
      obtain ⟨t, ev⟩ := Value.isStrOf_shape (x := y) (v := v) e2
      exact ⟨y, t, rfl, ev⟩
  have I1 : Inv X pins σ H { s with heap := h', toks := tk } := I.kept hk
  have hza : acc.toList.length ≤ sizeLine := by rw [hal, ← hlk]; exact hz
  refine wpAny_bind (wpAny_newList ?_ hza)
  have hoL : (h'.push (seqObj "list" acc.toList.toArray 0)).get? h'.objs.size = some (seqObj "list" acc.toList.toArray 0) := Heap.get?_push_size _ rfl
  show wpAny _ _ _ _ _ { s with heap := h'.push (seqObj "list" acc.toList.toArray 0), toks := tk }
  refine wpAny_bind (wpAny_holding (wpAny_call_entry PyProof.Rows.slot_list_sort ⟨_, hoL, rfl⟩ PyProof.Rows.entry_list_sort
    (SrtO.list_sort_ord (s := { s with heap := h'.push (seqObj "list" acc.toList.toArray 0), toks := tk }) swo_str hoL hza (fun h2 => str_sortable hS h2) fun out h1 h2 => ⟨_, rfl, ?_⟩)
    (PyProof.Rows.args_list_sort _)))
  have hS2 : StrsAre out (out.map sv) := strs_sv fun v hv => strs_mem hS v (h2.perm.mem_iff.mp hv)
  have hp : (out.map sv).Perm ks := by
    have g := h2.perm.map sv
    rw [sv_strs hS] at g
    exact g
  have hs : (out.map sv).Pairwise StrLe := List.pairwise_map.mpr (h1.imp fun {x y} h => of_decide_eq_false (p := (sv y).cps.toList < (sv x).cps.toList) h)
  obtain ⟨e', he'⟩ := PyProof.Rows.sortedHeap_at (vs := acc.toList) (out := out.toArray) hoL
  have hlen : ((out.map sv).map V.str).length ≤ sizeLine := by
    rw [List.length_map, hp.length_eq, ← hlk]
    exact hz
  refine wpAny_pure ⟨_, rfl, .ref h'.objs.size, upd H h'.objs.size (.lst ((out.map sv).map V.str)), I1.laid (t' := tk) (fun b u e => ?_) (Nat.le_refl _)
    (show ObjOk X.prog X.w _ _ _ (.lst ((out.map sv).map V.str)) from ⟨hlen, out, e', vals_of_strs hS2, he'⟩), rfl, q (out.map sv) _ hp hs (I1.hok.fresh (Nat.le_refl _))⟩
  have hb : b < h'.objs.size := Heap.lt_size e
  rw [PyProof.Rows.sortedHeap_old (Nat.ne_of_lt hb) (by rw [size_push']; exact Nat.lt_succ_of_lt hb)]
  exact Heap.get?_push_of_some _ e
end
/-! ### bytes() and bytes(n) -/
theorem b0_newCall : checkBuiltinCall "bytes.__new__" ⟨[.type "bytes"], []⟩ = pure () := by kernel_rfl
theorem b0_typeCall : checkTypeCall "bytes" ⟨[], []⟩ = pure () := by kernel_rfl
theorem b0_bind : Builtin.Bytes.bindOptional "bytes.__new__" "bytes" ["source", "encoding", "errors"] [] [] = pure [none, none, none] := by kernel_rfl
section
variable {prog : Program} {w : World} {A : Around} {E : Value → Shared → Prop} {s : Shared}
theorem b0_new {Q : Value → Shared → Prop} (hQ : ∀ t k, Q (.bytes #[] t) { s with toks := k }) :
    codeAny (model prog w) A (.call (.builtin "bytes.__new__") ⟨[.type "bytes"], []⟩) (wants Q E) s := by
  refine codeAny_of_tree ?_
  show wpAny _ A.in1 (do checkBuiltinCall "bytes.__new__" ⟨[.type "bytes"], []⟩; again (.builtin "bytes.__new__" ⟨[.type "bytes"], []⟩)) _ _ s
  refine wpAny_bind (wpAny_of_eq b0_newCall (wpAny_pure ⟨plainId_quiet F.bm_plain _, codeAny_builtin F.bm_entry ?_⟩))
  rw [Around.under_plainId F.bm_plain _]
  unfold Builtin.«bytes.__new__»
  refine wpAny_bind (wpAny_of_eq (a := true) rfl ?_)
  refine bm_if_false rfl ?_
  refine wpAny_bind (wpAny_of_eq F.bm_sub ?_)
  refine bm_if_false rfl ?_
  refine wpAny_bind (wpAny_of_eq b0_bind ?_)
  refine wpAny_bind (wpAny_of_eq (a := ()) rfl ?_)
  refine wpAny_bind (wpAny_of_eq (a := ()) rfl ?_)
  refine bm_if_false rfl ?_
  refine wpAny_bind (wpAny_mkBytes ?_ (by decide))
  show wpAny _ _ (if (Value.type "bytes" == Value.type "bytes") = true then _ else _) _ _ _
  refine bm_if_true (by decide) ?_
  first
    | exact wpAny_pure (hQ _ _)
    | exact wpAny_bind (wpAny_pure (wpAny_pure (hQ _ _)))
theorem call_bytes_none {Q : Value → Shared → Prop} (hQ : ∀ t k, Q (.bytes #[] t) { s with toks := k }) : wpAny (model prog w) A (call (.type "bytes") []) Q E s := by
  refine callType_codes (Q₁ := fun obj s₁ => s₁.TypeIs obj "bytes" ∧ Q obj s₁) F.bm_called b0_typeCall F.entry_object_init
    (b0_new fun t k => ⟨PySem.W.typeIs_bytes _ _ _, hQ t k⟩) fun obj s₁ h₁ => ?_
  exact ⟨h₁.1, F.args_object_init_1 obj, object_init_meets F.bm_called.init.lookup F.bm_called.made (by decide) prog w A.in1 _ s₁ ⟨h₁.1, rfl, h₁.2⟩⟩
end
section
variable {X : Cx}
theorem cr_bytes0 : CallR X (.type "bytes") (fun xs H Q => xs = [] ∧ Q (.byt #[]) H) := by
  intro pins s σ H xs us Q I r h
  obtain ⟨rfl, q⟩ := h
  cases r
  exact call_bytes_none fun t k => ⟨.byt #[], H, I.tok _, ⟨_, rfl⟩, q⟩
theorem cr_bytesN : CallR X (.type "bytes") (fun xs H Q => ∃ n : Int, xs = [.int n] ∧ 0 ≤ n ∧ n ≤ 16777216 ∧ Q (.byt (Array.replicate n.toNat 0)) H) := by
  intro pins s σ H xs us Q I r h
  obtain ⟨n, rfl, h0, hz, q⟩ := h
  obtain ⟨u, rfl, rx⟩ := vals1 r
  obtain ⟨t, rfl⟩ := rx
  exact call_bytes_size h0 hz fun t k => ⟨.byt (Array.replicate n.toNat 0), H, I.tok _, ⟨_, rfl⟩, q⟩
end
/-! ### x != y by an own __eq__ -/
section
variable {prog : Program} {w : World} {A : Around} {E : Value → Shared → Prop} {s : Shared} {K : PySem.W.Frag} {x y C f : Addr} {ox : Obj} {od : Option Obj}
theorem own_ne_entry (X : K.In s.heap) (I : PySem.W.InstAt s.heap x ox C od) (heq : PySem.W.findIn K (.ref C) "__eq__" = some (some (.ref f))) (hf : PySem.W.isFn K (.ref f) = true) (hu : A.units < cLine) {Q : PySem.Fin → Shared → Prop}
    (hcall : wpAny (model prog w) A (call (.ref f) [.ref x, .ref y]) (fun v s' => ∃ b, v = .bool b ∧ Q (.done (.ret (.bool (!b)))) s') E s) :
    wpAny (model prog w) A (Builtin.«object.__ne__» ⟨[.ref x, .ref y], []⟩) Q E s := by
  unfold Builtin.«object.__ne__»
  refine wpAny_bind (wpAny_of_eq (a := (.ref x, [.ref y])) rfl ?_)
  refine wpAny_bind (wpAny_cRoomFor hu ?_)
  refine wpAny_bind (PySem.W.ifBound_K X I heq hf (wpAny_mono hcall (fun v s' hv => ?_) fun _ _ e => e))
  obtain ⟨b, rfl, hq⟩ := hv
  exact wpAny_bind (wpAny_truthy_bool (wpAny_pure hq))
theorem own_ne (X : K.In s.heap) (I : PySem.W.InstAt s.heap x ox C od) (hy : PySem.W.Looks (model prog w) s.heap (typeOf (.ref y)) (.ref C)) (hne : PySem.W.findIn K (.ref C) "__ne__" = some (some (.builtin "object.__ne__")))
    (heq : PySem.W.findIn K (.ref C) "__eq__" = some (some (.ref f))) (hf : PySem.W.isFn K (.ref f) = true) (hobj : PySem.W.mroIn K C (.type "object") = some true) (hu : A.units + 1 < cLine) {Q : Value → Shared → Prop}
    (hcall : wpAny (model prog w) A.in1 (call (.ref f) [.ref x, .ref y]) (fun v s' => ∃ b, v = .bool b ∧ Q (.bool (!b)) s') E s) : wpAny (model prog w) A (compareOp .NotEq (.ref x) (.ref y)) Q E s := by
  have S : Slot "object" "__ne__" "object.__ne__" := F.slot_object_ne
  have inst : PySem.W.Looks (model prog w) s.heap (isInstance (.ref x) (.type "object")) true := I.type.andThen (PySem.W.looks_mroIn X hobj)
  have one : wpAny (model prog w) A (tryCompare (.ref x) "__ne__" (.ref y)) (fun r s' => ∃ v, r = some v ∧ Q v s') E s := by
    unfold tryCompare
    simp only [callSpecialIfBound?, bindSpecialIfBound?]
    have fin : wpAny (model prog w) A (call (.builtin "object.__ne__") ([.ref x] ++ [.ref y]) >>= fun v => pure (some v)) (fun r s' => ∃ b, r = some (.bool b) ∧ Q (.bool b) s') E s := by
      refine wpAny_bind (wpAny_call (codeAny_call_builtin S.plain F.cmpEntry_ne (PySem.W.check_slot F.cmpKind_ne F.cmpSplit_ne inst (F.cmpArgs_ne _ _) (own_ne_entry X I heq hf (Nat.lt_of_succ_lt_succ (Nat.succ_lt_succ (show A.in1.units < cLine from hu))) (wpAny_mono hcall (fun v s' hv => ?_) fun _ _ e => e)))))
      obtain ⟨b, rfl, hq⟩ := hv
      exact ⟨b, rfl, wpAny_pure ⟨!b, rfl, hq⟩⟩
    refine wpAny_bind (wpAny_mono (Q := fun r s' => ∃ b, r = some (.bool b) ∧ Q (.bool b) s') ?_ (fun r s' hr => ?_) fun _ _ e => e)
    · refine wpAny_holding (wpAny_bind (wpAny_bind (wpAny_bind (I.type.here ((PySem.W.looks_findIn X hne).here ?_)))))
      simp only [S.bind]
      refine wpAny_bind (wpAny_askSetting (wpAny_ite ?_))
      split
      · exact wpAny_bind (wpAny_pure (wpAny_pure fin))
      · exact wpAny_tryCatch (wpAny_bind (wpAny_pure (wpAny_pure fin)))
    · obtain ⟨b, rfl, hq⟩ := hr
      exact wpAny_pure ⟨_, rfl, hq⟩
  unfold compareOp richCompare
  simp only [oneThing_ref]
  refine wpAny_holding (wpAny_bind (wpAny_cRoomFor (Nat.lt_of_succ_lt hu) ?_))
  rw [cmpInfo_NotEq]
  dsimp only
  refine wpAny_bind (I.type.here (wpAny_bind (hy.here ?_)))
  rw [show (Value.ref C != Value.ref C) = false from by simp]
  simp only [Bool.false_eq_true, if_false]
  refine wpAny_bind (wpAny_pure ?_)
  simp only [Bool.false_eq_true, if_false]
  refine wpAny_bind (wpAny_mono one (fun r s' z => ?_) fun _ _ e => e)
  obtain ⟨v, rfl, hq⟩ := z
  exact wpAny_pure hq
end
section
variable {X : Cx}
/-- what a class must have for a != b by its __eq__ at f -/
structure NeC (K : PySem.W.Frag) (C f : Addr) : Prop where
  ne : PySem.W.findIn K (.ref C) "__ne__" = some (some (.builtin "object.__ne__"))
  eq : PySem.W.findIn K (.ref C) "__eq__" = some (some (.ref f))
  fn : PySem.W.isFn K (.ref f) = true
  ob : PySem.W.mroIn K C (.type "object") = some true
def rNeOwn (C : Addr) (sp : Sp) : R2 := fun x y H Q => ∃ a b dx dy fs gs, x = .ref a ∧ y = .ref b ∧ H a = some (.ins C dx fs) ∧ H b = some (.ins C dy gs) ∧ sp [x, y] H (fun v H' => ∃ k, v = .bl k ∧ Q (.bl (!k)) H') fun _ _ _ => False
theorem op_neOwn {k : Nat} {C f : Addr} {sp : Sp} (c : NeC X.K C f) (F : FnR X.prog X.w X.K X.mg X.base CX0 k f sp) (hr : Room (k + 1) X.A) : OpR X (compareOp .NotEq) (rNeOwn C sp) := by
  intro pins s σ H x y v u Q I rx ry h
  obtain ⟨a, b, dx, dy, fs, gs, rfl, rfl, ha, hb, q⟩ := h
  cases (show v = Value.ref a from rx)
  cases (show u = Value.ref b from ry)
  obtain ⟨_, O, _⟩ := ins_get I.hok ha
  obtain ⟨od, J, _⟩ := O.look
  obtain ⟨_, O2, _⟩ := ins_get I.hok hb
  obtain ⟨od2, J2, _⟩ := O2.look
  have hu := hr.un
  refine own_ne I.kIn J J2.type c.ne c.eq c.fn c.ob (by omega) ?_
  refine wpAny_call (codeAny_mono (F X.A.in1 X.stack s H [.ref a, .ref b] [.ref a, .ref b] _ _ hr.in1 I.env0.in1 (.cons rfl (.cons rfl .nil)) q) fun r s' hq => ?_)
  cases r with
  | error e => exact hq.elim
  | ok fl =>
    cases fl with
    | ret u2 =>
      obtain ⟨v2, H', I', rv, kk, ek, hq2⟩ := I.after hq
      subst ek
      cases (show u2 = Value.bool kk from rv)
      exact ⟨kk, rfl, .bl (!kk), H', I', rfl, hq2⟩
    | next => exact False.elim hq
    | brk => exact False.elim hq
    | cont => exact False.elim hq
end
/-! ### a class that stands in a local name, called without arguments -/
section
variable {X : Cx}
def tMakeV (i : Nat) (C : Addr) (sp : Sp) : TE := fun σ H Q => σ[i]? = some (some (.ref C)) ∧ ∀ x dx, H x = none → H dx = none → dx ≠ x → sp [.ref x] (upd (upd H dx (.own x)) x (.ins C dx [])) (fun v H2 => v = .non ∧ Q (.ref x) H2) fun _ _ _ => False
theorem pe_makeV {k i : Nat} {C f : Addr} {sp : Sp} {x : Str} {p pos : Pos} (M : Mk X.K C f) (F : FnR X.prog X.w X.K X.mg X.base CX0 k f sp) (hr : Room (k + 1) X.A) (hN : X.N[i]? = some x) (hv : Vis X.env.scope x)
    (hd : (x == ("__debug__" : Str)) = false := by decide) (hcd : (x == ("__classdict__" : Str)) = false := by decide) : PE X (.Call (.Name x p) [] [] pos) (tMakeV i C sp) := by
  refine ⟨fun pins s σ H Q I h => ?_⟩
  obtain ⟨hs, h⟩ := h
  refine wpAny_Call_Name_kw (thn ((pe_var (pos := p) hN hv hd hcd).run pins s σ H (fun v H1 => v = .ref C ∧ H1 = H) I ⟨.ref C, hs, rfl, rfl⟩) fun u s1 ⟨v, H1, I1, r1, q1⟩ => ?_)
  obtain ⟨rfl, rfl⟩ := q1
  cases r1
  exact PySem.W.callWith_K0 I1.kIn M.kp (StX.run_makeR (us := []) (vs := []) M F hr (fun _ _ _ _ _ _ _ h => h.elim) I1 .nil h)
end
/-! ### xs[a:b] = ys; text * int; what is never reached -/
section
variable {X : Cx}
def gSlc (to : TE) (tl th : TO) : TG := fun v σ H Q => to σ H fun x H1 => tl σ H1 fun lo H2 => th σ H2 fun hi H3 => ∃ (l b : Addr) (xs ys : List V) (i j : Int), x = .ref l ∧ v = .ref b ∧ lo = some i ∧ hi = some j ∧ H3 l = some (.lst xs) ∧ H3 b = some (.lst ys) ∧ l ≠ b ∧
  0 ≤ i ∧ i ≤ j ∧ j ≤ xs.length ∧ xs.length + ys.length ≤ sizeLine ∧ Q σ (upd H3 l (.lst (xs.take i.toNat ++ ys ++ xs.drop j.toNat)))
theorem rel_of_part {v : Value} {i : Int} (p : IsPart v (some i)) : RelV (.int i) v := by
  cases p
  exact ⟨_, rfl⟩
theorem pg_slice {o : Expr} {lo hi : Option Expr} {to : TE} {tl th : TO} {p2 pos : Pos} (ho : PE X o to) (hl : PO X lo tl) (hh : PO X hi th) : PG X (.Subscript o (.Slice lo hi none p2) pos) (gSlc to tl th) := by
  refine ⟨fun pins s σ H v u Q I r h => ?_⟩
  rw [arm_assign_Subscript]
  refine wpAny_bind (wpAny_holding (thn (ho.run pins s σ H _ I h) fun ov s1 ⟨x, H1, I1, r1, q1⟩ => ?_))
  refine wpAny_bind (wpAny_holding (wpAny_Slice (thn (hl.run pins s1 σ H1 _ I1 q1) fun vl s2 ⟨lo', H2, I2, pl, q2⟩ => thn (hh.run pins s2 σ H2 _ I2 q2) fun vu s3 ⟨hi', H3, I3, pu, q3⟩ => ?_)))
  rw [evalPart_none]
  refine wpAny_pure ?_
  have I4 : Inv X pins σ H3 { s3 with heap := s3.heap.push { cls := .type "slice", data := .fields #[vl, vu, .none] } } := I3.kept (t' := s3.toks) fun b ob q => Heap.get?_push_of_some _ q
  obtain ⟨l, b, xs, ys, i, j, rfl, rfl, rfl, rfl, e1, e2, hne, h0, h1, h2, hz, q⟩ := q3
  cases r1
  cases r
  refine wpAny_bind (wpAny_standAt (wpAny_bind (wpAny_holding ?_)))
  refine set_slice I4 e1 e2 hne (Heap.IsSliceOf.new ..) (rel_of_part pl) (rel_of_part pu) h0 h1 h2 hz fun s5 I5 => ?_
  exact wpAny_release ⟨σ, _, I5, q⟩
theorem op_mulStr : OpR X (binaryOp .Mult) (fun x y H Q => ∃ (z : Str) (n : Int), x = .str z ∧ y = .int n ∧ MulOk z n ∧ Q (.str (Txt.mul z n)) H) := by
  intro pins s σ H x y v u Q I rx ry h
  obtain ⟨z, n, rfl, rfl, ok, q⟩ := h
  obtain ⟨t, rfl⟩ := rx
  obtain ⟨t', rfl⟩ := ry
  exact SB.mul ok fun t'' k => ⟨.str (Txt.mul z n), H, I.tok _, ⟨_, rfl⟩, q⟩
def tNo : TE := fun _ _ _ => False
def tNoT : TT := fun _ _ _ => False
theorem pe_no {e : Expr} : PE X e tNo := ⟨fun _ _ _ _ _ _ h => h.elim⟩
theorem pt_no {e : Expr} : PT X e tNoT := ⟨fun _ _ _ _ _ _ h => h.elim⟩
theorem pw_no {e : Expr} : PW X e tNoT := ⟨fun _ _ _ _ _ _ _ h => h.elim⟩
end

end L2.K88

end
/-! K88A -/
section
set_option Elab.async false
set_option linter.all false
set_option maxRecDepth 100000
set_option maxHeartbeats 4000000
/-! the text by places, the heap's views, what values stand for -/
namespace L2.K88
open PySem PySem.Spec PyProof.Rows
def top (i : Nat) : Stmt := PySem.Challenge.pw_tarhouse_k88_whole_unpacked_twice.main.body.getD i (.Pass ⟨0, 0, 0, 0⟩)
theorem iT {b : Bool} {A B : Prop} (h : b = true) (q : A) : if b = true then A else B := by rw [if_pos h]; exact q
theorem iF {b : Bool} {A B : Prop} (h : b = false) (q : B) : if b = true then A else B := by rw [if_neg (by rw [h]; exact Bool.false_ne_true)]; exact q
def rLenK (K : PySem.W.Frag) : List V → Hp → VK → Prop := fun xs H Q => ∃ x n, xs = [x] ∧ LenV K x H n ∧ Q (.int n) H
/-! ### growing heaps -/
structure Gr (S : List Addr) (F H F' H' : Hp) : Prop where
  ff : Same F F'
  fh : Same F' H'
  ex : ∀ b o, b ∉ S → H b = some o → H' b = some o
  dom : ∀ b, H' b = none → H b = none
  nw : ∀ b, F b = none → H b ≠ none → F' b = none
section
variable {S T : List Addr} {F H F1 H1 F2 H2 F0 H0 : Hp} {p q : Addr} {o : HO}
theorem fnone (e : Same F H) (h : H p = none) : F p = none := e.free h
theorem Gr.refl (e : Same F H) : Gr S F H F H := ⟨Same.refl _, e, fun _ _ _ h => h, fun _ h => h, fun _ h _ => h⟩
theorem Gr.trans (a : Gr S F H F1 H1) (b : Gr S F1 H1 F2 H2) : Gr S F H F2 H2 :=
  ⟨a.ff.trans b.ff, b.fh, fun c o n h => b.ex c o n (a.ex c o n h), fun c h => a.dom c (b.dom c h), fun c h n => b.nw c (a.nw c h n) fun z => n (a.dom c z)⟩
theorem Gr.mono (a : Gr S F H F1 H1) (h : ∀ x ∈ S, x ∈ T) : Gr T F H F1 H1 := ⟨a.ff, a.fh, fun b o n e => a.ex b o (fun z => n (h b z)) e, a.dom, a.nw⟩
theorem Gr.up (a : Gr [] F H F1 H1) : Gr S F H F1 H1 := a.mono fun _ h => nomatch h
theorem Gr.new (g : Gr S F0 H0 F H) (hp : H p = none) : Gr S F0 H0 (upd F p o) (upd H p o) := by
  have hf : F p = none := g.fh.free hp
  refine ⟨fun b u e => ?_, fun b u e => ?_, fun b u n e => ?_, fun b e => ?_, fun b e n => ?_⟩
  · rw [upd_ne (ne_of_none (g.ff _ _ e) hf)]; exact g.ff _ _ e
  · by_cases z : b = p
    · subst z; rw [upd_same] at e ⊢; exact e
    · rw [upd_ne z] at e ⊢; exact g.fh _ _ e
  · rw [upd_ne (ne_of_none (g.ex _ _ n e) hp)]; exact g.ex _ _ n e
  · by_cases z : b = p
    · subst z; rw [upd_same] at e; cases e
    · rw [upd_ne z] at e; exact g.dom _ e
  · have z : b ≠ p := fun z => by subst z; exact n (g.dom _ hp)
    rw [upd_ne z]; exact g.nw _ e n
theorem Gr.mut (g : Gr S F0 H0 F H) (h0 : H0 p = none ∨ p ∈ S) (hf : F p = none) : Gr S F0 H0 F (upd H p o) := by
  refine ⟨g.ff, fun b u e => ?_, fun b u n e => ?_, fun b e => ?_, g.nw⟩
  · rw [upd_ne (ne_of_none e hf)]; exact g.fh _ _ e
  · have z : b ≠ p := fun z => by
      subst z
      rcases h0 with h0 | h0
      · rw [h0] at e; cases e
      · exact n h0
    rw [upd_ne z]; exact g.ex _ _ n e
  · by_cases z : b = p
    · subst z; rw [upd_same] at e; cases e
    · rw [upd_ne z] at e; exact g.dom _ e
theorem Gr.raw (g : Gr S F0 H0 F H) (hp : H p = none) : Gr S F0 H0 F (upd H p o) := g.mut (.inl (g.dom _ hp)) (g.fh.free hp)
theorem Gr.seal (g : Gr S F0 H0 F H) (h0 : H0 p = none) (hf : F p = none) (h : H p = some o) : Gr S F0 H0 (upd F p o) H := by
  refine ⟨fun b u e => ?_, fun b u e => ?_, g.ex, g.dom, fun b e n => ?_⟩
  · rw [upd_ne (ne_of_none (g.ff _ _ e) hf)]; exact g.ff _ _ e
  · by_cases z : b = p
    · subst z; rw [upd_same] at e; rw [← e]; exact h
    · rw [upd_ne z] at e; exact g.fh _ _ e
  · have z : b ≠ p := fun z => by subst z; exact n h0
    rw [upd_ne z]; exact g.nw _ e n
theorem Gr.notF (g : Gr S F H F1 H1) (hf : F p = none) (h : H p = some o) : F1 p = none := g.nw p hf fun z => by rw [h] at z; cases z
theorem Gr.keep (g : Gr S F H F1 H1) (n : p ∉ S) (h : H p = some o) : H1 p = some o := g.ex p o n h
theorem Gr.same (g : Gr [] F H F1 H1) : Same H H1 := fun b o e => g.ex b o (fun z => nomatch z) e
theorem sameUpd (hp : F p = none) : Same F (upd F p o) := fun b u e => by rw [upd_ne (ne_of_none e hp)]; exact e
end
/-! ### lists of values and what they stand for -/
section
variable {β γ : Type} {F F' : Hp}
theorem Pmono {R R' : V → β → Prop} (h : ∀ v b, R v b → R' v b) {vs : List V} {bs : List β} (r : Paired R vs bs) : Paired R' vs bs := Paired.mapP r h
theorem Pget {R : V → β → Prop} : ∀ {vs : List V} {bs : List β} {i : Nat} {v : V}, Paired R vs bs → vs[i]? = some v → ∃ b, bs[i]? = some b ∧ R v b
  | _, _, _, _, .nil, e => by simp at e
  | _, _, 0, _, .cons r _, e => by simp at e; subst e; exact ⟨_, rfl, r⟩
  | _, _, i + 1, x, .cons _ t, e => by
    obtain ⟨u, h1, h2⟩ := Pget (i := i) (v := x) t (by simpa using e)
    exact ⟨u, by simpa using h1, h2⟩
theorem Pget' {R : V → β → Prop} : ∀ {vs : List V} {bs : List β} {i : Nat} {b : β}, Paired R vs bs → bs[i]? = some b → ∃ v, vs[i]? = some v ∧ R v b
  | _, _, _, _, .nil, e => by simp at e
  | _, _, 0, _, .cons r _, e => by simp at e; subst e; exact ⟨_, rfl, r⟩
  | _, _, i + 1, x, .cons _ t, e => by
    obtain ⟨u, h1, h2⟩ := Pget' (i := i) (b := x) t (by simpa using e)
    exact ⟨u, by simpa using h1, h2⟩
theorem Plen {R : V → β → Prop} {vs : List V} {bs : List β} (r : Paired R vs bs) : vs.length = bs.length := Paired.length r
theorem Pmap {R : V → β → Prop} {f : γ → V} {g : γ → β} (h : ∀ c, R (f c) (g c)) : ∀ cs : List γ, Paired R (cs.map f) (cs.map g)
  | [] => .nil
  | c :: cs => .cons (h c) (Pmap h cs)
theorem Papp {R : V → β → Prop} : ∀ {vs us : List V} {bs cs : List β}, Paired R vs bs → Paired R us cs → Paired R (vs ++ us) (bs ++ cs)
  | _, _, _, _, .nil, s => s
  | _, _, _, _, .cons r t, s => .cons r (Papp t s)
theorem Ptake {R : V → β → Prop} : ∀ {vs : List V} {bs : List β} (n : Nat), Paired R vs bs → Paired R (vs.take n) (bs.take n)
  | _, _, 0, _ => by simpa using Paired.nil
  | _, _, _ + 1, .nil => .nil
  | _, _, n + 1, .cons r t => .cons r (Ptake n t)
theorem Pdrop {R : V → β → Prop} : ∀ {vs : List V} {bs : List β} (n : Nat), Paired R vs bs → Paired R (vs.drop n) (bs.drop n)
  | _, _, 0, r => r
  | _, _, _ + 1, .nil => .nil
  | _, _, n + 1, .cons _ t => Pdrop n t
theorem Psnoc {R : V → β → Prop} {vs : List V} {bs : List β} {v : V} {b : β} (r : Paired R vs bs) (h : R v b) : Paired R (vs ++ [v]) (bs ++ [b]) := Papp r (.cons h .nil)
end
abbrev Rep (β : Type) := Hp → V → β → Prop
/-- it outlives a growth -/
def Mon {β : Type} (R : Rep β) : Prop := ∀ F F' v b, Same F F' → R F v b → R F' v b
/-- a list at an address -/
def RL {β : Type} (R : Rep β) : Rep (List β) := fun F v bs => ∃ p vs, v = .ref p ∧ F p = some (.lst vs) ∧ Paired (R F) vs bs
def RStr : Rep Str := fun _ v z => v = .str z
def RNs : Rep (List Int) := fun F v ns => ∃ p, v = .ref p ∧ F p = some (.lst (ns.map V.int))
def RSs : Rep (List Str) := fun F v zs => ∃ p, v = .ref p ∧ F p = some (.lst (zs.map V.str))
theorem Mon.paired {β : Type} {R : Rep β} (m : Mon R) {F F' : Hp} {vs : List V} {bs : List β} (e : Same F F') (r : Paired (R F) vs bs) : Paired (R F') vs bs := Pmono (fun _ _ h => m _ _ _ _ e h) r
theorem mon_RL {β : Type} {R : Rep β} (m : Mon R) : Mon (RL R) := fun F F' v b e ⟨p, vs, h1, h2, h3⟩ => ⟨p, vs, h1, e _ _ h2, m.paired e h3⟩
theorem mon_RNs : Mon RNs := fun F F' v b e ⟨p, h1, h2⟩ => ⟨p, h1, e _ _ h2⟩
theorem mon_RSs : Mon RSs := fun F F' v b e ⟨p, h1, h2⟩ => ⟨p, h1, e _ _ h2⟩
/-! ### specs -/
inductive Mb where
  | file (n : Str) (m t : Int) (ns : List Int)
  | dir (n : Str) (m t : Int)
  | sym (n : Str) (m t : Int) (g : Str)
  | spa (n : Str) (m t z : Int) (ps : List (Int × List Int))
  | lnk (n : Str) (m t : Int) (g : Str)
def Mb.nm : Mb → Str
  | .file n .. => n | .dir n .. => n | .sym n .. => n | .spa n .. => n | .lnk n .. => n
def Mb.mo : Mb → Int
  | .file _ m .. => m | .dir _ m .. => m | .sym _ m .. => m | .spa _ m .. => m | .lnk _ m .. => m
def Mb.ti : Mb → Int
  | .file _ _ t .. => t | .dir _ _ t .. => t | .sym _ _ t .. => t | .spa _ _ t .. => t | .lnk _ _ t .. => t
def Mb.kd : Mb → Str
  | .file .. => "file" | .dir .. => "directory" | .sym .. => "symlink" | .spa .. => "sparse" | .lnk .. => "link"
def RPc : Rep (Int × List Int) := fun F v pc => ∃ p u, v = .ref p ∧ F p = some (.tup [.int pc.1, u]) ∧ RNs F u pc.2
theorem mon_RPc : Mon RPc := fun F F' v b e ⟨p, u, h1, h2, h3⟩ => ⟨p, u, h1, e _ _ h2, mon_RNs _ _ _ _ e h3⟩
def RMore : Hp → List V → Mb → Prop
  | F, vs, .file _ _ _ ns => ∃ u, vs = [u] ∧ RNs F u ns
  | _, vs, .dir .. => vs = []
  | _, vs, .sym _ _ _ g => vs = [.str g]
  | F, vs, .spa _ _ _ z ps => ∃ q u, vs = [.ref q] ∧ F q = some (.tup [.int z, u]) ∧ RL RPc F u ps
  | _, vs, .lnk _ _ _ g => vs = [.str g]
theorem mon_RMore {F F' : Hp} {vs : List V} {b : Mb} (e : Same F F') (h : RMore F vs b) : RMore F' vs b := by
  cases b with
  | file n m t ns => obtain ⟨u, h1, h2⟩ := h; exact ⟨u, h1, mon_RNs _ _ _ _ e h2⟩
  | dir n m t => exact h
  | sym n m t g => exact h
  | spa n m t z ps => obtain ⟨q, u, h1, h2, h3⟩ := h; exact ⟨q, u, h1, e _ _ h2, mon_RL mon_RPc _ _ _ _ e h3⟩
  | lnk n m t g => exact h
def RSp : Rep Mb := fun F v b => ∃ p vs, v = .ref p ∧ F p = some (.tup (.str b.kd :: .str b.nm :: .int b.mo :: .int b.ti :: vs)) ∧ RMore F vs b
theorem mon_RSp : Mon RSp := fun F F' v b e ⟨p, vs, h1, h2, h3⟩ => ⟨p, vs, h1, e _ _ h2, mon_RMore e h3⟩
/-! ### things, trees, houses -/
theorem sqs {K : PySem.W.Frag} {H H' : Hp} {a : Addr} {xs : List V} (e : Same H H') (h : SqT K H a xs) : SqT K H' a xs :=
  h.elim (fun h => .inl (h.elim (fun h => .inl (e _ _ h)) fun ⟨o, h⟩ => .inr ⟨o, e _ _ h⟩)) fun h => .inr h
theorem tyT {K : PySem.W.Frag} {H : Hp} {a : Addr} {xs : List V} (h : SqT K H a xs) : TyX K H (.ref a) (.type "tuple") := by
  rcases h with (h | ⟨o, h⟩) | ⟨o, its, n, h1, h2, _⟩
  · exact .base (.tup h)
  · exact .fTuple h
  · exact .kTuple h1 h2
section
variable {K : PySem.W.Frag}
inductive Th where
  | fil (i : Nat)
  | dir (m t : Int)
  | sym (g : Str) (m t : Int)
def Th.kd : Th → Str
  | .fil _ => "file" | .dir .. => "directory" | .sym .. => "symlink"
def Th.vs : Th → List V
  | .fil i => [.str "file", .int i]
  | .dir m t => [.str "directory", .int m, .int t]
  | .sym g m t => [.str "symlink", .str g, .int m, .int t]
def RTh (K : PySem.W.Frag) : Rep Th := fun F v th => ∃ p, v = .ref p ∧ SqT K F p th.vs
theorem mon_RTh : Mon (RTh K) := fun F F' v b e ⟨p, h1, h2⟩ => ⟨p, h1, sqs e h2⟩
abbrev At := List (Str × Th)
def RKv (K : PySem.W.Frag) (F : Hp) : Key × V → Str × Th → Prop := fun p q => p.1 = Sum.inr q.1 ∧ RTh K F p.2 q.2
def RAt (K : PySem.W.Frag) (F : Hp) (kvs : List (Key × V)) (a : At) : Prop := Paired (RKv K F) kvs a
theorem mon_RAt {F F' : Hp} {kvs : List (Key × V)} {a : At} (e : Same F F') (h : RAt K F kvs a) : RAt K F' kvs a := Paired.mapP h fun _ _ ⟨h1, h2⟩ => ⟨h1, mon_RTh _ _ _ _ e h2⟩
abbrev Fl := List Int × Int × Int
def RFl : Rep Fl := fun F v f => ∃ p u, v = .ref p ∧ F p = some (.tup [.str "file", u, .int f.2.1, .int f.2.2]) ∧ RNs F u f.1
theorem mon_RFl : Mon RFl := fun F F' v b e ⟨p, u, h1, h2, h3⟩ => ⟨p, u, h1, e _ _ h2, mon_RNs _ _ _ _ e h3⟩
structure Tr where
  ats : At
  fls : List Fl
structure TrAt (K : PySem.W.Frag) (F H : Hp) (p da df : Addr) (t : Tr) : Prop where
  hp : H p = some (.dK [(Sum.inr "at", .ref da), (Sum.inr "files", .ref df)])
  ha : ∃ kvs, H da = some (.dK kvs) ∧ RAt K F kvs t.ats
  hf : ∃ vs, H df = some (.lst vs) ∧ Paired (RFl F) vs t.fls
def RTr (K : PySem.W.Frag) : Rep Tr := fun F v t => ∃ p da df, v = .ref p ∧ TrAt K F F p da df t
theorem mon_RTr : Mon (RTr K) := fun F F' v b e ⟨p, da, df, h1, ⟨h2, ⟨kvs, h3, h4⟩, vs, h5, h6⟩⟩ => ⟨p, da, df, h1, ⟨e _ _ h2, ⟨kvs, e _ _ h3, mon_RAt e h4⟩, vs, e _ _ h5, mon_RFl.paired e h6⟩⟩
abbrev Fb := Array UInt8 × Int × Int
def RFb (K : PySem.W.Frag) : Rep Fb := fun F v f => ∃ p, v = .ref p ∧ SqT K F p [.str "file", .byt f.1, .int f.2.1, .int f.2.2]
theorem mon_RFb : Mon (RFb K) := fun F F' v b e ⟨p, h1, h2⟩ => ⟨p, h1, sqs e h2⟩
/-- what is told of a path -/
inductive Rw where
  | fil (b : Array UInt8) (m t : Int)
  | dir (m t : Int)
  | sym (g : Str) (m t : Int)
  | lnk (z : Str)
def Rw.kd : Rw → Str
  | .fil .. => "file" | .dir .. => "directory" | .sym .. => "symlink" | .lnk _ => "link"
def Rw.vs : Rw → List V
  | .fil b m t => [.str "file", .byt b, .int m, .int t]
  | .dir m t => [.str "directory", .int m, .int t]
  | .sym g m t => [.str "symlink", .str g, .int m, .int t]
  | .lnk z => [.str "link", .str z]
def RRw (K : PySem.W.Frag) : Rep Rw := fun F v r => ∃ p, v = .ref p ∧ SqT K F p r.vs
theorem mon_RRw : Mon (RRw K) := fun F F' v b e ⟨p, h1, h2⟩ => ⟨p, h1, sqs e h2⟩
abbrev En := Str × Rw
def REn (K : PySem.W.Frag) : Rep En := fun F v e => ∃ p u, v = .ref p ∧ F p = some (.tup [.str e.1, u]) ∧ RRw K F u e.2
theorem mon_REn : Mon (REn K) := fun F F' v b e ⟨p, u, h1, h2, h3⟩ => ⟨p, u, h1, e _ _ h2, mon_RRw _ _ _ _ e h3⟩
structure Hs where
  ats : At
  fls : List Fb
def numb (vs : List V) : List (Key × V) := vs.zipIdx.map fun p => (Sum.inl (p.2 : Int), p.1)
def hF (ds df r : Addr) : List (Str × V) := [("standing", .ref ds), ("files", .ref df), ("rows", .ref r)]
structure HsAt (K : PySem.W.Frag) (C : Addr) (F H : Hp) (p dx ds df r : Addr) (h : Hs) (rows : List En) : Prop where
  hp : H p = some (.ins C dx (hF ds df r))
  hd : ∃ kvs, H ds = some (.dK kvs) ∧ RAt K F kvs h.ats
  hf : ∃ vs, H df = some (.dK (numb vs)) ∧ Paired (RFb K F) vs h.fls
  hr : ∃ rs, H r = some (.lst rs) ∧ Paired (REn K F) rs rows
theorem HsAt.mono {C : Addr} {F H F' H' : Hp} {p dx ds df r : Addr} {h : Hs} {rows : List En} (a : HsAt K C F H p dx ds df r h rows) (ef : Same F F') (k : ∀ b o, (b = p ∨ b = ds ∨ b = df ∨ b = r) → H b = some o → H' b = some o) : HsAt K C F' H' p dx ds df r h rows := by
  obtain ⟨h2, ⟨kvs, h3, h4⟩, ⟨vs, h5, h6⟩, rs, h7, h8⟩ := a
  exact ⟨k _ _ (.inl rfl) h2, ⟨kvs, k _ _ (.inr (.inl rfl)) h3, mon_RAt ef h4⟩, ⟨vs, k _ _ (.inr (.inr (.inl rfl))) h5, mon_RFb.paired ef h6⟩, rs, k _ _ (.inr (.inr (.inr rfl))) h7, mon_REn.paired ef h8⟩
end
/-! ### facts by names -/
structure DefX (K : PySem.W.Frag) (mg : Str → Option Value) (x : Str) (st : Stmt) (ps : List Str) : Prop where
  ex : ∃ f fd, L2.Fun K x x st f fd ∧ mg x = some (.ref f) ∧ Binds K fd ps []
structure MetX (K : PySem.W.Frag) (C : Addr) (m qual : Str) (st : Stmt) (ps : List Str) : Prop where
  ex : ∃ f fd, L2.Fun K m qual st f fd ∧ Meth K C m f ∧ Binds K fd ps [] ∧ Cls K C
section
variable {P : Program} {w : World} {K : PySem.W.Frag} {mg : Str → Option Value} {base : Heap} {k : Nat}
theorem DefX.cal {x : Str} {st : Stmt} {N ps : List Str} {sp : Sp} (D : DefX K mg x st ps) (S : FnScope N ps (defScope st)) (len : ∀ vs H Q E, sp vs H Q E → vs.length = ps.length)
    (hbody : ∀ (f : Addr) (cdv : Value) (A : Around) (outer : List Env) (s : Shared) (H : Hp) (vs : List V) (Q : VK) (E : XK), Room k (A.deeper (envOfC x (defScope st) s.heap.objs.size f cdv)) → sp vs H Q E →
      ∃ t, PSs (cxOf CX0 P w K mg base N x (defScope st) f cdv A outer s H E).nox (defBody st) t ∧ t { nx := fun _ H' => Q .non H', rt := Q } (start N vs) H) : C8.Cal P w K mg base (k + 1) x sp [] := by
  obtain ⟨f, fd, F, hm, b⟩ := D.ex
  exact ⟨f, fd, ps, [], F.ok S len (hbody f), hm, F.kp, b, .nil⟩
theorem MetX.met {C : Addr} {m qual : Str} {st : Stmt} {N ps : List Str} {sp : Sp} (D : MetX K C m qual st ps) (S : FnScope N ps (defScope st)) (len : ∀ vs H Q E, sp vs H Q E → vs.length = ps.length)
    (hbody : ∀ (f : Addr) (cdv : Value) (A : Around) (outer : List Env) (s : Shared) (H : Hp) (vs : List V) (Q : VK) (E : XK), Room k (A.deeper (envOfC qual (defScope st) s.heap.objs.size f cdv)) → sp vs H Q E →
      ∃ t, PSs (cxOf CX0 P w K mg base N qual (defScope st) f cdv A outer s H E).nox (defBody st) t ∧ t { nx := fun _ H' => Q .non H', rt := Q } (start N vs) H) : C8.Met P w K mg base (k + 1) C m sp [] := by
  obtain ⟨f, fd, F, hm, b, c⟩ := D.ex
  exact ⟨f, fd, ps, [], c, hm, F.ok S len (hbody f), b, .nil⟩
end
/-- the built-in names that the module leaves -/
structure Bl (mg : Str → Option Value) : Prop where
  isinstance_ : mg "isinstance" = none
  int_ : mg "int" = none
  bool_ : mg "bool" = none
  list_ : mg "list" = none
  tuple_ : mg "tuple" = none
  str_ : mg "str" = none
  bytes_ : mg "bytes" = none
  dict_ : mg "dict" = none
  all_ : mg "all" = none
  any_ : mg "any" = none
  len_ : mg "len" = none
  range_ : mg "range" = none
  sorted_ : mg "sorted" = none
  enumerate_ : mg "enumerate" = none
  abs_ : mg "abs" = none
  max_ : mg "max" = none
  min_ : mg "min" = none
  super_ : mg "super" = none
end L2.K88

end
/-! K88T -/
section
set_option Elab.async false
set_option linter.all false
set_option maxRecDepth 100000
set_option maxHeartbeats 4000000
/-! paths: parts, what is above, what is well formed -/
namespace L2.K88
open PySem PySem.Spec PyProof.Rows
def slash : Str := "/"
theorem slash_eq : slash = SX.S [47] := by decide +kernel
def letS : Str := "abcdefghijklmnopqrstuvwxyz0123456789._-/"
def NameOk (z : Str) : Prop := 1 ≤ z.length ∧ z.length ≤ 250 ∧ ∀ c ∈ z.cps.toList, c ∈ letS.cps.toList
def PathOk (z : Str) : Prop := NameOk z ∧ ∀ p ∈ Txt.split z slash, p ≠ "" ∧ p ≠ "." ∧ p ≠ ".."
def sp (l : List Nat) : List (List Nat) := TL.spl [47] 0 [] l
theorem pre_yes (r : List Nat) : TL.pre [47] (47 :: r) = true := by cases r <;> rfl
theorem pre_no {c : Nat} (h : c ≠ 47) (r : List Nat) : TL.pre [47] (c :: r) = false := by
  unfold TL.pre
  simp [h]
theorem spl_props : ∀ (l acc : List Nat), 47 ∉ acc → TL.spl [47] 0 acc l ≠ [] ∧ (∀ p ∈ TL.spl [47] 0 acc l, 47 ∉ p) ∧ TL.joinL [47] (TL.spl [47] 0 acc l) = acc ++ l
  | [], acc, h => by
    rw [TL.spl_nil]
    refine ⟨by simp, by simpa using h, by simp [TL.joinL]⟩
  | c :: r, acc, h => by
    by_cases e : c = 47
    · subst e
      rw [TL.spl_hit (pre_yes r)]
      obtain ⟨h1, h2, h3⟩ := spl_props r [] (by simp)
      refine ⟨by simp, ?_, ?_⟩
      · intro p hp
        rcases List.mem_cons.mp hp with e | e
        · rw [e]; exact h
        · exact h2 p e
      · show TL.joinL [47] (acc :: TL.spl [47] 0 [] r) = _
        cases e : TL.spl [47] 0 [] r with
        | nil => exact absurd e h1
        | cons p q =>
          show acc ++ ([47] ++ TL.joinL [47] (p :: q)) = _
          rw [← e, h3]
          simp
    · rw [TL.spl_miss (pre_no e r)]
      obtain ⟨h1, h2, h3⟩ := spl_props r (acc ++ [c]) (by simp [h]; exact fun z => e z.symm)
      exact ⟨h1, h2, by rw [h3]; simp⟩
theorem sp_ne (l : List Nat) : sp l ≠ [] := (spl_props l [] (by simp)).1
theorem sp_no (l : List Nat) : ∀ p ∈ sp l, 47 ∉ p := (spl_props l [] (by simp)).2.1
theorem sp_join (l : List Nat) : TL.joinL [47] (sp l) = l := (spl_props l [] (by simp)).2.2
theorem sp_of {ps : List (List Nat)} (h : ps ≠ []) (hn : ∀ p ∈ ps, 47 ∉ p) : sp (TL.joinL [47] ps) = ps := TL.spl_join h hn
theorem join_len : ∀ {ps : List (List Nat)}, ps ≠ [] → (TL.joinL [47] ps).length + 1 = (ps.map List.length).sum + ps.length
  | [], h => absurd rfl h
  | [p], _ => by simp [TL.joinL]
  | p :: q :: r, _ => by
    show (p ++ ([47] ++ TL.joinL [47] (q :: r))).length + 1 = _
    have ih := join_len (ps := q :: r) (by simp)
    simp only [List.length_append, List.length_cons, List.length_nil, List.map_cons, List.sum_cons] at ih ⊢
    omega
theorem join_mem : ∀ {ps : List (List Nat)} {c : Nat}, c ∈ TL.joinL [47] ps → c = 47 ∨ ∃ p ∈ ps, c ∈ p
  | [], c, h => by simp [TL.joinL] at h
  | [p], c, h => .inr ⟨p, by simp, h⟩
  | p :: q :: r, c, h => by
    have h' : c ∈ p ++ ([47] ++ TL.joinL [47] (q :: r)) := h
    rcases List.mem_append.mp h' with h1 | h1
    · exact .inr ⟨p, by simp, h1⟩
    · rcases List.mem_append.mp h1 with h2 | h2
      · exact .inl (by simpa using h2)
      · rcases join_mem h2 with h3 | ⟨p', h3, h4⟩
        · exact .inl h3
        · exact .inr ⟨p', by simp at h3 ⊢; exact .inr h3, h4⟩
theorem mem_join : ∀ {ps : List (List Nat)} {c : Nat} {p : List Nat}, p ∈ ps → c ∈ p → c ∈ TL.joinL [47] ps
  | [p'], c, p, h, hc => by simp at h; subst h; exact hc
  | p' :: q :: r, c, p, h, hc => by
    show c ∈ p' ++ ([47] ++ TL.joinL [47] (q :: r))
    rcases List.mem_cons.mp h with e | e
    · subst e; exact List.mem_append_left _ hc
    · exact List.mem_append_right _ (List.mem_append_right _ (mem_join e hc))
/-! at texts -/
def cz (z : Str) : List Nat := z.cps.toList
theorem S_cz (z : Str) : SX.S (cz z) = z := SX.S_tl z
theorem cz_S (l : List Nat) : cz (SX.S l) = l := by simp [cz, SX.S]
theorem cz_len (z : Str) : (cz z).length = z.length := by simp [cz, Str.length]
theorem cz_inj {a b : Str} (h : cz a = cz b) : a = b := by rw [← S_cz a, ← S_cz b, h]
def pz (z : Str) : List (List Nat) := sp (cz z)
theorem split_eq (z : Str) : Txt.split z slash = (pz z).map SX.S := by
  have h := SX.split_S (a := cz z) (b := [47]) (by simp) (by decide)
  rw [S_cz, ← slash_eq] at h
  exact h
/-- the path of the first k parts -/
def upto (z : Str) (k : Nat) : Str := SX.S (TL.joinL [47] ((pz z).take k))
theorem join_upto (z : Str) (k : Nat) : Txt.join slash ((Txt.split z slash).take k) = upto z k := by
  rw [split_eq, ← List.map_take, slash_eq, SX.join_S]
  rfl
def aboves (z : Str) : List Str := (List.range ((pz z).length - 1)).map fun i => upto z (i + 1)
theorem split_len (z : Str) : (Txt.split z slash).length = (pz z).length := by rw [split_eq, List.length_map]
theorem pz_ne (z : Str) : pz z ≠ [] := sp_ne _
theorem pz_sum (z : Str) : ((pz z).map List.length).sum + (pz z).length = z.length + 1 := by
  have h := join_len (pz_ne z)
  unfold pz at h ⊢
  rw [sp_join, cz_len] at h
  omega
theorem pz_len (z : Str) : (pz z).length ≤ z.length + 1 := by have := pz_sum z; omega
theorem take_ne {α : Type} {l : List α} {k : Nat} (h : l ≠ []) : l.take (k + 1) ≠ [] := by
  cases l with
  | nil => exact absurd rfl h
  | cons a r => simp
theorem pz_upto (z : Str) (k : Nat) : pz (upto z (k + 1)) = (pz z).take (k + 1) := by
  unfold pz upto
  rw [cz_S]
  exact sp_of (take_ne (sp_ne _)) fun p hp => sp_no _ p (List.mem_of_mem_take hp)
theorem pz_inj {a b : Str} (h : pz a = pz b) : a = b := by
  apply cz_inj
  rw [← sp_join (cz a), ← sp_join (cz b)]
  exact congrArg _ h
theorem upto_upto (z : Str) {i j : Nat} (h : j ≤ i) : upto (upto z (i + 1)) (j + 1) = upto z (j + 1) := by
  unfold upto
  have e := pz_upto z i
  unfold upto at e
  rw [e, List.take_take, Nat.min_eq_left (by omega)]
theorem mem_above {z q : Str} : q ∈ aboves z ↔ ∃ i, i + 1 < (pz z).length ∧ q = upto z (i + 1) := by
  unfold aboves
  rw [List.mem_map]
  constructor
  · rintro ⟨i, h, rfl⟩
    rw [List.mem_range] at h
    exact ⟨i, by omega, rfl⟩
  · rintro ⟨i, h, rfl⟩
    exact ⟨i, by rw [List.mem_range]; omega, rfl⟩
theorem above_trans {z q r : Str} (h : q ∈ aboves z) (h' : r ∈ aboves q) : r ∈ aboves z := by
  obtain ⟨i, hi, rfl⟩ := mem_above.mp h
  obtain ⟨j, hj, rfl⟩ := mem_above.mp h'
  rw [pz_upto, List.length_take] at hj
  rw [upto_upto z (by omega)]
  exact mem_above.mpr ⟨j, by omega, rfl⟩
theorem above_lt {z q : Str} (h : q ∈ aboves z) : (pz q).length < (pz z).length := by
  obtain ⟨i, hi, rfl⟩ := mem_above.mp h
  rw [pz_upto, List.length_take]
  omega
theorem above_ne {z q : Str} (h : q ∈ aboves z) : q ≠ z := fun e => by
  have := above_lt h
  rw [e] at this
  omega
/-- a part that may stand in a path -/
def PartOk (p : List Nat) : Prop := p ≠ [] ∧ p ≠ [46] ∧ p ≠ [46, 46] ∧ 47 ∉ p ∧ ∀ c ∈ p, c ∈ letS.cps.toList
theorem emp_eq : ("" : Str) = SX.S [] := by decide +kernel
theorem dot_eq : ("." : Str) = SX.S [46] := by decide +kernel
theorem dots_eq : (".." : Str) = SX.S [46, 46] := by decide +kernel
theorem slash_in : 47 ∈ letS.cps.toList := by decide +kernel
theorem pathOk_iff {z : Str} : PathOk z ↔ z.length ≤ 250 ∧ ∀ p ∈ pz z, PartOk p := by
  constructor
  · rintro ⟨⟨h1, h2, h3⟩, h4⟩
    refine ⟨h2, fun p hp => ?_⟩
    have h5 := h4 (SX.S p) (by rw [split_eq]; exact List.mem_map_of_mem hp)
    refine ⟨fun e => h5.1 (by rw [e, emp_eq]), fun e => h5.2.1 (by rw [e, dot_eq]), fun e => h5.2.2 (by rw [e, dots_eq]), sp_no _ p hp, fun c hc => h3 c ?_⟩
    have : c ∈ TL.joinL [47] (sp (cz z)) := mem_join hp hc
    rw [sp_join] at this
    exact this
  · rintro ⟨h1, h2⟩
    refine ⟨⟨?_, h1, fun c hc => ?_⟩, fun p hp => ?_⟩
    · cases e : pz z with
      | nil => exact absurd e (pz_ne z)
      | cons p r =>
        have hp := h2 p (by rw [e]; simp)
        have hs := pz_sum z
        rw [e] at hs
        have : 1 ≤ p.length := by
          cases p with
          | nil => exact absurd rfl hp.1
          | cons a b => simp
        simp only [List.map_cons, List.sum_cons, List.length_cons] at hs
        omega
    · have hc' : c ∈ TL.joinL [47] (sp (cz z)) := by rw [sp_join]; exact hc
      rcases join_mem hc' with e | ⟨p, hp, hcp⟩
      · rw [e]; exact slash_in
      · exact (h2 p hp).2.2.2.2 c hcp
    · rw [split_eq] at hp
      obtain ⟨l, hl, rfl⟩ := List.mem_map.mp hp
      have h := h2 l hl
      exact ⟨fun e => h.1 (SX.S_inj (by rw [e, emp_eq])), fun e => h.2.1 (SX.S_inj (by rw [e, dot_eq])), fun e => h.2.2.1 (SX.S_inj (by rw [e, dots_eq]))⟩
theorem sum_take_le (l : List Nat) (k : Nat) : (l.take k).sum ≤ l.sum := by
  induction l generalizing k with
  | nil => simp
  | cons a r ih =>
    cases k with
    | zero => simp
    | succ k => simp only [List.take_succ_cons, List.sum_cons]; have := ih k; omega
theorem above_ok {z q : Str} (h : PathOk z) (hq : q ∈ aboves z) : PathOk q := by
  obtain ⟨i, hi, rfl⟩ := mem_above.mp hq
  rw [pathOk_iff] at h ⊢
  have e := pz_upto z i
  refine ⟨?_, fun p hp => h.2 p ?_⟩
  · have h1 := pz_sum (upto z (i + 1))
    have h2 := pz_sum z
    rw [e, List.map_take, List.length_take] at h1
    have h3 := sum_take_le ((pz z).map List.length) (i + 1)
    have h4 := h.1
    omega
  · rw [e] at hp
    exact List.mem_of_mem_take hp
theorem path_of {ps : List (List Nat)} (hn : ps ≠ []) (h : ∀ p ∈ ps, PartOk p) (hl : (ps.map List.length).sum + ps.length ≤ 251) : PathOk (SX.S (TL.joinL [47] ps)) := by
  have e : pz (SX.S (TL.joinL [47] ps)) = ps := by unfold pz; rw [cz_S]; exact sp_of hn fun p hp => (h p hp).2.2.2.1
  rw [pathOk_iff, e]
  refine ⟨?_, h⟩
  have := join_len hn
  rw [SX.S_len]
  omega
theorem le_sum : ∀ {l : List Nat} {n : Nat}, n ∈ l → n ≤ l.sum
  | a :: r, n, h => by
    simp only [List.sum_cons]
    rcases List.mem_cons.mp h with e | e
    · omega
    · have := le_sum e; omega
theorem head_ok {z : Str} (h : PathOk z) {p : List Nat} (hp : p ∈ pz z) : PathOk (SX.S p) := by
  rw [pathOk_iff] at h
  have h1 : PathOk (SX.S (TL.joinL [47] [p])) := path_of (by simp) (by simpa using h.2 p hp) (by
    have h2 := pz_sum z
    have h3 : p.length ≤ ((pz z).map List.length).sum := by
      have : p.length ∈ (pz z).map List.length := List.mem_map_of_mem hp
      exact le_sum this
    have h4 : 1 ≤ (pz z).length := List.length_pos_of_mem hp
    simp
    have := h.1
    omega)
  exact h1
theorem upto_join_le (z : Str) (k : Nat) : (((Txt.split z slash).take k).map (·.length)).sum + ((Txt.split z slash).take k).length * slash.length ≤ z.length + 1 := by
  have h1 : ((Txt.split z slash).take k).map (·.length) = ((pz z).map List.length).take k := by
    rw [split_eq, ← List.map_take, ← List.map_take, List.map_map]
    exact List.map_congr_left fun p _ => SX.S_len p
  rw [h1, show slash.length = 1 by decide +kernel, List.length_take, split_len]
  have h2 := sum_take_le ((pz z).map List.length) k
  have h3 := pz_sum z
  omega
end L2.K88

end
/-! K88P1 -/
section
set_option Elab.async false
set_option linter.all false
set_option maxRecDepth 100000
set_option maxHeartbeats 4000000
namespace L2.K88
open PySem PySem.Spec PyProof.Rows
abbrev sIsInt : Stmt := top 12
abbrev sWithin : Stmt := top 13
abbrev sBlob : Stmt := top 14
abbrev sIsName : Stmt := top 22
abbrev sIsPath : Stmt := top 23
abbrev sLookName : Stmt := top 24
abbrev sLookStamps : Stmt := top 25
structure Cst (mg : Str → Option Value) : Prop where
  letters : ∃ u, mg "LETTERS" = some u ∧ RelV (.str letS) u
  mName : ∃ u, mg "MOST_NAME" = some u ∧ RelV (.int 250) u
  mData : ∃ u, mg "MOST_DATA" = some u ∧ RelV (.int 4096) u
  mPieces : ∃ u, mg "MOST_PIECES" = some u ∧ RelV (.int 50) u
  mMode : ∃ u, mg "MOST_MODE" = some u ∧ RelV (.int 4095) u
  mTime : ∃ u, mg "MOST_TIME" = some u ∧ RelV (.int 8589934591) u
/-! ### names -/
/-! ### promises -/
def spIsInt : Sp := fun vs H Q _ => ∃ i : Int, vs = [.int i] ∧ Q (.bl true) H
def spWithin : Sp := fun vs H Q _ => ∃ i lo hi : Int, vs = [.int i, .int lo, .int hi] ∧ lo ≤ i ∧ i ≤ hi ∧ Q (.bl true) H
def spBlob : Sp := fun vs H Q _ => ∃ (p : Addr) (ns : List Int), vs = [.ref p] ∧ H p = some (.lst (ns.map V.int)) ∧ B8 ns ∧ ns.length < sizeLine ∧ ∀ H', Same H H' → Q (.byt (byteArr ns)) H'
def spIsName : Sp := fun vs H Q _ => ∃ z : Str, vs = [.str z] ∧ NameOk z ∧ ∀ H', Same H H' → Q (.bl true) H'
def spIsPath : Sp := fun vs H Q _ => ∃ z : Str, vs = [.str z] ∧ PathOk z ∧ ∀ H', Same H H' → Q (.bl true) H'
def spLookName : Sp := fun vs H Q _ => ∃ z : Str, vs = [.str z] ∧ NameOk z ∧ ∀ H', Same H H' → Q .non H'
def spLookStamps : Sp := fun vs H Q _ => ∃ m t : Int, vs = [.int m, .int t] ∧ 0 ≤ m ∧ m ≤ 4095 ∧ 0 ≤ t ∧ t ≤ 8589934591 ∧ Q .non H
section
variable {P : Program} {w : World} {K : PySem.W.Frag} {mg : Str → Option Value} {base : Heap}
theorem scIsInt : FnScope ["thing"] ["thing"] (defScope sIsInt) := ⟨rfl, rfl, rfl, by decide +kernel, rfl, by decide +kernel, by decide +kernel⟩
theorem c_is_integer (D : DefX K mg "is_integer" sIsInt ["thing"]) (B : Bl mg) : C8.Cal P w K mg base 1 "is_integer" spIsInt [] := by
  refine D.cal scIsInt (fun vs H Q E h => ?_) (fun f cdv A outer s H vs Q E hr h => ?_)
  · obtain ⟨i, rfl, _⟩ := h; rfl
  · obtain ⟨i, rfl, k⟩ := h
    refine ⟨_, pss_one (ps_ret (pe_and (pe_callB call_isi (by rfl) B.isinstance_ boot_isinstance (pa_cons (pv 0) (pa_cons (pe_bltn (v := .ty "int") (by rfl) B.int_ (by decide +kernel) rfl) pa_nil)))
      (pe_one (pe_not (pe_callB call_isi (by rfl) B.isinstance_ boot_isinstance (pa_cons (pv 0) (pa_cons (pe_bltn (v := .ty "bool") (by rfl) B.bool_ (by decide +kernel) rfl) pa_nil))))))), ?_⟩
    refine ⟨_, rfl, _, _, _, _, true, rfl, .ty "int", .base (.int _), kit_ty (by decide +kernel), true, rfl, ?_⟩
    refine iT rfl ⟨_, rfl, _, _, _, _, false, rfl, .ty "bool", .base (.int _), kit_ty (by decide +kernel), false, rfl, k⟩
theorem scWithin : FnScope ["thing", "low", "high"] ["thing", "low", "high"] (defScope sWithin) := ⟨rfl, rfl, rfl, by decide +kernel, rfl, by decide +kernel, by decide +kernel⟩
theorem c_is_within (D : DefX K mg "is_within" sWithin ["thing", "low", "high"]) (cI : C8.Cal P w K mg base 1 "is_integer" spIsInt []) : C8.Cal P w K mg base 2 "is_within" spWithin [] := by
  refine D.cal scWithin (fun vs H Q E h => ?_) (fun f cdv A outer s H vs Q E hr h => ?_)
  · obtain ⟨i, lo, hi, rfl, _⟩ := h; rfl
  · obtain ⟨i, lo, hi, rfl, h1, h2, k⟩ := h
    refine ⟨_, pss_one (ps_ret (pe_and (C8.pe_c cI hr (by decide) (by rfl) (pa_cons (pv 0) pa_nil)) (pe_one (pe_chain op_le op_le (pv 1) (pv 0) (pv 2))))), ?_⟩
    refine ⟨_, rfl, i, rfl, true, rfl, ?_⟩
    refine iT rfl ⟨_, rfl, _, rfl, _, _, rfl, rfl, _, rfl, iT (decide_eq_true h1) ?_⟩
    refine ⟨_, rfl, _, _, rfl, rfl, ?_⟩
    show Q (V.bl (decide (i ≤ hi))) H
    rw [decide_eq_true h2]
    exact k
theorem scBlob : FnScope ["numbers", "number"] ["numbers"] (defScope sBlob) := ⟨rfl, rfl, rfl, by decide +kernel, rfl, by decide +kernel, by decide +kernel⟩
theorem c_blob (D : DefX K mg "blob" sBlob ["numbers"]) (B : Bl mg) (cW : C8.Cal P w K mg base 2 "is_within" spWithin []) : C8.Cal P w K mg base 3 "blob" spBlob [] := by
  refine D.cal scBlob (fun vs H Q E h => ?_) (fun f cdv A outer s H vs Q E hr h => ?_)
  · obtain ⟨p, ns, rfl, _⟩ := h; rfl
  · obtain ⟨p, ns, rfl, hp, h8, hz, k⟩ := h
    refine ⟨_, pss_cons (ps_if (PW.pt (pw_or (pt_not (pt_val (pe_callB call_isiT (by rfl) B.isinstance_ boot_isinstance (pa_cons (pv 0) (pa_cons (pe_tup (pa_cons (pe_bltn (v := .ty "list") (by rfl) B.list_ (by decide +kernel) rfl) (pa_cons (pe_bltn (v := .ty "tuple") (by rfl) B.tuple_ (by decide +kernel) rfl) pa_nil))) pa_nil)))))
        (pw_or1 (pt_not (pt_val (pe_callB (cr_all rfl) (by rfl) B.all_ boot_all (pa_cons (pe_lc (own := [("number", 1)]) (g := gName 1) (tt := tYes) rfl scBlob.nd (pi_list (pv 0)) (blkOk_by (N := ["numbers", "number"]) (sc := defScope sBlob) (by decide +kernel)) (fun _ _ _ _ _ => pg_name (i := 1) scBlob.nd rfl (Or.inl rfl)) (fun _ _ _ _ _ => pts_nil)
          (fun _ _ _ _ _ => C8.pe_c cW hr (by decide) (by rfl) (pa_cons (pv 1) (pa_cons pe_int (pa_cons pe_int pa_nil))))) pa_nil)))))))
        pss_never pss_nil)
      (pss_one (ps_ret (pe_callTy (call_bytes_list rfl) (by rfl) B.bytes_ boot_bytes (pa_cons (pv 0) pa_nil)))), ?_⟩
    refine ⟨_, rfl, (by show 2 ≤ sizeLine; decide), fun tp ht => ?_⟩
    refine ⟨_, _, _, _, [.type "list", .type "tuple"], true, rfl, upd_same, .cons (.ty _) (.cons (.ty _) .nil), .base (.lst (by rw [upd_ne (ne_of_none hp ht)]; exact hp)), kitAny_cons (kit_ty (b := "list") (r := true) (by decide +kernel)) (fun z => nomatch z) (fun _ => rfl), true, rfl, ?_⟩
    refine iF rfl ?_
    have s0 : Same H (upd H tp (.tup [.ty "list", .ty "tuple"])) := sameUpd ht
    refine ⟨_, rfl, _, rfl, ⟨_, SqL.of (s0 _ _ hp)⟩, fun D hD => ?_⟩
    refine lc_it (walk_list (xs := ns.map V.int)) (fun i H' => (Same H H' ∧ H D = none ∧ H' D = some (.lst ((List.replicate i true).map V.bl)))) ?_ (fun i H' _ h => SqL.of (h.1 _ _ hp)) ?_ ?_
    · exact ⟨s0.trans (sameUpd hD), s0.free hD, upd_same⟩
    · rintro i x H1 H2 hi ⟨hs, hd0, hD1⟩ ⟨rfl, hx⟩
      rw [List.getElem?_map] at hx
      cases e : ns[i]? with
      | none => rw [e] at hx; cases hx
      | some n =>
        rw [e] at hx
        obtain rfl : V.int n = x := Option.some.inj hx
        have hb := h8 n (List.mem_of_getElem? e)
        rw [List.length_map] at hi
        refine ⟨rfl, ?_⟩
        refine ⟨_, rfl, n, 0, 255, rfl, ?_, ?_, _, hD1, ?_, ?_⟩
        · exact hb.1
        · have := hb.2; omega
        · simp; omega
        · refine ⟨fun b o e => ?_, hd0, ?_⟩
          · rw [upd_ne (ne_of_none e hd0)]; exact hs _ _ e
          · rw [upd_same]; congr 2; simp [List.replicate_succ', List.map_append]
    · rintro H' ⟨hs, hd0, hD1⟩
      refine ⟨_, _, rfl, SqL.of hD1, _, rfl, ?_⟩
      rw [show (List.replicate (ns.map V.int).length true).all id = true by simp]
      refine iF rfl ⟨_, rfl, _, ns, rfl, SqL.of (hs _ _ hp), h8, k _ hs⟩
theorem scIsName : FnScope ["thing", "sign"] ["thing"] (defScope sIsName) := ⟨rfl, rfl, rfl, by decide +kernel, rfl, by decide +kernel, by decide +kernel⟩
theorem c_is_name (D : DefX K mg "is_name" sIsName ["thing"]) (B : Bl mg) (T : Cst mg) : C8.Cal P w K mg base 1 "is_name" spIsName [] := by
  refine D.cal scIsName (fun vs H Q E h => ?_) (fun f cdv A outer s H vs Q E hr h => ?_)
  · obtain ⟨z, rfl, _⟩ := h; rfl
  · obtain ⟨z, rfl, ⟨h1, h2, h3⟩, k⟩ := h
    refine ⟨_, pss_cons (ps_if (PW.pt (pw_or (pt_not (pt_val (pe_callB call_isi (by rfl) B.isinstance_ boot_isinstance (pa_cons (pv 0) (pa_cons (pe_bltn (v := .ty "str") (by rfl) B.str_ (by decide +kernel) rfl) pa_nil)))))
        (pw_or1 (pt_not (pt_chain op_le op_le pe_int (pe_callB call_len (by rfl) B.len_ boot_len (pa_cons (pv 0) pa_nil)) (C8.pe_gc (by rfl) T.mName)))))) pss_never pss_nil)
      (pss_one (ps_ret (pe_callB (cr_all rfl) (by rfl) B.all_ boot_all (pa_cons (pe_lc (own := [("sign", 1)]) (g := gName 1) (tt := tYes) rfl scIsName.nd (pi_str (pv 0)) (blkOk_by (N := ["thing", "sign"]) (sc := defScope sIsName) (by decide +kernel)) (fun _ _ _ _ _ => pg_name (i := 1) scIsName.nd rfl (Or.inl rfl)) (fun _ _ _ _ _ => pts_nil)
          (fun _ _ _ _ _ => pe_cmpR op_in_sign (pv 1) (C8.pe_gc (by rfl) T.letters) (by rfl))) pa_nil)))), ?_⟩
    refine ⟨_, rfl, _, _, _, _, true, rfl, .ty "str", .base (.str _), kit_ty (by decide +kernel), true, rfl, ?_⟩
    refine iF rfl ⟨_, rfl, _, _, rfl, ⟨Nat.le_trans h2 (by decide), rfl⟩, _, _, rfl, rfl, _, rfl, iT (decide_eq_true (by omega)) ⟨_, _, rfl, rfl, _, rfl, ?_⟩⟩
    show (if (!decide ((z.length : Int) ≤ 250)) = true then _ else _)
    rw [decide_eq_true (show (z.length : Int) ≤ 250 by omega)]
    refine iF rfl ?_
    refine ⟨_, rfl, _, rfl, fun D hD => ?_⟩
    refine lc_it (walk_str (z := z)) (fun i H' => (Same H H' ∧ H D = none ∧ H' D = some (.lst ((List.replicate i true).map V.bl)))) ?_ (fun i H' _ h => True.intro) ?_ ?_
    · exact ⟨sameUpd hD, hD, upd_same⟩
    · rintro i x H1 H2 hi ⟨hs, hd0, hD1⟩ ⟨rfl, c, hc, rfl⟩
      have hm : c ∈ letS.cps.toList := h3 c (by
        have e : z.cps.toList[i]? = some c := by rw [Array.getElem?_toList]; exact hc
        exact List.mem_of_getElem? e)
      refine ⟨rfl, _, rfl, c, letS, rfl, rfl, ?_⟩
      rw [decide_eq_true hm]
      refine ⟨_, hD1, ?_, fun b o e => ?_, hd0, ?_⟩
      · have : z.cps.size ≤ 250 := h2
        rw [List.length_map, List.length_replicate]
        exact Nat.lt_of_lt_of_le hi (Nat.le_trans this (by decide))
      · rw [upd_ne (ne_of_none e hd0)]; exact hs _ _ e
      · rw [upd_same]; congr 2; simp [List.replicate_succ', List.map_append]
    · rintro H' ⟨hs, hd0, hD1⟩
      refine ⟨_, _, rfl, SqL.of hD1, ?_⟩
      rw [show (List.replicate z.cps.size true).all id = true by simp]
      exact k _ hs
theorem scIsPath : FnScope ["thing", "part"] ["thing"] (defScope sIsPath) := ⟨rfl, rfl, rfl, by decide +kernel, rfl, by decide +kernel, by decide +kernel⟩
theorem notIn3 {p : Str} (h : p ≠ "" ∧ p ≠ "." ∧ p ≠ "..") : inV (.str p) [.str "", .str ".", .str ".."] = false := by
  have e : ∀ a : Str, p ≠ a → eqV (.str a) (.str p) = false := fun a n => beq_eq_false_iff_ne.mpr fun z => n z.symm
  show (eqV _ _ || (eqV _ _ || (eqV _ _ || false))) = false
  rw [e _ h.1, e _ h.2.1, e _ h.2.2]
  rfl
theorem c_is_path (D : DefX K mg "is_path" sIsPath ["thing"]) (B : Bl mg) (cN : C8.Cal P w K mg base 1 "is_name" spIsName []) : C8.Cal P w K mg base 2 "is_path" spIsPath [] := by
  refine D.cal scIsPath (fun vs H Q E h => ?_) (fun f cdv A outer s H vs Q E hr h => ?_)
  · obtain ⟨z, rfl, _⟩ := h; rfl
  · obtain ⟨z, rfl, ⟨h1, h2⟩, k⟩ := h
    refine ⟨_, pss_one (ps_ret (pe_and (C8.pe_c cN hr (by decide) (by rfl) (pa_cons (pv 0) pa_nil)) (pe_one (pe_not (pe_callB (cr_any rfl) (by rfl) B.any_ boot_any (pa_cons (pe_lc (own := [("part", 1)]) (g := gName 1) (tt := tYes) rfl scIsPath.nd (pi_list (pe_split (pv 0) pe_str)) (blkOk_by (N := ["thing", "part"]) (sc := defScope sIsPath) (by decide +kernel)) (fun _ _ _ _ _ => pg_name (i := 1) scIsPath.nd rfl (Or.inl rfl)) (fun _ _ _ _ _ => pts_nil)
          (fun _ _ _ _ _ => pe_cmpR (op_in_seq : OpR _ _ (rIn K false)) (pv 1) (pe_tup (pa_cons pe_str (pa_cons pe_str (pa_cons pe_str pa_nil)))) (by rfl))) pa_nil)))))), ?_⟩
    refine ⟨_, rfl, z, rfl, h1, fun H1 s1 => ⟨true, rfl, iT rfl ?_⟩⟩
    have hl : z.length + 2 ≤ sizeLine := Nat.le_trans (Nat.add_le_add_right h1.2.1 2) (by decide)
    refine ⟨_, rfl, ⟨_, rfl⟩, z, slash, rfl, rfl, (by decide +kernel), hl, fun p hp => ?_⟩
    refine ⟨_, rfl, ⟨_, SqL.of upd_same⟩, fun D hD => ?_⟩
    have hpD : p ≠ D := ne_of_none upd_same hD
    have s2 : Same H (upd H1 p (.lst ((Txt.split z slash).map V.str))) := s1.trans (sameUpd hp)
    refine lc_it (walk_list (xs := (Txt.split z slash).map V.str)) (fun i H' => (Same H H' ∧ H D = none ∧ H' p = some (.lst ((Txt.split z slash).map V.str)) ∧ H' D = some (.lst ((List.replicate i false).map V.bl)))) ?_ (fun i H' _ h => SqL.of h.2.2.1) ?_ ?_
    · exact ⟨s2.trans (sameUpd hD), s2.free hD, by rw [upd_ne hpD]; exact upd_same, upd_same⟩
    · rintro i x H3 H2 hi ⟨hs, hd0, hp1, hD1⟩ ⟨rfl, hx⟩
      rw [List.getElem?_map] at hx
      cases e : (Txt.split z slash)[i]? with
      | none => rw [e] at hx; cases hx
      | some n =>
        rw [e] at hx
        obtain rfl : V.str n = x := Option.some.inj hx
        have hb := h2 n (List.mem_of_getElem? e)
        refine ⟨rfl, _, rfl, (by show 3 ≤ sizeLine; decide), fun t ht => ?_⟩
        refine ⟨t, _, rfl, .inr (SqT.of upd_same), rfl, rfl, ?_⟩
        have hDt : D ≠ t := ne_of_none hD1 ht
        refine ⟨_, by rw [upd_ne hDt]; exact hD1, ?_, fun b o e => ?_, hd0, ?_, ?_⟩
        · rw [List.length_map, List.length_replicate]
          rw [List.length_map, split_len] at hi
          have h5 := pz_len z
          have h6 := h1.2.1
          exact Nat.lt_of_lt_of_le (show i < 252 by omega) (by decide)
        · rw [upd_ne (ne_of_none e hd0), upd_ne (ne_of_none (hs _ _ e) ht)]; exact hs _ _ e
        · rw [upd_ne hpD, upd_ne (ne_of_none hp1 ht)]; exact hp1
        · rw [upd_same]
          show some (HO.lst (_ ++ [V.bl (inV (.str n) [.str "", .str ".", .str ".."])])) = _
          rw [notIn3 hb]
          congr 2; simp [List.replicate_succ', List.map_append]
    · rintro H' ⟨hs, hd0, hp1, hD1⟩
      refine ⟨_, _, rfl, SqL.of hD1, ?_⟩
      rw [show (List.replicate (((Txt.split z slash).map V.str).length) false).any id = false by simp]
      exact ⟨_, rfl, k _ hs⟩
theorem scLookName : FnScope ["name"] ["name"] (defScope sLookName) := ⟨rfl, rfl, rfl, by decide +kernel, rfl, by decide +kernel, by decide +kernel⟩
theorem c_look_name (D : DefX K mg "look_name" sLookName ["name"]) (cN : C8.Cal P w K mg base 1 "is_name" spIsName []) : C8.Cal P w K mg base 2 "look_name" spLookName [] := by
  refine D.cal scLookName (fun vs H Q E h => ?_) (fun f cdv A outer s H vs Q E hr h => ?_)
  · obtain ⟨z, rfl, _⟩ := h; rfl
  · obtain ⟨z, rfl, h1, k⟩ := h
    refine ⟨_, pss_one (ps_if (pt_not (pt_val (C8.pe_c cN hr (by decide) (by rfl) (pa_cons (pv 0) pa_nil)))) pss_never pss_nil), ?_⟩
    exact ⟨_, rfl, z, rfl, h1, fun H1 s1 => ⟨true, rfl, iF rfl (k H1 s1)⟩⟩
theorem scLookStamps : FnScope ["mode", "time"] ["mode", "time"] (defScope sLookStamps) := ⟨rfl, rfl, rfl, by decide +kernel, rfl, by decide +kernel, by decide +kernel⟩
theorem c_look_stamps (D : DefX K mg "look_stamps" sLookStamps ["mode", "time"]) (T : Cst mg) (cW : C8.Cal P w K mg base 2 "is_within" spWithin []) : C8.Cal P w K mg base 3 "look_stamps" spLookStamps [] := by
  refine D.cal scLookStamps (fun vs H Q E h => ?_) (fun f cdv A outer s H vs Q E hr h => ?_)
  · obtain ⟨m, t, rfl, _⟩ := h; rfl
  · obtain ⟨m, t, rfl, h1, h2, h3, h4, k⟩ := h
    refine ⟨_, pss_cons (ps_if (pt_not (pt_val (C8.pe_c cW hr (by decide) (by rfl) (pa_cons (pv 0) (pa_cons pe_int (pa_cons (C8.pe_gc (by rfl) T.mMode) pa_nil)))))) pss_never pss_nil)
      (pss_one (ps_if (pt_not (pt_val (C8.pe_c cW hr (by decide) (by rfl) (pa_cons (pv 1) (pa_cons pe_int (pa_cons (C8.pe_gc (by rfl) T.mTime) pa_nil)))))) pss_never pss_nil)), ?_⟩
    exact ⟨_, rfl, m, 0, 4095, rfl, h1, h2, true, rfl, iF rfl ⟨_, rfl, t, 0, _, rfl, h3, h4, true, rfl, iF rfl k⟩⟩
end
end L2.K88

end
/-! K88R3 -/
section
set_option Elab.async false
set_option linter.all false
set_option maxRecDepth 100000
set_option maxHeartbeats 4000000
/-! a class whose __init__ closes over the class, made with keywords; with a star parameter -/
namespace L2.K88
open PySem PySem.Spec PyProof.Rows
section
variable {P : Program} {w : World} {K : PySem.W.Frag} {mg : Str → Option Value} {base : Heap} {k : Nat} {f cc : Addr} {name qual : Str} {params : Arguments} {body : List Stmt} {scope : Scope} {dV kV doc pm cdv ct oc ccl : Value} {an od ccd : Option Addr} {ccv : Option Value}
    {osl ccs : Array (Option Value)} {N ps : List Str}
theorem run_bndC {A : Around} {outer : List Env} {s : Shared} {H : Hp} {args : Args} {Q : VK} {E : XK} {G : List V → Hp → Prop} (lk : K.lookup f = some ⟨oc, od, .func (PySem.W.ksFn name qual params body scope dV kV doc pm an cdv ct cc), osl⟩) (hcd : PySem.W.codeIn K cdv qual = true)
    (hcc : K.lookup cc = some ⟨ccl, ccd, .cell ccv, ccs⟩) (S : SupScope N ps scope) (hr : Room (k + 1) A) (e0 : Env0 P w K mg base A outer s H) (hb : StX.Bnd CX0 P w K mg base (PySem.W.ksFn name qual params body scope dV kV doc pm an cdv ct cc) args ps A outer s H E G)
    (hbody : ∀ (s2 : Shared) (H2 : Hp) (vs : List V), G vs H2 → Room k (A.deeper (PySem.W.ksEnv qual scope s2.heap.objs.size f cdv cc)) →
      ∃ t, PAt (cxC P w K mg base N qual scope f cdv cc A outer s2 H2) (.func body (PySem.W.ksEnv qual scope s2.heap.objs.size f cdv cc)) body t ∧ t { nx := fun _ H' => Q .non H', rt := Q } (start N vs) H2) : codeAny (model P w) A (.call (.ref f) args) (CR CX0 outer P w H s Q E) s := by
  have KX : K.In s.heap := e0.mod.kin.keeps fun b o e => (e0.bs b o e).1
  refine codeAny_call_function hr.depth (KX _ _ lk) rfl S.co S.gen rfl (PySem.W.codeRec_of KX hcd) ?_
  refine hb _ _ _ fun s2 H2 vs us e2 un ho hx r hl g => ?_
  have lim : s2.heap.NoLimit := e0.mod.nolimit.keeps fun b o e => (e2.bs b o e).1
  refine wpAny_newFunctionEnv S.nocell (fun y hy => S.par y.1 (List.of_mem_zip hy).1) (fun h₁ hns hsb => ⟨lim.fresh _ hsb, ks_codeAny_funcAt ?_⟩) S.kind
  have kp : ∀ b o, s2.heap.get? b = some o → h₁.get? b = some o := fun b o e => hsb.extBut b o (Nat.ne_of_lt (Heap.lt_size e)) (Heap.get?_push_of_some _ e)
  obtain ⟨t, ht, hq⟩ := hbody s2 H2 vs g (hr.deeper _)
  have I := inv_startC (P := P) (w := w) (mg := mg) (qual := qual) (f := f) (cd := cdv) (tk := s2.toks + (ps.zip us).length) S hr.hd e2 hl r hcc hns kp
  refine ks_wpAt_mono (ht.run [] _ (start N vs) H2 _ I hq) (fun fl s' hs => ?_) fun e s' hs => False.elim hs
  have fin : ∀ {σ' : St} {H' : Hp} {v : V} {u : Value}, Inv (cxC P w K mg base N qual scope f cdv cc A outer s2 H2) [] σ' H' s' → RelV v u → Q v H' → CE outer P w H s Q u s' :=
    fun {σ' H' v u} J rv q => ⟨v, H', J.os.trans ho, J.bare, un.trans J.base, J.hok, rv, q⟩
  cases fl with
  | ret u =>
    obtain ⟨v, σ', H', J, rv, q⟩ := hs
    exact fin J rv q
  | next =>
    obtain ⟨σ', H', J, q⟩ := hs
    exact fin (v := V.non) (u := Value.none) J rfl q
  | brk =>
    obtain ⟨_, _, _, q⟩ := hs
    exact False.elim q
  | cont =>
    obtain ⟨_, _, _, q⟩ := hs
    exact False.elim q
/-- what a class's making promises: the values, those of the keywords, the heap with the new instance -/
abbrev SpC := List V → List V → Hp → VK → Prop
def InitC (P : Program) (w : World) (K : PySem.W.Frag) (mg : Str → Option Value) (base : Heap) (k : Nat) (f : Addr) (ks : List Str) (sp : SpC) : Prop :=
  ∀ (A : Around) (outer : List Env) (s : Shared) (H : Hp) (us ws : List Value) (vs zs : List V) (Q : VK), Room k A → Env0 P w K mg base A outer s H → Vals vs us → Vals zs ws → zs.length = ks.length → sp vs zs H Q →
    codeAny (model P w) A (.call (.ref f) ⟨us, ks.zip ws⟩) (CR CX0 outer P w H s Q E0) s
/-- .. all is given by place or keyword -/
theorem init_plain {ks : List Str} {sp : SpC} (n : Nat) (lk : K.lookup f = some ⟨oc, od, .func (PySem.W.ksFn name qual params body scope dV kV doc pm an cdv ct cc), osl⟩) (hcd : PySem.W.codeIn K cdv qual = true) (hcc : K.lookup cc = some ⟨ccl, ccd, .cell ccv, ccs⟩) (S : SupScope N ps scope)
    (hb : ∀ us ws : List Value, us.length = n → ws.length = ks.length → bindArgs (PySem.W.ksFn name qual params body scope dV kV doc pm an cdv ct cc) ⟨us, ks.zip ws⟩ = pure (ps.zip (us ++ ws))) (hn : ps.length = n + ks.length)
    (hbody : ∀ (A : Around) (outer : List Env) (s : Shared) (H : Hp) (vs zs : List V) (Q : VK), Room k (A.deeper (PySem.W.ksEnv qual scope s.heap.objs.size f cdv cc)) → sp vs zs H Q →
      ∃ t, PAt (cxC P w K mg base N qual scope f cdv cc A outer s H) (.func body (PySem.W.ksEnv qual scope s.heap.objs.size f cdv cc)) body t ∧ t { nx := fun _ H' => Q .non H', rt := Q } (start N (vs ++ zs)) H)
    (hlen : ∀ vs zs H Q, sp vs zs H Q → vs.length = n) : InitC P w K mg base (k + 1) f ks sp := by
  intro A outer s H us ws vs zs Q hr e0 r rz hz hsp
  have hl : us.length = n := r.length.symm.trans (hlen _ _ _ _ hsp)
  have hl2 : ws.length = ks.length := rz.length.symm.trans hz
  refine run_bndC lk hcd hcc S hr e0 (G := fun xs H2 => xs = vs ++ zs ∧ H2 = H) (fun A' Ex Q' h => ?_) fun s2 H2 xs ⟨ex, eH⟩ hr' => ?_
  · rw [hb us ws hl hl2]
    refine wpAny_pure (h s H (vs ++ zs) (us ++ ws) e0 (Un.refl ..) rfl (fun e s' z => z) (r.append rz) ?_ ⟨rfl, rfl⟩)
    rw [List.length_append, hlen _ _ _ _ hsp, hz, hn]
  · subst ex eH
    exact hbody A outer s2 _ vs zs Q hr' hsp
/-- .. and what is left over by place is a new tuple -/
theorem init_star {ks : List Str} {sp : List V → Hp → VK → Prop} (n : Nat) (lk : K.lookup f = some ⟨oc, od, .func (PySem.W.ksFn name qual params body scope dV kV doc pm an cdv ct cc), osl⟩) (hcd : PySem.W.codeIn K cdv qual = true) (hcc : K.lookup cc = some ⟨ccl, ccd, .cell ccv, ccs⟩) (S : SupScope N ps scope)
    (hb : ∀ us rest ws : List Value, us.length = n → ws.length = ks.length → bindArgs (PySem.W.ksFn name qual params body scope dV kV doc pm an cdv ct cc) ⟨us ++ rest, ks.zip ws⟩ = (newTuple rest >>= fun t => pure (ps.zip (us ++ ws ++ [t])))) (hn : ps.length = n + ks.length + 1)
    (hbody : ∀ (A : Around) (outer : List Env) (s : Shared) (H : Hp) (vs : List V) (Q : VK), Room k (A.deeper (PySem.W.ksEnv qual scope s.heap.objs.size f cdv cc)) → sp vs H Q →
      ∃ t, PAt (cxC P w K mg base N qual scope f cdv cc A outer s H) (.func body (PySem.W.ksEnv qual scope s.heap.objs.size f cdv cc)) body t ∧ t { nx := fun _ H' => Q .non H', rt := Q } (start N vs) H) :
    InitC P w K mg base (k + 1) f ks (fun vs zs H Q => ∃ ws rest, vs = ws ++ rest ∧ ws.length = n ∧ rest.length ≤ sizeLine ∧ ∀ p, H p = none → sp (ws ++ zs ++ [V.ref p]) (upd H p (.tup rest)) Q) := by
  intro A outer s H us ws vs zs Q hr e0 r rz hz hsp
  obtain ⟨v1, rest, ev, hl, hzr, hq⟩ := hsp
  subst ev
  obtain ⟨u1, u2, eu, r1, r2⟩ := StX.vals_split r
  subst eu
  have hnn : H s.heap.objs.size = none := e0.hok.fresh (Nat.le_refl _)
  have hl1 : u1.length = n := r1.length.symm.trans hl
  have hl2 : u2.length ≤ sizeLine := by rw [← r2.length]; exact hzr
  have hl3 : ws.length = ks.length := rz.length.symm.trans hz
  refine run_bndC lk hcd hcc S hr e0 (G := fun xs H2 => ∃ p, H p = none ∧ xs = v1 ++ zs ++ [V.ref p] ∧ H2 = upd H p (.tup rest)) (fun A' Ex Q' h => ?_) fun s2 H2 xs ⟨p, hp, ex, eH⟩ hr' => ?_
  · rw [hb u1 u2 ws hl1 hl3]
    refine wpAny_bind (wpAny_newTuple (wpAny_pure ?_) hl2)
    have new : ObjOk P w (upd H s.heap.objs.size (.tup rest)) (s.heap.push ({ cls := .type "tuple", data := .seq u2.toArray } : Obj)) s.heap.objs.size (.tup rest) := ⟨hzr, u2, r2, ⟨_, Heap.get?_push_size _ rfl, rfl, _, rfl⟩⟩
    have un := StX.un_laid (fs := frs outer) (s := s) (o := ({ cls := .type "tuple", data := .seq u2.toArray } : Obj)) (u := .tup rest) hnn
    exact h _ _ (v1 ++ zs ++ [V.ref s.heap.objs.size]) (u1 ++ ws ++ [Value.ref s.heap.objs.size]) (StX.env0_laid e0 new) un rfl (fun e s' z => z) ((r1.append rz).append (.cons rfl .nil))
      (by rw [List.length_append, List.length_append, hl, hz, hn] <;> rfl) ⟨_, hnn, rfl, rfl⟩
  · subst ex eH
    exact hbody A outer s2 _ _ Q hr' (hq p hp)
end
/-- C(e, .., k = v, ..) -/
def tMakeC (C : Addr) (m : Nat) (sp : SpC) (t tk : TA) : TE := fun σ H Q => t σ H fun vs H1 => tk σ H1 fun zs H2 => zs.length = m ∧
  ∀ x dx, H2 x = none → H2 dx = none → dx ≠ x → sp (.ref x :: vs) zs (upd (upd H2 dx (.own x)) x (.ins C dx [])) fun v H3 => v = .non ∧ Q (.ref x) H3
section
variable {X : Cx} {k j : Nat} {f C : Addr} {ks : List Str} {sp : SpC} {x : Str} {p pos : Pos} {e : Expr} {es : List Expr} {kws : List Keyword} {t tk : TA}
theorem run_makeC {pins : List (Addr × Obj)} {σ : St} {H : Hp} {s : Shared} {Q : VK} {us ws : List Value} {vs zs : List V} (M : Mk X.K C f) (F : InitC X.prog X.w X.K X.mg X.base k f ks sp) (hr : Room (k + 1) X.A)
    (I : Inv X pins σ H s) (r : Vals vs us) (rz : Vals zs ws) (l2 : zs.length = ks.length)
    (h : ∀ x dx, H x = none → H dx = none → dx ≠ x → sp (.ref x :: vs) zs (upd (upd H dx (.own x)) x (.ins C dx [])) fun v H2 => v = .non ∧ Q (.ref x) H2) :
    wpAny (model X.prog X.w) X.A (call (.ref C) us (ks.zip ws)) (EP X pins σ Q) X.xe s := by
  have hq := h (s.heap.objs.size + 1) s.heap.objs.size (I.hok.fresh (Nat.le_succ _)) (I.hok.fresh (Nat.le_refl _)) (Nat.ne_of_lt (Nat.lt_succ_self _))
  have I2 := Inv.made (C := C) I
  have r1 : Vals (V.ref (s.heap.objs.size + 1) :: vs) (Value.ref (s.heap.objs.size + 1) :: us) := .cons rfl r
  refine wpAny_call (make_map (f := f) I.kIn M.makes M.init (beq_iff_eq.mp M.fn) (codeAny_mono (F _ X.stack _ _ (Value.ref (s.heap.objs.size + 1) :: us) ws _ zs _ (hr.make C us (ks.zip ws))
    (I2.env0.make C us (ks.zip ws)) r1 rz l2 hq) fun r s' hq' => ?_))
  cases r with
  | error e => exact hq'.elim
  | ok fl =>
    cases fl with
    | ret u =>
      obtain ⟨v, H', I3, rv, ev, q3⟩ := I2.after hq'
      subst ev
      exact ⟨rv, ⟨V.ref (s.heap.objs.size + 1), H', I3, rfl, q3⟩⟩
    | next => exact False.elim hq'
    | brk => exact False.elim hq'
    | cont => exact False.elim hq'
theorem pe_makeC (M : Mk X.K C f) (F : InitC X.prog X.w X.K X.mg X.base k f ks sp) (hr : Room j X.A) (hk : k + 1 ≤ j) (hg : Gl X x) (hm : X.mg x = some (.ref C)) (ha : PA X (e :: es) t) (hkw : PK X kws tk)
    (hall : (backToKw pos (keywordEach kws X.env)).all (·.1.isSome) = true := by rfl) (hks : (backToKw pos (keywordEach kws X.env)).filterMap (·.1) = ks := by rfl) (hdb : (x == ("__debug__" : Str)) = false := by decide)
    (he : starEach (e :: es) X.env = (false, eval e X.env) :: starEach es X.env := by rfl) (hpl : ((backTo pos (starEach (e :: es) X.env)).any (·.1) || (backToKw pos (keywordEach kws X.env)).any (·.1.isNone)) = false := by rfl) :
    PE X (.Call (.Name x p) (e :: es) kws pos) (tMakeC C ks.length sp t tk) := by
  refine ⟨fun pins s σ H Q I h => ?_⟩
  refine wpAny_Call_Name_kw (ld_glob I hg hm ?_ hdb)
  refine PySem.W.callWith_KW (h₀ := X.base) I.ok.mod.kin M.kp hall (thn (ha.run pos pins s σ H _ I h) fun us s1 ⟨vs, H1, I1, r, q⟩ => ?_) hpl he
  refine thn (hkw.run pos pins s1 σ H1 _ I1 q) fun ws s2 ⟨zs, H2, I2, rz, l2, q2⟩ => ⟨I2.kIn, ?_⟩
  rw [hks]
  exact run_makeC M F (hr.mono hk) I2 r rz l2 q2
end
end L2.K88

end
/-! K88P2 -/
section
set_option Elab.async false
set_option linter.all false
set_option maxRecDepth 100000
set_option maxHeartbeats 4000000
namespace L2.K88
open PySem PySem.Spec PyProof.Rows
abbrev sIsPiece : Stmt := top 26
abbrev sSpans : Stmt := top 27
abbrev sPieces : Stmt := top 28
abbrev sMI : Stmt := inClass (top 29) 1
abbrev sFileI : Stmt := inClass (top 30) 1
abbrev sFileC : Stmt := inClass (top 30) 2
abbrev sSpaI : Stmt := inClass (top 31) 1
abbrev sSpaC : Stmt := inClass (top 31) 2
abbrev sDirI : Stmt := inClass (top 32) 1
abbrev sSymI : Stmt := inClass (top 33) 1
/-- a piece of a sparse file -/
abbrev Pb := Int × Array UInt8
def RPb : Rep Pb := fun F v f => ∃ p, v = .ref p ∧ F p = some (.tup [.int f.1, .byt f.2])
theorem mon_RPb : Mon RPb := fun F F' v b e ⟨p, h1, h2⟩ => ⟨p, h1, e _ _ h2⟩
def RIi : Rep (Int × Int) := fun F v f => ∃ p, v = .ref p ∧ F p = some (.tup [.int f.1, .int f.2])
theorem mon_RIi : Mon RIi := fun F F' v b e ⟨p, h1, h2⟩ => ⟨p, h1, e _ _ h2⟩
def SpOk : Int → List (Int × Int) → Int → Prop
  | e, [], z => e ≤ z
  | e, (o, l) :: r, z => e < o ∧ 1 ≤ l ∧ SpOk (o + l) r z
def spIsPiece : Sp := fun vs H Q _ => ∃ p i b, vs = [.ref p] ∧ H p = some (.tup [.int i, .byt b]) ∧ 1 ≤ b.size ∧ b.size ≤ sizeLine ∧ ∀ H', Same H H' → Q (.bl true) H'
def spSpans : Sp := fun vs H Q _ => ∃ (p : Addr) (z : Int) (us : List V) (ps : List (Int × Int)), vs = [.int z, .ref p] ∧ H p = some (.lst us) ∧ Paired (RIi H) us ps ∧ SpOk (-1) ps z ∧ ps.length ≤ 50 ∧ ∀ H', Same H H' → Q (.bl true) H'
def spanOf (pb : Pb) : Int × Int := (pb.1, (pb.2.size : Int))
def PbsOk (z : Int) (ps : List Pb) : Prop := SpOk (-1) (ps.map spanOf) z ∧ ps.length ≤ 50 ∧ ∀ p ∈ ps, 1 ≤ p.2.size ∧ p.2.size ≤ sizeLine
def spPieces : Sp := fun vs H Q _ => ∃ (p : Addr) (z : Int) (us : List V) (ps : List Pb), vs = [.int z, .ref p] ∧ H p = some (.tup us) ∧ Paired (RPb H) us ps ∧ PbsOk z ps ∧ ∀ H', Same H H' → Q (.bl true) H'
section
variable {P : Program} {w : World} {K : PySem.W.Frag} {mg : Str → Option Value} {base : Heap}
theorem scIsPiece : FnScope ["thing"] ["thing"] (defScope sIsPiece) := ⟨rfl, rfl, rfl, by decide +kernel, rfl, by decide +kernel, by decide +kernel⟩
theorem c_is_piece (D : DefX K mg "is_piece" sIsPiece ["thing"]) (B : Bl mg) (cI : C8.Cal P w K mg base 1 "is_integer" spIsInt []) : C8.Cal P w K mg base 2 "is_piece" spIsPiece [] := by
  refine D.cal scIsPiece (fun vs H Q E h => ?_) (fun f cdv A outer s H vs Q E hr h => ?_)
  · obtain ⟨p, i, b, rfl, _⟩ := h; rfl
  · obtain ⟨p, i, b, rfl, hp, h1, h2, k⟩ := h
    refine ⟨_, pss_cons (ps_if (PW.pt (pw_or (pt_not (pt_val (pe_callB call_isi (by rfl) B.isinstance_ boot_isinstance (pa_cons (pv 0) (pa_cons (pe_bltn (v := .ty "tuple") (by rfl) B.tuple_ (by decide +kernel) rfl) pa_nil)))))
        (pw_or1 (pt_cmpR op_ne (pe_callB call_len (by rfl) B.len_ boot_len (pa_cons (pv 0) pa_nil)) pe_int (nomark _))))) pss_never pss_nil)
      (pss_one (ps_ret (pe_and (C8.pe_c cI hr (by decide) (by rfl) (pa_cons (pe_ix ix_tup (pv 0) pe_int (fun _ _ => rfl)) pa_nil))
        (pe_and (pe_callB call_isi (by rfl) B.isinstance_ boot_isinstance (pa_cons (pe_ix ix_tup (pv 0) pe_int (fun _ _ => rfl)) (pa_cons (pe_bltn (v := .ty "bytes") (by rfl) B.bytes_ (by decide +kernel) rfl) pa_nil)))
          (pe_one (pe_cmpR op_gt (pe_callB call_len (by rfl) B.len_ boot_len (pa_cons (pe_ix ix_tup (pv 0) pe_int (fun _ _ => rfl)) pa_nil)) pe_int (nomark _))))))), ?_⟩
    refine ⟨_, rfl, _, _, _, _, true, rfl, .ty "tuple", .base (.tup hp), kit_ty (by decide +kernel), true, rfl, ?_⟩
    refine iF rfl ⟨_, rfl, _, 2, rfl, .inr ⟨_, SqT.of hp, rfl⟩, rfl, _, rfl, iF (by decide) ?_⟩
    refine ⟨_, rfl, p, _, _, _, rfl, rfl, SqT.of hp, rfl, i, rfl, true, rfl, iT rfl ?_⟩
    refine ⟨_, rfl, p, _, _, _, rfl, rfl, SqT.of hp, rfl, _, _, _, _, true, rfl, .ty "bytes", .byt _, kit_ty (by decide +kernel), true, rfl, iT rfl ?_⟩
    refine ⟨_, rfl, p, _, _, _, rfl, rfl, SqT.of hp, rfl, _, _, rfl, ⟨h2, rfl⟩, _, _, rfl, rfl, ?_⟩
    show Q (V.bl (decide ((b.size : Int) > 0))) H
    rw [decide_eq_true (by omega)]
    exact k _ (Same.refl _)
theorem scSpans : FnScope ["size", "spans", "end", "offset", "length"] ["size", "spans"] (defScope sSpans) := ⟨rfl, rfl, rfl, by decide +kernel, rfl, by decide +kernel, by decide +kernel⟩
theorem spOk_drop {e : Int} {ps : List (Int × Int)} {z : Int} (h : SpOk e ps z) : e ≤ z ∨ ps ≠ [] := by
  cases ps with
  | nil => exact .inl h
  | cons a r => exact .inr (by simp)
theorem c_are_spans (D : DefX K mg "are_spans" sSpans ["size", "spans"]) (B : Bl mg) (T : Cst mg) : C8.Cal P w K mg base 1 "are_spans" spSpans [] := by
  refine D.cal scSpans (fun vs H Q E h => ?_) (fun f cdv A outer s H vs Q E hr h => ?_)
  · obtain ⟨p, z, us, ps, rfl, _⟩ := h; rfl
  · obtain ⟨p, z, us, ps, rfl, hp, hr2, h1, h2, k⟩ := h
    refine ⟨_, pss_cons (ps_set (i := 2) scSpans.nd rfl (Or.inl rfl) (pe_un un_neg pe_int))
      (pss_cons (ps_for PassesOwn.never rfl (pi_list (pv 1)) (pg_tup rfl (pgs_cons (pg_name (i := 3) scSpans.nd rfl (Or.inl rfl)) (pgs_cons (pg_name (i := 4) scSpans.nd rfl (Or.inl rfl)) pgs_nil)))
        (pss_cons (ps_if (PW.pt (pw_or (pt_cmpR op_le (pv 3) (pv 2) (nomark _)) (pw_or1 (pt_cmpR op_lt (pv 4) pe_int (nomark _))))) pss_never pss_nil)
          (pss_one (ps_set (i := 2) scSpans.nd rfl (Or.inl rfl) (pe_op op_add (pv 3) (pv 4))))))
      (pss_one (ps_ret (pe_and (pe_cmpR op_le (pv 2) (pv 0) (nomark _)) (pe_one (pe_cmpR op_le (pe_callB call_len (by rfl) B.len_ boot_len (pa_cons (pv 1) pa_nil)) (C8.pe_gc (by rfl) T.mPieces) (nomark _))))))), ?_⟩
    refine ⟨_, rfl, _, rfl, p, rfl, ⟨_, SqL.of hp⟩, ?_⟩
    refine for_it (walk_list (xs := us)) (fun i σ H' => H' = H ∧ ∃ e v1 v2, σ = [some (.int z), some (.ref p), some (.int e), v1, v2] ∧ SpOk e (ps.drop i) z) ?_ (fun i σ H' _ h => by rw [h.1]; exact SqL.of hp) ?_ ?_
    · exact ⟨rfl, -1, none, none, rfl, h1⟩
    · rintro i x σ H1 H2 hi ⟨rfl, e, v1, v2, rfl, ho⟩ ⟨rfl, hx⟩
      obtain ⟨⟨o, l⟩, hb, q, rfl, hq⟩ := Pget hr2 hx
      have hd : ps.drop i = (o, l) :: ps.drop (i + 1) := by
        rw [List.drop_eq_getElem?_toList_append, hb]; rfl
      rw [hd] at ho
      obtain ⟨h3, h4, h5⟩ := ho
      refine ⟨q, _, rfl, SqT.of hq, rfl, _, _, rfl, _, _, rfl, rfl, ?_⟩
      refine ⟨_, rfl, _, rfl, _, _, rfl, rfl, _, rfl, iF (decide_eq_false (by omega)) ?_⟩
      refine ⟨_, rfl, _, _, rfl, rfl, _, rfl, iF (decide_eq_false (by omega)) ?_⟩
      exact ⟨_, rfl, _, rfl, _, _, rfl, rfl, rfl, o + l, _, _, rfl, h5⟩
    · rintro σ H' ⟨rfl, e, v1, v2, rfl, ho⟩
      have hd : ps.drop us.length = [] := by rw [Plen hr2, List.drop_length]
      rw [hd] at ho
      have ho : e ≤ z := ho
      refine ⟨_, rfl, _, rfl, _, _, rfl, rfl, ?_⟩
      show ∃ c, V.bl (decide (e ≤ z)) = .bl c ∧ _
      refine ⟨_, rfl, iT (decide_eq_true ho) ?_⟩
      refine ⟨_, rfl, _, _, rfl, .inl ⟨_, SqL.of hp, rfl⟩, _, _, rfl, rfl, ?_⟩
      show Q (V.bl (decide ((us.length : Int) ≤ 50))) H'
      rw [decide_eq_true (by rw [Plen hr2]; omega)]
      exact k _ (Same.refl _)
theorem scPieces : FnScope ["size", "pieces", "piece", "offset", "data"] ["size", "pieces"] (defScope sPieces) := ⟨rfl, rfl, rfl, by decide +kernel, rfl, by decide +kernel, by decide +kernel⟩
theorem c_are_pieces (D : DefX K mg "are_pieces" sPieces ["size", "pieces"]) (B : Bl mg) (cP : C8.Cal P w K mg base 2 "is_piece" spIsPiece []) (cS : C8.Cal P w K mg base 1 "are_spans" spSpans []) : C8.Cal P w K mg base 3 "are_pieces" spPieces [] := by
  refine D.cal scPieces (fun vs H Q E h => ?_) (fun f cdv A outer s H vs Q E hr h => ?_)
  · obtain ⟨p, z, us, ps, rfl, _⟩ := h; rfl
  · obtain ⟨p, z, us, ps, rfl, hp, hr2, ⟨h1, h2, h3⟩, k⟩ := h
    refine ⟨_, pss_cons (ps_if (pt_not (pt_val (pe_callB (cr_all rfl) (by rfl) B.all_ boot_all (pa_cons (pe_lc (own := [("piece", 2)]) (g := gName 2) (tt := tYes) rfl scPieces.nd (pi_tup (pv 1)) (blkOk_by (N := ["size", "pieces", "piece", "offset", "data"]) (sc := defScope sPieces) (by decide +kernel)) (fun _ _ _ _ _ => pg_name (i := 2) scPieces.nd rfl (Or.inl rfl)) (fun _ _ _ _ _ => pts_nil)
          (fun _ _ _ _ _ => C8.pe_c cP hr (by decide) (by rfl) (pa_cons (pv 2) pa_nil))) pa_nil)))) pss_never pss_nil)
      (pss_one (ps_ret (C8.pe_c cS hr (by decide) (by rfl) (pa_cons (pv 0) (pa_cons (pe_lc (own := [("offset", 3), ("data", 4)]) (g := gTup K 2 (gCons (gName 3) (gCons (gName 4) gNil))) (tt := tYes) rfl scPieces.nd (pi_tup (pv 1)) (blkOk_by (N := ["size", "pieces", "piece", "offset", "data"]) (sc := defScope sPieces) (by decide +kernel)) (fun _ _ _ _ _ => pg_tup rfl (pgs_cons (pg_name (i := 3) scPieces.nd rfl (Or.inl rfl)) (pgs_cons (pg_name (i := 4) scPieces.nd rfl (Or.inl rfl)) pgs_nil))) (fun _ _ _ _ _ => pts_nil)
          (fun _ _ _ _ _ => pe_tup (pa_cons (pv 3) (pa_cons (pe_callB (call_len : CallR _ _ (rLenK K)) (by rfl) B.len_ boot_len (pa_cons (pv 4) pa_nil)) pa_nil)))) pa_nil))))), ?_⟩
    refine ⟨_, rfl, p, rfl, ⟨_, SqT.of hp⟩, fun D hD => ?_⟩
    refine lc_it (walk_tup (xs := us)) (fun i H' => (Same H H' ∧ H D = none ∧ H' D = some (.lst ((List.replicate i true).map V.bl)))) ?_ (fun i H' _ h => SqT.of (h.1 _ _ hp)) ?_ ?_
    · exact ⟨sameUpd hD, hD, upd_same⟩
    · rintro i x H1 H2 hi ⟨hs, hd0, hD1⟩ ⟨rfl, hx⟩
      obtain ⟨⟨o, b⟩, hb, q, rfl, hq⟩ := Pget hr2 hx
      have h4 := h3 _ (List.mem_of_getElem? hb)
      refine ⟨rfl, _, rfl, q, o, b, rfl, hs _ _ hq, h4.1, h4.2, fun H4 s4 => ?_⟩
      refine ⟨_, s4 _ _ hD1, ?_, fun b o e => ?_, hd0, ?_⟩
      · rw [List.length_map, List.length_replicate]
        exact Nat.lt_of_lt_of_le hi (Nat.le_trans (by rw [Plen hr2]; exact h2) (by decide))
      · rw [upd_ne (ne_of_none e hd0)]; exact s4 _ _ (hs _ _ e)
      · rw [upd_same]; congr 2; simp [List.replicate_succ', List.map_append]
    · rintro H1 ⟨hs, hd0, hD1⟩
      refine ⟨_, _, rfl, SqL.of hD1, ?_⟩
      rw [show (List.replicate us.length true).all id = true by simp]
      refine ⟨true, rfl, iF rfl ?_⟩
      refine ⟨_, rfl, _, rfl, p, rfl, ⟨_, SqT.of (hs _ _ hp)⟩, fun E hE => ?_⟩
      refine lc_it (walk_tup (xs := us)) (fun i H' => ∃ ws, Same H H' ∧ H E = none ∧ H' E = some (.lst ws) ∧ Paired (RIi H') ws ((ps.take i).map spanOf)) ?_ (fun i H' _ h => by obtain ⟨ws, h, _⟩ := h; exact SqT.of (h _ _ hp)) ?_ ?_
      · exact ⟨[], hs.trans (sameUpd hE), hs.free hE, upd_same, by simp only [List.take_zero, List.map_nil]; exact .nil⟩
      · rintro i x H2 H3 hi ⟨ws, s2, he0, hE1, hw⟩ ⟨rfl, hx⟩
        obtain ⟨⟨o, b⟩, hb, q, rfl, hq⟩ := Pget hr2 hx
        have h4 := h3 _ (List.mem_of_getElem? hb)
        refine ⟨q, _, rfl, SqT.of (s2 _ _ hq), rfl, _, _, rfl, _, _, rfl, rfl, rfl, ?_⟩
        refine ⟨_, rfl, _, rfl, _, _, rfl, ⟨h4.2, rfl⟩, (by show 2 ≤ sizeLine; decide), fun t ht => ?_⟩
        have s3 : Same H3 (upd H3 t (.tup [.int o, .int b.size])) := sameUpd ht
        refine ⟨ws, s3 _ _ hE1, ?_, ws ++ [.ref t], fun b o e => ?_, he0, upd_same, ?_⟩
        · rw [Plen hw, List.length_map, List.length_take]
          exact Nat.lt_of_le_of_lt (Nat.min_le_right _ _) (Nat.lt_of_le_of_lt h2 (by decide))
        · rw [upd_ne (ne_of_none e he0)]; exact s3 _ _ (s2 _ _ e)
        · have hne : t ≠ E := fun z => by rw [z, hE1] at ht; cases ht
          have e1 : (ps.take (i + 1)).map spanOf = (ps.take i).map spanOf ++ [(o, (b.size : Int))] := by
            rw [List.take_succ, hb, List.map_append]; rfl
          rw [e1]
          refine Psnoc (Pmono ?_ hw) ⟨t, rfl, by rw [upd_ne hne]; exact upd_same⟩
          rintro v ⟨o', l'⟩ ⟨u, rfl, hu⟩
          refine ⟨u, rfl, ?_⟩
          have hne2 : u ≠ E := fun z => by rw [z, hE1] at hu; cases hu
          rw [upd_ne hne2]; exact s3 _ _ hu
      · rintro H2 ⟨ws, s2, he0, hE1, hw⟩
        refine ⟨E, z, ws, _, rfl, hE1, hw, ?_, ?_, fun H3 s3 => k _ (s2.trans s3)⟩
        · rw [Plen hr2, List.take_length]; exact h1
        · rw [List.length_map, List.length_take]; exact Nat.le_trans (Nat.min_le_right _ _) h2
end
end L2.K88

end
/-! K88P3 -/
section
set_option Elab.async false
set_option linter.all false
set_option maxRecDepth 100000
set_option maxHeartbeats 4000000
namespace L2.K88
open PySem PySem.Spec PyProof.Rows
/-- what is asked of a member's class -/
structure ClF (K : PySem.W.Frag) (C : Addr) (kd : Str) : Prop where
  cl : Cls K C
  nName : NoAttr K C "name"
  nMode : NoAttr K C "mode"
  nTime : NoAttr K C "time"
  nKey : NoAttr K C "key"
  nData : NoAttr K C "data"
  nSize : NoAttr K C "size"
  nPieces : NoAttr K C "pieces"
  nTarget : NoAttr K C "target"
  con : ∃ u, Con K C "KIND" (.str kd) u
def mF (n : Str) (m t : Int) (kv : V) : List (Str × V) := [("name", .str n), ("mode", .int m), ("time", .int t), ("key", kv)]
def mF1 (n : Str) : List (Str × V) := [("name", .str n)]
def mF2 (n : Str) (m : Int) : List (Str × V) := [("name", .str n), ("mode", .int m)]
def mF3 (n : Str) (m t : Int) : List (Str × V) := [("name", .str n), ("mode", .int m), ("time", .int t)]
def xF (f : Str) (v : V) : List (Str × V) := [(f, v)]
def xF2 (f : Str) (v : V) (g : Str) (u : V) : List (Str × V) := [(f, v), (g, u)]
theorem put1 (n : Str) : putF "name" (.str n) [] = mF1 n := rfl
theorem put2 (n : Str) (m : Int) : putF "mode" (.int m) (mF1 n) = mF2 n m := by kernel_rfl
theorem put3 (n : Str) (m t : Int) : putF "time" (.int t) (mF2 n m) = mF3 n m t := by kernel_rfl
theorem put4 (n : Str) (m t : Int) (kv : V) : putF "key" kv (mF3 n m t) = mF n m t kv := by kernel_rfl
theorem put5 (n : Str) (m t : Int) (kv v : V) : putF "data" v (mF n m t kv) = mF n m t kv ++ xF "data" v := by kernel_rfl
theorem put6 (n : Str) (m t : Int) (kv v : V) : putF "target" v (mF n m t kv) = mF n m t kv ++ xF "target" v := by kernel_rfl
theorem put7 (n : Str) (m t : Int) (kv v : V) : putF "size" v (mF n m t kv) = mF n m t kv ++ xF "size" v := by kernel_rfl
theorem put8 (n : Str) (m t : Int) (kv v u : V) : putF "pieces" u (mF n m t kv ++ xF "size" v) = mF n m t kv ++ xF2 "size" v "pieces" u := by kernel_rfl
/-- all but x stands as it stood -/
def But (x : Addr) (H H' : Hp) : Prop := ∀ b o, b ≠ x → H b = some o → H' b = some o
theorem But.of (x : Addr) {H H' : Hp} (h : Same H H') : But x H H' := fun b o _ e => h b o e
theorem But.trans {x : Addr} {H H1 H2 : Hp} (a : But x H H1) (b : But x H1 H2) : But x H H2 := fun c o n e => b c o n (a c o n e)
theorem But.upd (x : Addr) (H : Hp) (o : HO) : But x H (upd H x o) := fun c u n e => by rw [upd_ne n]; exact e
def spMI (K : PySem.W.Frag) : Sp := fun vs H Q _ => ∃ (C x dx p : Addr) (n : Str) (m t : Int) (rest : List V) (kd : Str), vs = [.ref x, .str n, .int m, .int t, .ref p] ∧ H x = some (.ins C dx []) ∧ H p = some (.tup rest) ∧ rest.length ≤ 10 ∧ ClF K C kd ∧
  ∀ H' kv, But x H H' → H' x = some (.ins C dx (mF n m t kv)) → Q .non H'
structure SupX (P : Program) (K : PySem.W.Frag) (mg : Str → Option Value) (x : Str) (C g : Addr) (qual : Str) (st : Stmt) : Prop where
  ex : ∃ (f cc cda : Addr) (kV doc pm ct oc ccl : Value) (an od ccd : Option Addr) (osl ccs : Array (Option Value)), Mk K C f ∧ mg x = some (.ref C) ∧
    K.lookup f = some ⟨oc, od, .func (PySem.W.ksFn "__init__" qual (defArgs st) (defBody st) (defScope st) .none kV doc pm an (.ref cda) ct cc), osl⟩ ∧ PySem.W.codeIn K (.ref cda) qual = true ∧ K.lookup cc = some ⟨ccl, ccd, .cell (some (.ref C)), ccs⟩ ∧ CodeFile K P cda
  cls : ∃ cdD, PySem.W.clsIn K C = some cdD
  sub : PySem.W.mroIn K C (.ref C) = some true
  st : PySem.W.nsIn K PySem.cStatics "thirdparty.any" = some none
  sup : PySem.W.ks_superIn K C C "__init__" = some (some (.ref g))
  ty : PySem.W.typeIn K (.ref g) = some (.type "function")
  fn : PySem.W.fnIn K g = true
  top : (P.main.scope.names.lookup ("super" : Str)).isSome = false
def supB (N ps : List Str) (sc : Scope) : Bool := decide (sc.kind = .function) && !sc.isCoroutine && !sc.isGenerator && decide N.Nodup && decide (N.take ps.length = ps) && ps.all (fun x => decide (sc.names.lookup x = some .local)) && sc.names.all (fun y => !decide (y.2 = .cell) && (!decide (y.2 = .free) || decide (y.1 = "__class__"))) && decide (sc.names.lookup ("__class__" : Str) = some .free)
theorem sup_by {N ps : List Str} {sc : Scope} (h : supB N ps sc = true) : SupScope N ps sc := by
  unfold supB at h
  simp only [Bool.and_eq_true, Bool.not_eq_true', decide_eq_true_eq, List.all_eq_true, Bool.or_eq_true, decide_eq_false_iff_not] at h
  obtain ⟨⟨⟨⟨⟨⟨⟨h1, h2⟩, h3⟩, h4⟩, h5⟩, h6⟩, h7⟩, h8⟩ := h
  refine ⟨h1, h2, h3, h4, h5, h6, fun y hy => (h7 y hy).1, fun x hx => ?_, h8⟩
  rcases (h7 _ (PySem.mem_of_lookup hx)).2 with h | h
  · exact absurd rfl h
  · exact h
section
variable {P : Program} {w : World} {K : PySem.W.Frag} {mg : Str → Option Value} {base : Heap}
theorem scMI : FnScope ["self", "name", "mode", "time", "more"] ((["self", "name", "mode", "time"] : List Str) ++ (["more"] : List Str)) (defScope sMI) := ⟨rfl, rfl, rfl, by decide +kernel, rfl, by decide +kernel, by decide +kernel⟩
abbrev spMR (K : PySem.W.Frag) : Sp := fun vs H Q E => ∃ ws rest, vs = ws ++ rest ∧ ws.length = ["self", "name", "mode", "time"].length ∧ rest.length ≤ sizeLine ∧ ∀ p, H p = Option.none → spMI K (ws ++ [V.ref p]) (upd H p (.tup rest)) Q E
theorem c_member {g : Addr} {fd : FuncData} (F : L2.Fun K "__init__" "Member.__init__" sMI g fd) : FnR P w K mg base CX0 1 g (spMR K) := by
  obtain ⟨oc, od, kV, doc, pm, an, cdv, ct, osl, rfl, lk, hcd⟩ := F.ex
  refine StX.fn_star (ps := ["self", "name", "mode", "time"]) (pv := "more") lk hcd scMI StX.cxUp_none (fun us rest hl => ?_) fun A outer s H vs Q E hr h => ?_
  · match us, rest, hl with
    | [a, b, c, d], [], _ => rfl
    | [a, b, c, d], r :: rs, _ => rfl
  · obtain ⟨C, x, dx, p, n, m, t, rest, kd, rfl, hx, hp, hz, T, k⟩ := h
    obtain ⟨u0, hcon⟩ := T.con
    refine ⟨_, pss_cons (ps_fld (pv 0) (pv 1) rfl) (pss_cons (ps_fld (pv 0) (pv 2) rfl) (pss_cons (ps_fld (pv 0) (pv 3) rfl)
      (pss_one (ps_fld (pv 0) (pe_tup (pa_cons (pe_con (pv 0) rfl) (pa_cons (pv 1) (pa_cons (pv 2) (pa_cons (pv 3) (StX.pa_star (pv 4) pa_nil)))))) rfl)))), ?_⟩
    have npx : p ≠ x := ne_of hp hx (by intro z; cases z)
    refine ⟨_, rfl, _, rfl, x, C, dx, [], rfl, hx, T.cl, T.nName, (by show 0 < 1000; decide), ?_⟩
    rw [put1]
    refine ⟨_, rfl, _, rfl, x, C, dx, _, rfl, upd_same, T.cl, T.nMode, (by show 1 < 1000; decide), ?_⟩
    rw [put2]
    refine ⟨_, rfl, _, rfl, x, C, dx, _, rfl, upd_same, T.cl, T.nTime, (by show 2 < 1000; decide), ?_⟩
    rw [put3]
    refine ⟨_, rfl, x, C, dx, _, _, _, rfl, upd_same, T.cl, hcon, (by kernel_rfl), _, rfl, _, rfl, _, rfl, _, rfl, p, rest, rfl, .inl (SqT.of (by rw [upd_ne npx, upd_ne npx, upd_ne npx]; exact hp)), ?_⟩
    refine ⟨?_, fun q hq => ?_⟩
    · show (rest ++ []).length + 4 ≤ sizeLine
      rw [List.append_nil]
      exact Nat.le_trans (show rest.length + 4 ≤ 14 by omega) (by decide)
    · have nxq : x ≠ q := ne_of_none upd_same hq
      refine ⟨_, rfl, x, C, dx, _, rfl, by rw [upd_ne nxq]; exact upd_same, T.cl, T.nKey, (by show 3 < 1000; decide), ?_⟩
      rw [put4]
      refine k _ _ ?_ upd_same
      refine But.trans (But.trans (But.trans (But.upd x _ _) (But.trans (But.upd x _ _) (But.upd x _ _))) (But.of x (sameUpd hq))) (But.upd x _ _)
def spFileI (C : Addr) : SpC := fun vs zs H Q => ∃ (x dx : Addr) (n : Str) (b : Array UInt8) (m t : Int), vs = [.ref x, .str n, .byt b] ∧ zs = [.int m, .int t] ∧ H x = some (.ins C dx []) ∧ NameOk n ∧ b.size ≤ 4096 ∧ 0 ≤ m ∧ m ≤ 4095 ∧ 0 ≤ t ∧ t ≤ 8589934591 ∧
  ∀ H' kv, But x H H' → H' x = some (.ins C dx (mF n m t kv ++ xF "data" (.byt b))) → Q .non H'
theorem c_file {C g : Addr} (S : SupX P K mg "File" C g "File.__init__" sFileI) (T : ClF K C "file") (B : Bl mg) (Z : Cst mg) (M : FnR P w K mg base CX0 1 g (spMR K)) (cL : C8.Cal P w K mg base 2 "look_name" spLookName []) (cS : C8.Cal P w K mg base 3 "look_stamps" spLookStamps []) :
    ∃ f, Mk K C f ∧ mg "File" = some (.ref C) ∧ InitC P w K mg base 4 f ["mode", "time"] (spFileI C) := by
  obtain ⟨f, cc, cda, kV, doc, pm, ct, oc, ccl, an, od, ccd, osl, ccs, mk, hm, lk, hcd, hcc, hcf⟩ := S.ex
  refine ⟨f, mk, hm, init_plain (N := ["self", "name", "data", "mode", "time"]) (ps := ["self", "name", "data", "mode", "time"]) 3 lk hcd hcc (sup_by (by decide +kernel)) (fun us ws h1 h2 => ?_) rfl (fun A outer s H vs zs Q hr h => ?_) (fun vs zs H Q h => ?_)⟩
  · match us, ws, h1, h2 with
    | [a, b, c], [d, e], _, _ => rfl
  · obtain ⟨x, dx, n, b, m, t, rfl, rfl, hx, hn, hz, m0, m1, t0, t1, k⟩ := h
    have sk : SupK K f cc C C (PySem.W.ksFn "__init__" "File.__init__" (defArgs sFileI) (defBody sFileI) (defScope sFileI) .none kV doc pm an (.ref cda) ct cc) "self" cda := ⟨⟨_, _, _, lk⟩, ⟨_, rfl, rfl⟩, ⟨_, _, _, hcc⟩, S.cls, S.sub, T.cl⟩
    refine ⟨_, pat_cons (ps_expr (C8.pe_c cL hr (by decide) (by rfl) (pa_cons (pv 1) pa_nil)))
      (pat_cons (ps_if (PW.pt (pw_or (pt_not (pt_val (pe_callB call_isi (by rfl) B.isinstance_ boot_isinstance (pa_cons (pv 2) (pa_cons (pe_bltn (v := .ty "bytes") (by rfl) B.bytes_ (by decide +kernel) rfl) pa_nil)))))
        (pw_or1 (pt_cmpR op_gt (pe_callB call_len (by rfl) B.len_ boot_len (pa_cons (pv 2) pa_nil)) (C8.pe_gc (by rfl) Z.mData) (nomark _))))) pss_never pss_nil)
      (pat_cons (ps_expr (C8.pe_c cS hr (by decide) (by rfl) (pa_cons (pv 3) (pa_cons (pv 4) pa_nil))))
      (pat_super (CX := CX0) sk hcf rfl rfl rfl rfl rfl rfl B.super_ S.top S.st S.sup S.ty S.fn M (hr.mono (by decide)) (pa_cons (pv 1) (pa_cons (pv 3) (pa_cons (pv 4) (pa_cons (pv 2) pa_nil))))
      (pat_of (pss_one (ps_fld (pv 0) (pv 2) rfl)))))), ?_⟩
    refine ⟨_, rfl, n, rfl, hn, fun H1 s1 => ?_⟩
    refine ⟨_, rfl, _, _, _, _, true, rfl, .ty "bytes", .byt _, kit_ty (by decide +kernel), true, rfl, iF rfl ?_⟩
    refine ⟨_, rfl, _, _, rfl, ⟨Nat.le_trans hz (by decide), rfl⟩, _, _, rfl, rfl, _, rfl, iF (decide_eq_false (by omega)) ?_⟩
    refine ⟨_, rfl, _, rfl, m, t, rfl, m0, m1, t0, t1, ?_⟩
    refine ⟨x, dx, [], rfl, s1 _ _ hx, fun q hq => ?_⟩
    have nxq : x ≠ q := ne_of_none (s1 _ _ hx) hq
    refine ⟨_, rfl, _, rfl, _, rfl, _, rfl, upd_same, [.ref x, .str n, .int m, .int t], [.byt b], rfl, rfl, (by show 1 ≤ sizeLine; decide), fun p hp => ?_⟩
    have nxp : x ≠ p := ne_of_none (show upd H1 q _ x = some _ by rw [upd_ne nxq]; exact s1 _ _ hx) hp
    refine ⟨C, x, dx, p, n, m, t, [.byt b], "file", rfl, by rw [upd_ne nxp, upd_ne nxq]; exact s1 _ _ hx, upd_same, (by show 1 ≤ 10; decide), T, fun H3 kv b3 h3 => ?_⟩
    refine ⟨_, rfl, _, rfl, x, C, dx, _, rfl, h3, T.cl, T.nData, (by show 4 < 1000; decide), ?_⟩
    rw [put5]
    refine k _ kv ?_ upd_same
    exact (But.of x s1).trans ((But.of x (sameUpd hq)).trans ((But.of x (sameUpd hp)).trans (b3.trans (But.upd x _ _))))
  · obtain ⟨x, dx, n, b, m, t, rfl, _⟩ := h
    rfl
def spDirI (C : Addr) : SpC := fun vs zs H Q => ∃ (x dx : Addr) (n : Str) (m t : Int), vs = [.ref x, .str n] ∧ zs = [.int m, .int t] ∧ H x = some (.ins C dx []) ∧ NameOk n ∧ 0 ≤ m ∧ m ≤ 4095 ∧ 0 ≤ t ∧ t ≤ 8589934591 ∧
  ∀ H' kv, But x H H' → H' x = some (.ins C dx (mF n m t kv)) → Q .non H'
theorem c_dir {C g : Addr} (S : SupX P K mg "Directory" C g "Directory.__init__" sDirI) (T : ClF K C "directory") (B : Bl mg) (M : FnR P w K mg base CX0 1 g (spMR K)) (cL : C8.Cal P w K mg base 2 "look_name" spLookName []) (cS : C8.Cal P w K mg base 3 "look_stamps" spLookStamps []) :
    ∃ f, Mk K C f ∧ mg "Directory" = some (.ref C) ∧ InitC P w K mg base 4 f ["mode", "time"] (spDirI C) := by
  obtain ⟨f, cc, cda, kV, doc, pm, ct, oc, ccl, an, od, ccd, osl, ccs, mk, hm, lk, hcd, hcc, hcf⟩ := S.ex
  refine ⟨f, mk, hm, init_plain (N := ["self", "name", "mode", "time"]) (ps := ["self", "name", "mode", "time"]) 2 lk hcd hcc (sup_by (by decide +kernel)) (fun us ws h1 h2 => ?_) rfl (fun A outer s H vs zs Q hr h => ?_) (fun vs zs H Q h => ?_)⟩
  · match us, ws, h1, h2 with
    | [a, b], [d, e], _, _ => rfl
  · obtain ⟨x, dx, n, m, t, rfl, rfl, hx, hn, m0, m1, t0, t1, k⟩ := h
    have sk : SupK K f cc C C (PySem.W.ksFn "__init__" "Directory.__init__" (defArgs sDirI) (defBody sDirI) (defScope sDirI) .none kV doc pm an (.ref cda) ct cc) "self" cda := ⟨⟨_, _, _, lk⟩, ⟨_, rfl, rfl⟩, ⟨_, _, _, hcc⟩, S.cls, S.sub, T.cl⟩
    refine ⟨_, pat_cons (ps_expr (C8.pe_c cL hr (by decide) (by rfl) (pa_cons (pv 1) pa_nil)))
      (pat_cons (ps_expr (C8.pe_c cS hr (by decide) (by rfl) (pa_cons (pv 2) (pa_cons (pv 3) pa_nil))))
      (pat_super (CX := CX0) sk hcf rfl rfl rfl rfl rfl rfl B.super_ S.top S.st S.sup S.ty S.fn M (hr.mono (by decide)) (pa_cons (pv 1) (pa_cons (pv 2) (pa_cons (pv 3) pa_nil)))
      (pat_of pss_nil))), ?_⟩
    refine ⟨_, rfl, n, rfl, hn, fun H1 s1 => ?_⟩
    refine ⟨_, rfl, _, rfl, m, t, rfl, m0, m1, t0, t1, ?_⟩
    refine ⟨x, dx, [], rfl, s1 _ _ hx, fun q hq => ?_⟩
    have nxq : x ≠ q := ne_of_none (s1 _ _ hx) hq
    refine ⟨_, rfl, _, rfl, _, rfl, upd_same, [.ref x, .str n, .int m, .int t], [], rfl, rfl, (by show 0 ≤ sizeLine; decide), fun p hp => ?_⟩
    have nxp : x ≠ p := ne_of_none (show upd H1 q _ x = some _ by rw [upd_ne nxq]; exact s1 _ _ hx) hp
    refine ⟨C, x, dx, p, n, m, t, [], "directory", rfl, by rw [upd_ne nxp, upd_ne nxq]; exact s1 _ _ hx, upd_same, (by show 0 ≤ 10; decide), T, fun H3 kv b3 h3 => ?_⟩
    refine k _ kv ?_ h3
    exact (But.of x s1).trans ((But.of x (sameUpd hq)).trans ((But.of x (sameUpd hp)).trans b3))
  · obtain ⟨x, dx, n, m, t, rfl, _⟩ := h
    rfl
def spSymI (C : Addr) : SpC := fun vs zs H Q => ∃ (x dx : Addr) (n g : Str) (m t : Int), vs = [.ref x, .str n, .str g] ∧ zs = [.int m, .int t] ∧ H x = some (.ins C dx []) ∧ NameOk n ∧ NameOk g ∧ 0 ≤ m ∧ m ≤ 4095 ∧ 0 ≤ t ∧ t ≤ 8589934591 ∧
  ∀ H' kv, But x H H' → H' x = some (.ins C dx (mF n m t kv ++ xF "target" (.str g))) → Q .non H'
theorem c_sym {C g : Addr} (S : SupX P K mg "Symlink" C g "Symlink.__init__" sSymI) (T : ClF K C "symlink") (B : Bl mg) (M : FnR P w K mg base CX0 1 g (spMR K)) (cL : C8.Cal P w K mg base 2 "look_name" spLookName []) (cS : C8.Cal P w K mg base 3 "look_stamps" spLookStamps []) :
    ∃ f, Mk K C f ∧ mg "Symlink" = some (.ref C) ∧ InitC P w K mg base 4 f ["mode", "time"] (spSymI C) := by
  obtain ⟨f, cc, cda, kV, doc, pm, ct, oc, ccl, an, od, ccd, osl, ccs, mk, hm, lk, hcd, hcc, hcf⟩ := S.ex
  refine ⟨f, mk, hm, init_plain (N := ["self", "name", "target", "mode", "time"]) (ps := ["self", "name", "target", "mode", "time"]) 3 lk hcd hcc (sup_by (by decide +kernel)) (fun us ws h1 h2 => ?_) rfl (fun A outer s H vs zs Q hr h => ?_) (fun vs zs H Q h => ?_)⟩
  · match us, ws, h1, h2 with
    | [a, b, c], [d, e], _, _ => rfl
  · obtain ⟨x, dx, n, z, m, t, rfl, rfl, hx, hn, hz, m0, m1, t0, t1, k⟩ := h
    have sk : SupK K f cc C C (PySem.W.ksFn "__init__" "Symlink.__init__" (defArgs sSymI) (defBody sSymI) (defScope sSymI) .none kV doc pm an (.ref cda) ct cc) "self" cda := ⟨⟨_, _, _, lk⟩, ⟨_, rfl, rfl⟩, ⟨_, _, _, hcc⟩, S.cls, S.sub, T.cl⟩
    refine ⟨_, pat_cons (ps_expr (C8.pe_c cL hr (by decide) (by rfl) (pa_cons (pv 1) pa_nil)))
      (pat_cons (ps_expr (C8.pe_c cL hr (by decide) (by rfl) (pa_cons (pv 2) pa_nil)))
      (pat_cons (ps_expr (C8.pe_c cS hr (by decide) (by rfl) (pa_cons (pv 3) (pa_cons (pv 4) pa_nil))))
      (pat_super (CX := CX0) sk hcf rfl rfl rfl rfl rfl rfl B.super_ S.top S.st S.sup S.ty S.fn M (hr.mono (by decide)) (pa_cons (pv 1) (pa_cons (pv 3) (pa_cons (pv 4) (pa_cons (pv 2) pa_nil))))
      (pat_of (pss_one (ps_fld (pv 0) (pv 2) rfl)))))), ?_⟩
    refine ⟨_, rfl, n, rfl, hn, fun H0 s0 => ?_⟩
    refine ⟨_, rfl, z, rfl, hz, fun H1 s01 => ?_⟩
    have s1 : Same H H1 := s0.trans s01
    refine ⟨_, rfl, _, rfl, m, t, rfl, m0, m1, t0, t1, ?_⟩
    refine ⟨x, dx, [], rfl, s1 _ _ hx, fun q hq => ?_⟩
    have nxq : x ≠ q := ne_of_none (s1 _ _ hx) hq
    refine ⟨_, rfl, _, rfl, _, rfl, _, rfl, upd_same, [.ref x, .str n, .int m, .int t], [.str z], rfl, rfl, (by show 1 ≤ sizeLine; decide), fun p hp => ?_⟩
    have nxp : x ≠ p := ne_of_none (show upd H1 q _ x = some _ by rw [upd_ne nxq]; exact s1 _ _ hx) hp
    refine ⟨C, x, dx, p, n, m, t, [.str z], "symlink", rfl, by rw [upd_ne nxp, upd_ne nxq]; exact s1 _ _ hx, upd_same, (by show 1 ≤ 10; decide), T, fun H3 kv b3 h3 => ?_⟩
    refine ⟨_, rfl, _, rfl, x, C, dx, _, rfl, h3, T.cl, T.nTarget, (by show 4 < 1000; decide), ?_⟩
    rw [put6]
    refine k _ kv ?_ upd_same
    exact (But.of x s1).trans ((But.of x (sameUpd hq)).trans ((But.of x (sameUpd hp)).trans (b3.trans (But.upd x _ _))))
  · obtain ⟨x, dx, n, z, m, t, rfl, _⟩ := h
    rfl
def spSpaI (C : Addr) : List V → Hp → VK → Prop := fun vs H Q => ∃ (x dx p : Addr) (n : Str) (z m t : Int) (us : List V) (ps : List Pb), vs = [.ref x, .str n, .int z, .int m, .int t, .ref p] ∧ H x = some (.ins C dx []) ∧ H p = some (.tup us) ∧ Paired (RPb H) us ps ∧ PbsOk z ps ∧ 0 ≤ z ∧ z ≤ 4096 ∧
  NameOk n ∧ 0 ≤ m ∧ m ≤ 4095 ∧ 0 ≤ t ∧ t ≤ 8589934591 ∧ ∀ H' kv, But x H H' → H' x = some (.ins C dx (mF n m t kv ++ xF2 "size" (.int z) "pieces" (.ref p))) → Q .non H'
abbrev spSpaR (C : Addr) : SpC := fun vs zs H Q => ∃ ws rest, vs = ws ++ rest ∧ ws.length = 3 ∧ rest.length ≤ sizeLine ∧ ∀ p, H p = none → spSpaI C (ws ++ zs ++ [V.ref p]) (upd H p (.tup rest)) Q
theorem c_spa {C g : Addr} (S : SupX P K mg "Sparse" C g "Sparse.__init__" sSpaI) (T : ClF K C "sparse") (B : Bl mg) (Z : Cst mg) (M : FnR P w K mg base CX0 1 g (spMR K)) (cL : C8.Cal P w K mg base 2 "look_name" spLookName []) (cS : C8.Cal P w K mg base 3 "look_stamps" spLookStamps [])
    (cW : C8.Cal P w K mg base 2 "is_within" spWithin []) (cP : C8.Cal P w K mg base 3 "are_pieces" spPieces []) :
    ∃ f, Mk K C f ∧ mg "Sparse" = some (.ref C) ∧ InitC P w K mg base 4 f ["mode", "time"] (spSpaR C) := by
  obtain ⟨f, cc, cda, kV, doc, pm, ct, oc, ccl, an, od, ccd, osl, ccs, mk, hm, lk, hcd, hcc, hcf⟩ := S.ex
  refine ⟨f, mk, hm, init_star (N := ["self", "name", "size", "mode", "time", "pieces"]) (ps := ["self", "name", "size", "mode", "time", "pieces"]) 3 lk hcd hcc (sup_by (by decide +kernel)) (fun us rest ws h1 h2 => ?_) rfl (fun A outer s H vs Q hr h => ?_)⟩
  · match us, rest, ws, h1, h2 with
    | [a, b, c], [], [d, e], _, _ => rfl
    | [a, b, c], r :: rs, [d, e], _, _ => rfl
  · obtain ⟨x, dx, p, n, z, m, t, us, ps, rfl, hx, hp, hr2, hps, z0, z1, hn, m0, m1, t0, t1, k⟩ := h
    have sk : SupK K f cc C C (PySem.W.ksFn "__init__" "Sparse.__init__" (defArgs sSpaI) (defBody sSpaI) (defScope sSpaI) .none kV doc pm an (.ref cda) ct cc) "self" cda := ⟨⟨_, _, _, lk⟩, ⟨_, rfl, rfl⟩, ⟨_, _, _, hcc⟩, S.cls, S.sub, T.cl⟩
    refine ⟨_, pat_cons (ps_expr (C8.pe_c cL hr (by decide) (by rfl) (pa_cons (pv 1) pa_nil)))
      (pat_cons (ps_if (pt_not (pt_val (C8.pe_c cW hr (by decide) (by rfl) (pa_cons (pv 2) (pa_cons pe_int (pa_cons (C8.pe_gc (by rfl) Z.mData) pa_nil)))))) pss_never pss_nil)
      (pat_cons (ps_if (pt_not (pt_val (C8.pe_c cP hr (by decide) (by rfl) (pa_cons (pv 2) (pa_cons (pv 5) pa_nil))))) pss_never pss_nil)
      (pat_cons (ps_expr (C8.pe_c cS hr (by decide) (by rfl) (pa_cons (pv 3) (pa_cons (pv 4) pa_nil))))
      (pat_super (CX := CX0) sk hcf rfl rfl rfl rfl rfl rfl B.super_ S.top S.st S.sup S.ty S.fn M (hr.mono (by decide)) (pa_cons (pv 1) (pa_cons (pv 3) (pa_cons (pv 4) (pa_cons (pv 2) (pa_cons (pv 5) pa_nil)))))
      (pat_of (pss_cons (ps_fld (pv 0) (pv 2) rfl) (pss_one (ps_fld (pv 0) (pv 5) rfl)))))))), ?_⟩
    refine ⟨_, rfl, n, rfl, hn, fun H0 s0 => ?_⟩
    refine ⟨_, rfl, z, 0, 4096, rfl, z0, z1, true, rfl, iF rfl ?_⟩
    refine ⟨_, rfl, _, rfl, p, z, us, ps, rfl, s0 _ _ hp, mon_RPb.paired s0 hr2, hps, fun H1 s01 => ⟨true, rfl, iF rfl ?_⟩⟩
    have s1 : Same H H1 := s0.trans s01
    refine ⟨_, rfl, _, rfl, m, t, rfl, m0, m1, t0, t1, ?_⟩
    refine ⟨x, dx, [], rfl, s1 _ _ hx, fun q hq => ?_⟩
    have nxq : x ≠ q := ne_of_none (s1 _ _ hx) hq
    refine ⟨_, rfl, _, rfl, _, rfl, _, rfl, _, rfl, upd_same, [.ref x, .str n, .int m, .int t], [.int z, .ref p], rfl, rfl, (by show 2 ≤ sizeLine; decide), fun p2 hp2 => ?_⟩
    have nxp : x ≠ p2 := ne_of_none (show upd H1 q _ x = some _ by rw [upd_ne nxq]; exact s1 _ _ hx) hp2
    refine ⟨C, x, dx, p2, n, m, t, [.int z, .ref p], "sparse", rfl, by rw [upd_ne nxp, upd_ne nxq]; exact s1 _ _ hx, upd_same, (by show 2 ≤ 10; decide), T, fun H3 kv b3 h3 => ?_⟩
    refine ⟨_, rfl, _, rfl, x, C, dx, _, rfl, h3, T.cl, T.nSize, (by show 4 < 1000; decide), ?_⟩
    rw [put7]
    refine ⟨_, rfl, _, rfl, x, C, dx, _, rfl, upd_same, T.cl, T.nPieces, (by show 5 < 1000; decide), ?_⟩
    rw [put8]
    refine k _ kv ?_ upd_same
    exact (But.of x s1).trans ((But.of x (sameUpd hq)).trans ((But.of x (sameUpd hp2)).trans (b3.trans ((But.upd x _ _).trans (But.upd x _ _)))))
end
end L2.K88

end
/-! K88P4 -/
section
set_option Elab.async false
set_option linter.all false
set_option maxRecDepth 100000
set_option maxHeartbeats 4000000
namespace L2.K88
open PySem PySem.Spec PyProof.Rows
abbrev sAbove : Stmt := top 37
abbrev sLAbove : Stmt := top 63
def rJoinK (K : PySem.W.Frag) : V → List V → Hp → VK → Prop := fun x xs H Q => ∃ a p, ∃ ys : List Str, x = .str a ∧ xs = [.ref p] ∧ (SqL K H p (ys.map V.str) ∨ SqT K H p (ys.map V.str)) ∧ (ys.map (·.length)).sum + ys.length * a.length ≤ 16777216 ∧ Q (.str (Txt.join a ys)) H
theorem take_cut (xs : List V) (j : Nat) (h : j ≤ xs.length) : cutV xs none (some (j : Int)) = xs.take j := by
  unfold cutV
  rw [HT.sIx_none, HT.sIx_nat, Nat.min_eq_left h]
  simp
def spAbove : Sp := fun vs H Q _ => ∃ z : Str, vs = [.str z] ∧ z.length ≤ 250 ∧ ∀ H' p, Same H H' → H p = none → H' p = some (.lst ((aboves z).map V.str)) → Q (.ref p) H'
section
variable {P : Program} {w : World} {K : PySem.W.Frag} {mg : Str → Option Value} {base : Heap}
theorem scAbove : FnScope ["path", "parts", "many"] ["path"] (defScope sAbove) := ⟨rfl, rfl, rfl, by decide +kernel, rfl, by decide +kernel, by decide +kernel⟩
theorem c_above (D : DefX K mg "above" sAbove ["path"]) (B : Bl mg) : C8.Cal P w K mg base 1 "above" spAbove [] := by
  refine D.cal scAbove (fun vs H Q E h => ?_) (fun f cdv A outer s H vs Q E hr h => ?_)
  · obtain ⟨z, rfl, _⟩ := h; rfl
  · obtain ⟨z, rfl, hz, k⟩ := h
    refine ⟨_, pss_cons (ps_set (i := 1) scAbove.nd rfl (Or.inr rfl) (pe_split (pv 0) pe_str))
      (pss_one (ps_ret (pe_lc (own := [("many", 2)]) (g := gName 2) (tt := tYes) rfl scAbove.nd (pi_range2 (by rfl) B.range_ (pa_cons pe_int (pa_cons (pe_callB call_len (by rfl) B.len_ boot_len (pa_cons (pv 1) pa_nil)) pa_nil))) (blkOk_by (N := ["path", "parts", "many"]) (sc := defScope sAbove) (by decide +kernel)) (fun _ _ _ _ _ => pg_name (i := 2) scAbove.nd rfl (Or.inl rfl)) (fun _ _ _ _ _ => pts_nil)
          (fun _ _ _ _ _ => (pe_join pe_str (pe_slice (sl_list : SlR _ (rSlL K)) (pv 1) po_none (po_some (pv 2))) : PE _ _ (tM1 (rJoinK K) _ _)))))), ?_⟩
    refine ⟨_, rfl, ⟨_, rfl⟩, z, slash, rfl, rfl, (by decide +kernel), Nat.le_trans (Nat.add_le_add_right hz 2) (by decide), fun p hp => ?_⟩
    have hl : (Txt.split z slash).length ≤ 251 := by rw [split_len]; have := pz_len z; omega
    have hl1 : 1 ≤ (Txt.split z slash).length := by
      rw [split_len]
      exact List.length_pos_iff.mpr (pz_ne z)
    refine ⟨_, rfl, _, _, rfl, .inl ⟨_, SqL.of upd_same, rfl⟩, 1, _, rfl, ⟨by decide, by decide, ?_, ?_⟩, fun D hD => ?_⟩
    · rw [List.length_map]; omega
    · rw [List.length_map]; omega
    have hpD : p ≠ D := ne_of_none upd_same hD
    refine lc_it walk_range (fun i H' => (Same H H' ∧ H D = none ∧ H' p = some (.lst ((Txt.split z slash).map V.str)) ∧ H' D = some (.lst (((List.range i).map fun i => upto z (i + 1)).map V.str)))) ?_ (fun i H' _ h => True.intro) ?_ ?_
    · exact ⟨(sameUpd hp).trans (sameUpd hD), (sameUpd hp).free hD, by rw [upd_ne hpD]; exact upd_same, upd_same⟩
    · rintro i x H3 H2 hi ⟨hs, hd0, hp1, hD1⟩ ⟨rfl, rfl⟩
      rw [List.length_map] at hi
      refine ⟨rfl, ⟨_, rfl⟩, ⟨_, rfl, _, rfl, _, rfl, p, _, rfl, SqL.of hp1, fun q hq => ?_⟩⟩
      have e1 : cutV ((Txt.split z slash).map V.str) none (some ((1 : Int) + i)) = ((Txt.split z slash).take (i + 1)).map V.str := by
        rw [show ((1 : Int) + i) = ((i + 1 : Nat) : Int) by omega, take_cut _ _ (by rw [List.length_map]; omega), List.map_take]
      refine ⟨slash, q, (Txt.split z slash).take (i + 1), rfl, rfl, .inl (SqL.of (by rw [← e1]; exact upd_same)), Nat.le_trans (upto_join_le z _) (by omega), ?_⟩
      have hDq : D ≠ q := ne_of_none hD1 hq
      refine ⟨_, by rw [upd_ne hDq]; exact hD1, ?_, fun b o e => ?_, hd0, ?_, ?_⟩
      · rw [List.length_map, List.length_map, List.length_range]
        exact Nat.lt_of_lt_of_le (show i < 251 by omega) (by decide)
      · rw [upd_ne (ne_of_none e hd0), upd_ne (ne_of_none (hs _ _ e) hq)]; exact hs _ _ e
      · rw [upd_ne hpD, upd_ne (ne_of_none hp1 hq)]; exact hp1
      · rw [upd_same, join_upto, List.range_succ, List.map_append, List.map_append]; rfl
    · rintro H' ⟨hs, hd0, hp1, hD1⟩
      refine k H' D hs hd0 ?_
      rw [hD1]
      have e1 : ((((Txt.split z slash).map V.str).length : Int) - 1).toNat = (pz z).length - 1 := by
        rw [List.length_map, split_len]; omega
      rw [e1]
      rfl
end
end L2.K88

end
/-! K88D -/
section
set_option Elab.async false
set_option linter.all false
set_option maxRecDepth 100000
set_option maxHeartbeats 4000000
/-! dicts by texts: the mirror's lists of pairs -/
namespace L2.K88
open PySem PySem.Spec PyProof.Rows
section
variable {β : Type}
def lk : List (Str × β) → Str → Option β
  | [], _ => none
  | p :: r, k => if p.1 = k then some p.2 else lk r k
def pt : List (Str × β) → Str → β → List (Str × β)
  | [], k, v => [(k, v)]
  | p :: r, k, v => if p.1 = k then (p.1, v) :: r else p :: pt r k v
def ky (a : List (Str × β)) : List Str := a.map (·.1)
theorem lk_pt (k j : Str) (v : β) : ∀ a : List (Str × β), lk (pt a k v) j = if j = k then some v else lk a j
  | [] => by
    show (if k = j then some v else none) = _
    by_cases e : j = k
    · rw [if_pos e, if_pos e.symm]
    · rw [if_neg e, if_neg (fun z => e z.symm)]; rfl
  | p :: r => by
    unfold pt
    by_cases e : p.1 = k
    · rw [if_pos e]
      show (if p.1 = j then some v else lk r j) = _
      by_cases h : j = k
      · rw [if_pos h, if_pos (e.trans h.symm)]
      · have h' : ¬ p.1 = j := fun z => h (z.symm.trans e)
        rw [if_neg h, if_neg h']
        show _ = (if p.1 = j then some p.2 else lk r j)
        rw [if_neg h']
    · rw [if_neg e]
      show (if p.1 = j then some p.2 else lk (pt r k v) j) = _
      rw [lk_pt k j v r]
      show _ = (if j = k then some v else (if p.1 = j then some p.2 else lk r j))
      by_cases h : p.1 = j
      · have h' : ¬ j = k := fun z => e (h.trans z)
        rw [if_pos h, if_neg h', if_pos h]
      · rw [if_neg h, if_neg h]
theorem ky_pt (k : Str) (v : β) : ∀ a : List (Str × β), ky (pt a k v) = if k ∈ ky a then ky a else ky a ++ [k]
  | [] => by simp [pt, ky]
  | p :: r => by
    unfold pt
    by_cases e : p.1 = k
    · rw [if_pos e]
      have : k ∈ ky (p :: r) := by simp [ky, e]
      rw [if_pos this]
      simp [ky]
    · rw [if_neg e]
      have ih := ky_pt k v r
      show p.1 :: ky (pt r k v) = _
      rw [ih]
      by_cases h : k ∈ ky r
      · have : k ∈ ky (p :: r) := List.mem_cons_of_mem _ h
        rw [if_pos h, if_pos this]; rfl
      · have : k ∉ ky (p :: r) := fun z => by
          rcases List.mem_cons.mp z with z | z
          · exact e z.symm
          · exact h z
        rw [if_neg h, if_neg this]; rfl
theorem mem_pt {k j : Str} {v : β} {a : List (Str × β)} : j ∈ ky (pt a k v) ↔ j = k ∨ j ∈ ky a := by
  rw [ky_pt]
  by_cases h : k ∈ ky a
  · rw [if_pos h]
    exact ⟨.inr, fun z => z.elim (fun e => e ▸ h) id⟩
  · rw [if_neg h, List.mem_append, List.mem_singleton]
    exact ⟨fun z => z.symm, fun z => z.symm⟩
theorem nd_pt {k : Str} {v : β} {a : List (Str × β)} (h : (ky a).Nodup) : (ky (pt a k v)).Nodup := by
  rw [ky_pt]
  by_cases e : k ∈ ky a
  · rw [if_pos e]; exact h
  · rw [if_neg e, List.nodup_append]
    refine ⟨h, by simp, fun x hx y hy => ?_⟩
    rw [List.mem_singleton] at hy
    subst hy
    exact fun z => e (z ▸ hx)
theorem len_pt (k : Str) (v : β) : ∀ a : List (Str × β), (pt a k v).length ≤ a.length + 1
  | [] => by simp [pt]
  | p :: r => by
    unfold pt
    have := len_pt k v r
    split
    · simp
    · simp; omega
theorem lk_mem {k : Str} : ∀ {a : List (Str × β)}, (lk a k).isSome = true ↔ k ∈ ky a
  | [] => by simp [lk, ky]
  | p :: r => by
    show (if p.1 = k then some p.2 else lk r k).isSome = true ↔ _
    by_cases e : p.1 = k
    · rw [if_pos e]; simp [ky, e]
    · rw [if_neg e, lk_mem]
      exact ⟨fun h => List.mem_cons_of_mem _ h, fun h => (List.mem_cons.mp h).resolve_left fun z => e z.symm⟩
theorem lk_none {k : Str} {a : List (Str × β)} : lk a k = none ↔ k ∉ ky a := by
  rw [← lk_mem]
  cases lk a k <;> simp
theorem lk_in {k : Str} {v : β} : ∀ {a : List (Str × β)}, lk a k = some v → (k, v) ∈ a
  | [], h => by simp [lk] at h
  | p :: r, h => by
    unfold lk at h
    by_cases e : p.1 = k
    · rw [if_pos e] at h
      have : p = (k, v) := by rw [← e, ← Option.some.inj h]
      rw [this]; simp
    · rw [if_neg e] at h
      exact List.mem_cons_of_mem _ (lk_in h)
theorem in_lk {k : Str} {v : β} : ∀ {a : List (Str × β)}, (ky a).Nodup → (k, v) ∈ a → lk a k = some v
  | p :: r, nd, h => by
    unfold lk
    rcases List.mem_cons.mp h with e | e
    · rw [← e, if_pos rfl]
    · have hk : k ∈ ky r := List.mem_map.mpr ⟨(k, v), e, rfl⟩
      have hne : ¬ p.1 = k := fun z => (List.nodup_cons.mp nd).1 (by show p.1 ∈ ky r; rw [z]; exact hk)
      rw [if_neg hne]
      exact in_lk (List.nodup_cons.mp nd).2 e
/-- a dict with text keys and what it stands for -/
def RK (R : V → β → Prop) : Key × V → Str × β → Prop := fun p q => p.1 = Sum.inr q.1 ∧ R p.2 q.2
variable {R : V → β → Prop}
theorem rk_val {k : Str} : ∀ {kvs : List (Key × V)} {a : List (Str × β)}, Paired (RK R) kvs a → (lk a k = none ∧ valV kvs (Sum.inr k) = none) ∨ ∃ b v, lk a k = some b ∧ valV kvs (Sum.inr k) = some v ∧ R v b
  | _, _, .nil => .inl ⟨rfl, rfl⟩
  | p :: kvs, q :: a, .cons ⟨h1, h2⟩ t => by
    by_cases e : q.1 = k
    · refine .inr ⟨q.2, p.2, ?_, ?_, h2⟩
      · unfold lk; rw [if_pos e]
      · exact valV_pos (by rw [h1, e])
    · have hn : ¬ p.1 = Sum.inr k := fun z => e (Sum.inr.inj (h1.symm.trans z))
      have e1 : lk (q :: a) k = lk a k := by rw [lk, if_neg e]
      rw [e1, valV_neg hn]
      exact rk_val t
theorem rk_keys : ∀ {kvs : List (Key × V)} {a : List (Str × β)}, Paired (RK R) kvs a → kvs.map (·.1) = (ky a).map Sum.inr
  | _, _, .nil => rfl
  | _, _, .cons ⟨h1, _⟩ t => by
    exact List.cons_eq_cons.mpr ⟨h1, rk_keys t⟩
theorem rk_len {kvs : List (Key × V)} {a : List (Str × β)} (h : Paired (RK R) kvs a) : kvs.length = a.length := Paired.length h
theorem putK_pos {κ : Type} [DecidableEq κ] {kvs : List (κ × V)} {k : κ} {v : V} {p : κ × V} (e : p.1 = k) (hn : k ∉ kvs.map (·.1)) : putK (p :: kvs) k v = (p.1, v) :: kvs := by
  unfold putK
  rw [if_pos (by simp [e])]
  rw [List.map_cons, if_pos e]
  congr 1
  have : ∀ l : List (κ × V), k ∉ l.map (·.1) → l.map (fun kv => if kv.1 = k then (kv.1, v) else kv) = l := by
    intro l
    induction l with
    | nil => intro _; rfl
    | cons a r ih =>
      intro h
      rw [List.map_cons, if_neg (fun z => h (by simp [z])), ih (fun z => h (List.mem_cons_of_mem _ z))]
  exact this kvs hn
theorem putK_neg {κ : Type} [DecidableEq κ] {kvs : List (κ × V)} {k : κ} {v : V} {p : κ × V} (e : ¬ p.1 = k) : putK (p :: kvs) k v = p :: putK kvs k v := by
  unfold putK
  rw [List.any_cons, decide_eq_false e, Bool.false_or]
  by_cases h : (kvs.any fun kv => decide (kv.1 = k)) = true
  · rw [if_pos h, if_pos h, List.map_cons, if_neg e]
  · rw [if_neg h, if_neg h]; rfl
theorem rk_put {k : Str} {v : V} {b : β} (hv : R v b) : ∀ {kvs : List (Key × V)} {a : List (Str × β)}, (ky a).Nodup → Paired (RK R) kvs a → Paired (RK R) (putK kvs (Sum.inr k) v) (pt a k b)
  | _, _, _, .nil => .cons ⟨rfl, hv⟩ .nil
  | p :: kvs, q :: a, nd, .cons ⟨h1, h2⟩ t => by
    have nd' := List.nodup_cons.mp nd
    by_cases e : q.1 = k
    · have ep : p.1 = Sum.inr k := by rw [h1, e]
      have hn : (Sum.inr k : Key) ∉ kvs.map (·.1) := by
        rw [rk_keys t]
        intro z
        obtain ⟨x, hx, ex⟩ := List.mem_map.mp z
        exact nd'.1 (by show q.1 ∈ ky a; rw [e, ← Sum.inr.inj ex]; exact hx)
      rw [putK_pos ep hn, pt, if_pos e]
      exact .cons ⟨h1, hv⟩ t
    · have ep : ¬ p.1 = Sum.inr k := fun z => e (Sum.inr.inj (h1.symm.trans z))
      rw [putK_neg ep, pt, if_neg e]
      exact .cons ⟨h1, h2⟩ (rk_put hv nd'.2 t)
end
theorem putK_new {κ : Type} [DecidableEq κ] {kvs : List (κ × V)} {k : κ} {v : V} (h : k ∉ kvs.map (·.1)) : putK kvs k v = kvs ++ [(k, v)] := by
  unfold putK
  rw [if_neg]
  intro z
  obtain ⟨p, hp, e⟩ := List.any_eq_true.mp z
  exact h (List.mem_map.mpr ⟨p, hp, of_decide_eq_true e⟩)
theorem mergeK_app : ∀ (more acc : List (Key × V)), ((acc ++ more).map (·.1)).Nodup → mergeK acc more = acc ++ more
  | [], acc, _ => by simp [mergeK]
  | p :: r, acc, nd => by
    show mergeK (putK acc p.1 p.2) r = _
    have h1 : p.1 ∉ acc.map (·.1) := by
      rw [List.map_append, List.nodup_append] at nd
      exact fun z => nd.2.2 _ z _ (by simp) rfl
    rw [putK_new h1, mergeK_app r (acc ++ [(p.1, p.2)]) (by simpa using nd)]
    simp
theorem mergeK_nd {kvs : List (Key × V)} (h : (kvs.map (·.1)).Nodup) : mergeK [] kvs = kvs := by
  have := mergeK_app kvs [] (by simpa using h)
  simpa using this
theorem nd_inr {l : List Str} (h : l.Nodup) : (l.map (Sum.inr : Str → Key)).Nodup := by
  rw [List.nodup_iff_pairwise_ne, List.pairwise_map]
  exact (List.nodup_iff_pairwise_ne.mp h).imp fun hne z => hne (Sum.inr.inj z)
end L2.K88

end
/-! K88P5 -/
section
set_option Elab.async false
set_option linter.all false
set_option maxRecDepth 100000
set_option maxHeartbeats 4000000
namespace L2.K88
open PySem PySem.Spec PyProof.Rows
abbrev sStamps : Stmt := top 38
abbrev sIsThing : Stmt := top 39
abbrev sIsEntry : Stmt := top 40
abbrev sOneHouse : Stmt := top 41
def MtOk (m t : Int) : Prop := 0 ≤ m ∧ m ≤ 4095 ∧ 0 ≤ t ∧ t ≤ 8589934591
def RwOk : Rw → Prop
  | .fil b m t => b.size ≤ 4096 ∧ MtOk m t
  | .dir m t => MtOk m t
  | .sym g m t => NameOk g ∧ MtOk m t
  | .lnk z => PathOk z
def spStamps : Sp := fun vs H Q _ => ∃ m t : Int, vs = [.int m, .int t] ∧ MtOk m t ∧ Q (.bl true) H
def spIsThing (K : PySem.W.Frag) : Sp := fun vs H Q _ => ∃ (p : Addr) (r : Rw), vs = [.ref p] ∧ SqT K H p r.vs ∧ RwOk r ∧ ∀ H', Same H H' → Q (.bl true) H'
def spIsEntry (K : PySem.W.Frag) : Sp := fun vs H Q _ => ∃ (v : V) (e : En), vs = [v] ∧ REn K H v e ∧ PathOk e.1 ∧ RwOk e.2 ∧ ∀ H', Same H H' → Q (.bl true) H'
/-- entries of one house -/
structure EnsOk (es : List En) : Prop where
  nd : (ky es).Nodup
  ok : ∀ e ∈ es, PathOk e.1 ∧ RwOk e.2
  ab : ∀ e ∈ es, ∀ q ∈ aboves e.1, ∃ m t, lk es q = some (.dir m t)
  ln : ∀ e ∈ es, ∀ z, e.2 = .lnk z → ∃ b m t, lk es z = some (.fil b m t)
def spOneHouse (K : PySem.W.Frag) : Sp := fun vs H Q _ => ∃ (p : Addr) (us : List V) (es : List En), vs = [.ref p] ∧ H p = some (.lst us) ∧ Paired (REn K H) us es ∧ EnsOk es ∧ ∀ H', Same H H' → Q (.bl true) H'
theorem rw_head (r : Rw) : ∃ k l, r.vs = .str k :: l ∧ k = r.kd ∧ 1 ≤ l.length := by cases r <;> exact ⟨_, _, rfl, rfl, by simp⟩
section
variable {P : Program} {w : World} {K : PySem.W.Frag} {mg : Str → Option Value} {base : Heap}
theorem scStamps : FnScope ["mode", "time"] ["mode", "time"] (defScope sStamps) := ⟨rfl, rfl, rfl, by decide +kernel, rfl, by decide +kernel, by decide +kernel⟩
theorem c_are_stamps (D : DefX K mg "are_stamps" sStamps ["mode", "time"]) (T : Cst mg) (cW : C8.Cal P w K mg base 2 "is_within" spWithin []) : C8.Cal P w K mg base 3 "are_stamps" spStamps [] := by
  refine D.cal scStamps (fun vs H Q E h => ?_) (fun f cdv A outer s H vs Q E hr h => ?_)
  · obtain ⟨m, t, rfl, _⟩ := h; rfl
  · obtain ⟨m, t, rfl, ⟨h1, h2, h3, h4⟩, k⟩ := h
    refine ⟨_, pss_one (ps_ret (pe_and (C8.pe_c cW hr (by decide) (by rfl) (pa_cons (pv 0) (pa_cons pe_int (pa_cons (C8.pe_gc (by rfl) T.mMode) pa_nil))))
      (pe_one (C8.pe_c cW hr (by decide) (by rfl) (pa_cons (pv 1) (pa_cons pe_int (pa_cons (C8.pe_gc (by rfl) T.mTime) pa_nil))))))), ?_⟩
    exact ⟨_, rfl, m, 0, 4095, rfl, h1, h2, true, rfl, iT rfl ⟨_, rfl, t, 0, _, rfl, h3, h4, k⟩⟩
theorem scIsThing : FnScope ["thing", "data", "mode", "time", "target", "other"] ["thing"] (defScope sIsThing) := ⟨rfl, rfl, rfl, by decide +kernel, rfl, by decide +kernel, by decide +kernel⟩
theorem c_is_thing (D : DefX K mg "is_thing" sIsThing ["thing"]) (B : Bl mg) (T : Cst mg) (cS : C8.Cal P w K mg base 3 "are_stamps" spStamps []) (cN : C8.Cal P w K mg base 1 "is_name" spIsName []) (cP : C8.Cal P w K mg base 2 "is_path" spIsPath []) : C8.Cal P w K mg base 4 "is_thing" (spIsThing K) [] := by
  refine D.cal scIsThing (fun vs H Q E h => ?_) (fun f cdv A outer s H vs Q E hr h => ?_)
  · obtain ⟨p, r, rfl, _⟩ := h; rfl
  · obtain ⟨p, r, rfl, hp, ho, k⟩ := h
    refine ⟨_, pss_cons (ps_if (PW.pt (pw_or (pt_not (pt_val (pe_callB call_isi (by rfl) B.isinstance_ boot_isinstance (pa_cons (pv 0) (pa_cons (pe_bltn (v := .ty "tuple") (by rfl) B.tuple_ (by decide +kernel) rfl) pa_nil)))))
        (pw_or (pt_cmpR op_eq (pe_callB call_len (by rfl) B.len_ boot_len (pa_cons (pv 0) pa_nil)) pe_int (nomark _))
        (pw_or1 (pt_not (pt_val (pe_callB call_isi (by rfl) B.isinstance_ boot_isinstance (pa_cons (pe_ix ix_tup (pv 0) pe_int (fun _ _ => rfl)) (pa_cons (pe_bltn (v := .ty "str") (by rfl) B.str_ (by decide +kernel) rfl) pa_nil))))))))) pss_never pss_nil)
      (pss_one (ps_match (pv 0)
        (pmc_cons scIsThing.nd (pm_seq rfl (pms_cons pm_str (pms_cons (pm_cap (i := 1) rfl (.inl rfl)) (pms_cons (pm_cap (i := 2) rfl (.inl rfl)) (pms_cons (pm_cap (i := 3) rfl (.inl rfl)) pms_nil)))))
          (pss_one (ps_ret (pe_and (pe_callB call_isi (by rfl) B.isinstance_ boot_isinstance (pa_cons (pv 1) (pa_cons (pe_bltn (v := .ty "bytes") (by rfl) B.bytes_ (by decide +kernel) rfl) pa_nil)))
            (pe_and (pe_cmpR op_le (pe_callB call_len (by rfl) B.len_ boot_len (pa_cons (pv 1) pa_nil)) (C8.pe_gc (by rfl) T.mData) (nomark _)) (pe_one (C8.pe_c cS hr (by decide) (by rfl) (pa_cons (pv 2) (pa_cons (pv 3) pa_nil))))))))
        (pmc_cons scIsThing.nd (pm_seq rfl (pms_cons pm_str (pms_cons (pm_cap (i := 2) rfl (.inl rfl)) (pms_cons (pm_cap (i := 3) rfl (.inl rfl)) pms_nil))))
          (pss_one (ps_ret (C8.pe_c cS hr (by decide) (by rfl) (pa_cons (pv 2) (pa_cons (pv 3) pa_nil)))))
        (pmc_cons scIsThing.nd (pm_seq rfl (pms_cons pm_str (pms_cons (pm_cap (i := 4) rfl (.inl rfl)) (pms_cons (pm_cap (i := 2) rfl (.inl rfl)) (pms_cons (pm_cap (i := 3) rfl (.inl rfl)) pms_nil)))))
          (pss_one (ps_ret (pe_and (C8.pe_c cN hr (by decide) (by rfl) (pa_cons (pv 4) pa_nil)) (pe_one (C8.pe_c cS hr (by decide) (by rfl) (pa_cons (pv 2) (pa_cons (pv 3) pa_nil)))))))
        (pmc_cons scIsThing.nd (pm_seq rfl (pms_cons pm_str (pms_cons (pm_cap (i := 5) rfl (.inl rfl)) pms_nil)))
          (pss_one (ps_ret (C8.pe_c cP hr (by decide) (by rfl) (pa_cons (pv 5) pa_nil))))
        (pmc_cons scIsThing.nd pm_any pss_never pmc_nil))))))), ?_⟩
    obtain ⟨kd, l, el, _, hl⟩ := rw_head r
    have e0 : atI r.vs 0 = some (.str r.kd) := by cases r <;> rfl
    have hne : ¬ ((r.vs.length : Int) = 0) := by rw [el, List.length_cons]; omega
    refine ⟨_, rfl, _, _, _, _, true, rfl, .ty "tuple", tyT hp, kit_ty (by decide +kernel), true, rfl, iF rfl ?_⟩
    refine ⟨_, rfl, _, _, rfl, .inr ⟨_, hp, rfl⟩, rfl, _, rfl, iF (decide_eq_false fun z => hne (V.int.inj z)) ?_⟩
    refine ⟨_, rfl, p, _, _, _, rfl, rfl, hp, e0, _, _, _, _, true, rfl, .ty "str", .base (.str _), kit_ty (by decide +kernel), true, rfl, iF rfl ?_⟩
    cases r with
    | fil b m t =>
      obtain ⟨hb, hm⟩ := ho
      refine ⟨_, rfl, p, _, rfl, hp, fun h => absurd rfl h, fun _ => ⟨_, _, rfl, "file", rfl, fun _ => ⟨_, _, rfl, _, _, rfl, _, _, rfl, ?_⟩, fun h => absurd rfl h⟩⟩
      refine ⟨_, rfl, _, _, _, _, true, rfl, .ty "bytes", .byt _, kit_ty (by decide +kernel), true, rfl, iT rfl ?_⟩
      refine ⟨_, rfl, _, _, rfl, ⟨Nat.le_trans hb (by decide), rfl⟩, _, _, rfl, rfl, _, rfl, iT (decide_eq_true (by omega)) ?_⟩
      exact ⟨_, rfl, _, rfl, m, t, rfl, hm, k _ (Same.refl _)⟩
    | dir m t =>
      refine ⟨_, rfl, p, _, rfl, hp, fun _ => ?_, fun h => nomatch (show (3 : Nat) = 4 from h)⟩
      refine ⟨p, _, rfl, hp, fun h => absurd rfl h, fun _ => ⟨_, _, rfl, "directory", rfl, fun _ => ⟨_, _, rfl, _, _, rfl, ?_⟩, fun h => absurd rfl h⟩⟩
      exact ⟨_, rfl, _, rfl, m, t, rfl, ho, k _ (Same.refl _)⟩
    | sym g m t =>
      obtain ⟨hg, hm⟩ := ho
      refine ⟨_, rfl, p, _, rfl, hp, fun h => absurd rfl h, fun _ => ⟨_, _, rfl, "symlink", rfl, fun h => absurd h (by decide +kernel), fun _ => ?_⟩⟩
      refine ⟨p, _, rfl, hp, fun _ => ?_, fun h => nomatch (show (4 : Nat) = 3 from h)⟩
      refine ⟨p, _, rfl, hp, fun h => absurd rfl h, fun _ => ⟨_, _, rfl, "symlink", rfl, fun _ => ⟨_, _, rfl, _, _, rfl, _, _, rfl, ?_⟩, fun h => absurd rfl h⟩⟩
      exact ⟨_, rfl, g, rfl, hg, fun H1 s1 => ⟨true, rfl, iT rfl ⟨_, rfl, _, rfl, m, t, rfl, hm, k _ s1⟩⟩⟩
    | lnk z =>
      refine ⟨_, rfl, p, _, rfl, hp, fun _ => ?_, fun h => nomatch (show (2 : Nat) = 4 from h)⟩
      refine ⟨p, _, rfl, hp, fun _ => ?_, fun h => nomatch (show (2 : Nat) = 3 from h)⟩
      refine ⟨p, _, rfl, hp, fun _ => ?_, fun h => nomatch (show (2 : Nat) = 4 from h)⟩
      refine ⟨p, _, rfl, hp, fun h => absurd rfl h, fun _ => ⟨_, _, rfl, "link", rfl, fun _ => ⟨_, _, rfl, ?_⟩, fun h => absurd rfl h⟩⟩
      exact ⟨_, rfl, z, rfl, ho, k⟩
theorem scIsEntry : FnScope ["thing"] ["thing"] (defScope sIsEntry) := ⟨rfl, rfl, rfl, by decide +kernel, rfl, by decide +kernel, by decide +kernel⟩
theorem c_is_entry (D : DefX K mg "is_entry" sIsEntry ["thing"]) (B : Bl mg) (cP : C8.Cal P w K mg base 2 "is_path" spIsPath []) (cT : C8.Cal P w K mg base 4 "is_thing" (spIsThing K) []) : C8.Cal P w K mg base 5 "is_entry" (spIsEntry K) [] := by
  refine D.cal scIsEntry (fun vs H Q E h => ?_) (fun f cdv A outer s H vs Q E hr h => ?_)
  · obtain ⟨v, e, rfl, _⟩ := h; rfl
  · obtain ⟨v, ⟨z, r⟩, rfl, ⟨p, u, rfl, hp, q, rfl, hq⟩, hz, ho, k⟩ := h
    refine ⟨_, pss_one (ps_ret (pe_and (pe_callB call_isi (by rfl) B.isinstance_ boot_isinstance (pa_cons (pv 0) (pa_cons (pe_bltn (v := .ty "tuple") (by rfl) B.tuple_ (by decide +kernel) rfl) pa_nil)))
      (pe_and (pe_cmpR op_eq (pe_callB call_len (by rfl) B.len_ boot_len (pa_cons (pv 0) pa_nil)) pe_int (nomark _))
      (pe_and (C8.pe_c cP hr (by decide) (by rfl) (pa_cons (pe_ix ix_tup (pv 0) pe_int (fun _ _ => rfl)) pa_nil))
      (pe_one (C8.pe_c cT hr (by decide) (by rfl) (pa_cons (pe_ix ix_tup (pv 0) pe_int (fun _ _ => rfl)) pa_nil))))))), ?_⟩
    refine ⟨_, rfl, _, _, _, _, true, rfl, .ty "tuple", .base (.tup hp), kit_ty (by decide +kernel), true, rfl, iT rfl ?_⟩
    refine ⟨_, rfl, _, 2, rfl, .inr ⟨_, SqT.of hp, rfl⟩, rfl, _, rfl, iT (by decide) ?_⟩
    refine ⟨_, rfl, p, _, _, _, rfl, rfl, SqT.of hp, rfl, z, rfl, hz, fun H1 s1 => ⟨true, rfl, iT rfl ?_⟩⟩
    exact ⟨_, rfl, p, _, _, _, rfl, rfl, SqT.of (s1 _ _ hp), rfl, q, r, rfl, sqs s1 hq, ho, fun H2 s2 => k H2 (s1.trans s2)⟩
end
end L2.K88

end
/-! K88P7 -/
section
set_option Elab.async false
set_option linter.all false
set_option maxRecDepth 100000
set_option maxHeartbeats 4000000
/-! the house: its fields changed in place -/
namespace L2.K88
open PySem PySem.Spec PyProof.Rows
abbrev sHI : Stmt := inClass (top 42) 0
abbrev sHSet : Stmt := inClass (top 42) 2
abbrev sHShare : Stmt := inClass (top 42) 3
abbrev sHKind : Stmt := inClass (top 42) 5
abbrev sHHas : Stmt := inClass (top 42) 10
abbrev sHEq : Stmt := inClass (top 42) 11
structure HoF (K : PySem.W.Frag) (C : Addr) : Prop where
  cl : Cls K C
  nS : NoAttr K C "standing"
  nF : NoAttr K C "files"
  nR : NoAttr K C "rows"
/-! ### numbered dicts -/
theorem numb_len (vs : List V) : (numb vs).length = vs.length := by simp [numb]
theorem numb_snoc (vs : List V) (v : V) : numb (vs ++ [v]) = numb vs ++ [(Sum.inl (vs.length : Int), v)] := by
  unfold numb
  rw [List.zipIdx_append, List.map_append]
  simp
theorem numb_key {vs : List V} {k : Key} (h : k ∈ (numb vs).map (·.1)) : ∃ i, i < vs.length ∧ k = Sum.inl (i : Int) := by
  obtain ⟨p, hp, rfl⟩ := List.mem_map.mp h
  obtain ⟨q, hq, rfl⟩ := List.mem_map.mp hp
  have h2 := List.mem_zipIdx hq
  exact ⟨q.2, by omega, rfl⟩
theorem numb_put (vs : List V) (v : V) : putK (numb vs) (Sum.inl (vs.length : Int)) v = numb (vs ++ [v]) := by
  rw [numb_snoc]
  refine putK_new fun h => ?_
  obtain ⟨i, hi, e⟩ := numb_key h
  have := Sum.inl.inj e
  omega
theorem numb_get {v : V} : ∀ {vs : List V} {i : Nat}, vs[i]? = some v → valV (numb vs) (Sum.inl (i : Int)) = some v := by
  have gen : ∀ (vs : List V) (n i : Nat), vs[i]? = some v → valV ((vs.zipIdx n).map fun p => ((Sum.inl (p.2 : Int) : Key), p.1)) (Sum.inl ((n + i : Nat) : Int)) = some v := by
    intro vs
    induction vs with
    | nil => intro n i h; simp at h
    | cons a r ih =>
      intro n i h
      rw [List.zipIdx_cons, List.map_cons]
      cases i with
      | zero =>
        simp at h
        subst h
        exact valV_pos rfl
      | succ i =>
        rw [valV_neg (fun z => by have := Sum.inl.inj z; simp at this; omega)]
        have := ih (n + 1) i (by simpa using h)
        rw [show n + (i + 1) = n + 1 + i by omega]
        exact this
  intro vs i h
  have := gen vs 0 i h
  simpa [numb] using this
/-! ### the mirror -/
def setT (h : Hs) (z : Str) : Rw → Hs
  | .fil b m t => ⟨pt h.ats z (.fil h.fls.length), h.fls ++ [(b, m, t)]⟩
  | .dir m t => ⟨pt h.ats z (.dir m t), h.fls⟩
  | .sym g m t => ⟨pt h.ats z (.sym g m t), h.fls⟩
  | .lnk _ => h
def kdAt (a : At) (z : Str) : Str := match lk a z with
  | some th => th.kd
  | none => "absent"
structure HsM (K : PySem.W.Frag) (C : Addr) (F H : Hp) (p dx ds df : Addr) (h : Hs) : Prop where
  ex : ∃ r, H p = some (.ins C dx (hF ds df r))
  hd : ∃ kvs, H ds = some (.dK kvs) ∧ RAt K F kvs h.ats
  hf : ∃ vs, H df = some (.dK (numb vs)) ∧ Paired (RFb K F) vs h.fls
  ne : ds ≠ df
  fp : F p = none
  fd : F ds = none
  ff : F df = none
  nd : (ky h.ats).Nodup
theorem HsM.keep {K : PySem.W.Frag} {C : Addr} {F H F' H' : Hp} {p dx ds df : Addr} {h : Hs} {S : List Addr} (M : HsM K C F H p dx ds df h) (g : Gr S F H F' H') (h1 : p ∉ S) (h2 : ds ∉ S) (h3 : df ∉ S) : HsM K C F' H' p dx ds df h := by
  obtain ⟨⟨r, e1⟩, ⟨kvs, e2, e3⟩, ⟨vs, e4, e5⟩, ne, fp, fd, ff, nd⟩ := M
  exact ⟨⟨r, g.keep h1 e1⟩, ⟨kvs, g.keep h2 e2, mon_RAt g.ff e3⟩, ⟨vs, g.keep h3 e4, mon_RFb.paired g.ff e5⟩, ne, g.notF fp e1, g.notF fd e2, g.notF ff e4, nd⟩
theorem hF_s (ds df r : Addr) : (hF ds df r).lookup ("standing" : Str) = some (.ref ds) := by kernel_rfl
theorem hF_f (ds df r : Addr) : (hF ds df r).lookup ("files" : Str) = some (.ref df) := by kernel_rfl
theorem hF_r (ds df r : Addr) : (hF ds df r).lookup ("rows" : Str) = some (.ref r) := by kernel_rfl
def hF1 (ds : Addr) : List (Str × V) := [("standing", .ref ds)]
def hF2 (ds df : Addr) : List (Str × V) := [("standing", .ref ds), ("files", .ref df)]
theorem putH1 (ds : Addr) : putF "standing" (.ref ds) [] = hF1 ds := rfl
theorem putH2 (ds df : Addr) : putF "files" (.ref df) (hF1 ds) = hF2 ds df := by kernel_rfl
theorem putH3 (ds df r : Addr) : putF "rows" (.ref r) (hF2 ds df) = hF ds df r := by kernel_rfl
theorem putHs (ds df r a : Addr) : putF "standing" (.ref a) (hF ds df r) = hF a df r := by kernel_rfl
theorem putHf (ds df r a : Addr) : putF "files" (.ref a) (hF ds df r) = hF ds a r := by kernel_rfl
theorem putHr (ds df r a : Addr) : putF "rows" (.ref a) (hF ds df r) = hF ds df a := by kernel_rfl
def spHI (C : Addr) : Sp := fun vs H Q _ => ∃ (x dx : Addr), vs = [.ref x] ∧ H x = some (.ins C dx []) ∧ ∀ H' a b c, H a = none → H b = none → H c = none → a ≠ b → a ≠ c → b ≠ c → But x H H' → H' x = some (.ins C dx (hF a b c)) → H' a = some (.dK []) → H' b = some (.dK []) → H' c = some (.lst []) → Q .non H'
def spSet (K : PySem.W.Frag) (C : Addr) : Sp := fun vs H Q _ => ∃ (F : Hp) (p dx ds df : Addr) (h : Hs) (z : Str) (v : V) (r : Rw), vs = [.ref p, .str z, v] ∧ Same F H ∧ HsM K C F H p dx ds df h ∧ RRw K F v r ∧ (∀ u, r ≠ .lnk u) ∧ h.ats.length < 100000 ∧ h.fls.length < 100000 ∧
  ∀ F' H', Gr [ds, df] F H F' H' → HsM K C F' H' p dx ds df (setT h z r) → (∀ o, H p = some o → H' p = some o) → Q .non H'
def spShare (K : PySem.W.Frag) (C : Addr) : Sp := fun vs H Q _ => ∃ (F : Hp) (p dx ds df : Addr) (h : Hs) (z u : Str) (th : Th), vs = [.ref p, .str z, .str u] ∧ Same F H ∧ HsM K C F H p dx ds df h ∧ lk h.ats u = some th ∧ h.ats.length < 100000 ∧
  ∀ F' H', Gr [ds, df] F H F' H' → HsM K C F' H' p dx ds df ⟨pt h.ats z th, h.fls⟩ → (∀ o, H p = some o → H' p = some o) → Q .non H'
/-- the standing dict is to be read -/
def HsR (K : PySem.W.Frag) (C : Addr) (F H : Hp) (p : Addr) (a : At) : Prop := ∃ dx ds df r kvs, H p = some (.ins C dx (hF ds df r)) ∧ H ds = some (.dK kvs) ∧ RAt K F kvs a
theorem HsR.up {K : PySem.W.Frag} {C : Addr} {F H H' : Hp} {p : Addr} {a : At} (h : HsR K C F H p a) (s : Same H H') : HsR K C F H' p a := by
  obtain ⟨dx, ds, df, r, kvs, h1, h2, h3⟩ := h
  exact ⟨dx, ds, df, r, kvs, s _ _ h1, s _ _ h2, h3⟩
def spHas (K : PySem.W.Frag) (C : Addr) : Sp := fun vs H Q _ => ∃ (F : Hp) (p : Addr) (a : At) (z : Str), vs = [.ref p, .str z] ∧ Same F H ∧ HsR K C F H p a ∧ Q (.bl (lk a z).isSome) H
def spKind (K : PySem.W.Frag) (C : Addr) : Sp := fun vs H Q _ => ∃ (F : Hp) (p : Addr) (a : At) (z : Str), vs = [.ref p, .str z] ∧ Same F H ∧ HsR K C F H p a ∧ Q (.str (kdAt a z)) H
section
variable {P : Program} {w : World} {K : PySem.W.Frag} {mg : Str → Option Value} {base : Heap} {C : Addr}
theorem scHI : FnScope ["self"] ["self"] (defScope sHI) := ⟨rfl, rfl, rfl, by decide +kernel, rfl, by decide +kernel, by decide +kernel⟩
theorem c_hinit (D : MetX K C "__init__" "House.__init__" sHI ["self"]) (T : HoF K C) : C8.Met P w K mg base 1 C "__init__" (spHI C) [] := by
  refine D.met scHI (fun vs H Q E h => ?_) (fun f cdv A outer s H vs Q E hr h => ?_)
  · obtain ⟨x, dx, rfl, _⟩ := h; rfl
  · obtain ⟨x, dx, rfl, hx, k⟩ := h
    refine ⟨_, pss_cons (ps_fld (pv 0) pe_dnewK rfl) (pss_cons (ps_fld (pv 0) pe_dnewK rfl) (pss_one (ps_fld (pv 0) (pe_lst pa_nil) rfl))), ?_⟩
    intro a ha
    have nxa : x ≠ a := ne_of_none hx ha
    refine ⟨_, rfl, x, C, dx, [], rfl, by rw [upd_ne nxa]; exact hx, T.cl, T.nS, (by show 0 < 1000; decide), ?_⟩
    rw [putH1]
    intro b hb
    have nxb : x ≠ b := ne_of_none upd_same hb
    have nab : a ≠ b := ne_of_none (show upd (upd H a (.dK [])) x (.ins C dx (hF1 a)) a = some (.dK []) by rw [upd_ne nxa.symm]; exact upd_same) hb
    have hb0 : H b = none := by rw [upd_ne nxb.symm, upd_ne nab.symm] at hb; exact hb
    refine ⟨_, rfl, x, C, dx, _, rfl, by rw [upd_ne nxb]; exact upd_same, T.cl, T.nF, (by show 1 < 1000; decide), ?_⟩
    rw [putH2]
    refine ⟨Nat.zero_le _, fun c hc => ?_⟩
    have nxc : x ≠ c := ne_of_none upd_same hc
    have nac : a ≠ c := ne_of_none (o := .dK []) (by rw [upd_ne nxa.symm, upd_ne nab, upd_ne nxa.symm]; exact upd_same) hc
    have nbc : b ≠ c := ne_of_none (o := .dK []) (by rw [upd_ne nxb.symm]; exact upd_same) hc
    have hc0 : H c = none := by rw [upd_ne nxc.symm, upd_ne nbc.symm, upd_ne nxc.symm, upd_ne nac.symm] at hc; exact hc
    refine ⟨_, rfl, x, C, dx, _, rfl, by rw [upd_ne nxc]; exact upd_same, T.cl, T.nR, (by show 2 < 1000; decide), ?_⟩
    rw [putH3]
    refine k _ a b c ha hb0 hc0 nab nac nbc ?_ upd_same ?_ ?_ ?_
    · intro d o nd e
      rw [upd_ne nd, upd_ne (ne_of_none e hc0), upd_ne nd, upd_ne (ne_of_none e hb0), upd_ne nd, upd_ne (ne_of_none e ha)]
      exact e
    · rw [upd_ne nxa.symm, upd_ne nac, upd_ne nxa.symm, upd_ne nab, upd_ne nxa.symm]; exact upd_same
    · rw [upd_ne nxb.symm, upd_ne nbc, upd_ne nxb.symm]; exact upd_same
    · rw [upd_ne nxc.symm]; exact upd_same
theorem scHSet : FnScope ["self", "path", "thing"] ["self", "path", "thing"] (defScope sHSet) := ⟨rfl, rfl, rfl, by decide +kernel, rfl, by decide +kernel, by decide +kernel⟩
theorem rw_kd (r : Rw) : atI r.vs 0 = some (.str r.kd) := by cases r <;> rfl
theorem c_hset (D : MetX K C "set_thing" "House.set_thing" sHSet ["self", "path", "thing"]) (T : HoF K C) (B : Bl mg) : C8.Met P w K mg base 1 C "set_thing" (spSet K C) [] := by
  refine D.met scHSet (fun vs H Q E h => ?_) (fun f cdv A outer s H vs Q E hr h => ?_)
  · obtain ⟨F, p, dx, ds, df, h, z, v, r, rfl, _⟩ := h; rfl
  · obtain ⟨F, p, dx, ds, df, h, z, v, r, rfl, fh, M, ⟨a, rfl, ha⟩, hl, hz1, hz2, k⟩ := h
    have hu := hu_of hr
    refine ⟨_, pss_cons (ps_if (pt_cmpR op_eq (pe_ix ix_tup (pv 2) pe_int (fun _ _ => rfl)) pe_str (nomark _))
        (pss_cons (ps_dput hu (pe_fld (pv 0) rfl) (pe_callB call_lenD (by rfl) B.len_ PySem.boot_len (pa_cons (pe_fld (pv 0) rfl) pa_nil)) (pv 2) rfl)
          (pss_one (ps_set (i := 2) scHSet.nd rfl (Or.inl rfl) (pe_tup (pa_cons pe_str (pa_cons (pe_op op_sub (pe_callB call_lenD (by rfl) B.len_ PySem.boot_len (pa_cons (pe_fld (pv 0) rfl) pa_nil)) pe_int) pa_nil)))))) pss_nil)
      (pss_one (ps_dput hu (pe_fld (pv 0) rfl) (pv 1) (pv 2) rfl)), ?_⟩
    obtain ⟨⟨ro, e1⟩, ⟨kvs, e2, e3⟩, ⟨vs, e4, e5⟩, ne, fp, fd, ff, nd⟩ := M
    have npd : p ≠ ds := ne_of e1 e2 (by intro z; cases z)
    have npf : p ≠ df := ne_of e1 e4 (by intro z; cases z)
    have hk : kvs.length < sizeLine := by rw [rk_len e3]; exact Nat.lt_trans hz1 (by decide)
    refine ⟨_, rfl, a, _, 0, _, rfl, rfl, sqs fh ha, rw_kd r, rfl, _, rfl, ?_⟩
    -- the last store, from any heap
    have last : ∀ (F1 H1 : Hp) (vs1 : List V) (fl : List Fb) (th : Th) (q : Addr), Gr [ds, df] F H F1 H1 → H1 p = some (.ins C dx (hF ds df ro)) → H1 ds = some (.dK kvs) → H1 df = some (.dK (numb vs1)) → Paired (RFb K F1) vs1 fl → SqT K F1 q th.vs →
        setT h z r = ⟨pt h.ats z th, fl⟩ → Q .non (upd H1 ds (.dK (putK kvs (Sum.inr z) (.ref q)))) := by
      intro F1 H1 vs1 fl th q g g1 g2 g3 g4 g5 g6
      have fd1 := g.notF fd e2
      refine k F1 _ (g.mut (.inr (by simp)) fd1) ?_ fun o e => ?_
      · rw [g6]
        refine ⟨⟨ro, by rw [upd_ne npd]; exact g1⟩, ⟨_, upd_same, ?_⟩, ⟨vs1, by rw [upd_ne ne.symm]; exact g3, g4⟩, ne, g.notF fp e1, fd1, g.notF ff e4, nd_pt nd⟩
        exact rk_put (R := RTh K F1) ⟨q, rfl, g5⟩ nd (mon_RAt g.ff e3)
      · rw [upd_ne npd, g1, ← e1]; exact e
    cases r with
    | lnk u => exact absurd rfl (hl u)
    | dir m t =>
      refine iF (show decide (V.str "directory" = V.str "file") = false by decide +kernel) ?_
      refine ⟨_, rfl, _, rfl, p, C, dx, _, _, rfl, e1, T.cl, T.nS, hF_s _ _ _, _, rfl, ds, _, rfl, DPut.k (k := Sum.inr z) e2 hk, ?_⟩
      exact last F H vs h.fls (.dir m t) a (Gr.refl fh) e1 e2 e4 e5 ha rfl
    | sym g m t =>
      refine iF (show decide (V.str "symlink" = V.str "file") = false by decide +kernel) ?_
      refine ⟨_, rfl, _, rfl, p, C, dx, _, _, rfl, e1, T.cl, T.nS, hF_s _ _ _, _, rfl, ds, _, rfl, DPut.k (k := Sum.inr z) e2 hk, ?_⟩
      exact last F H vs h.fls (.sym g m t) a (Gr.refl fh) e1 e2 e4 e5 ha rfl
    | fil b m t =>
      refine iT (show decide (V.str "file" = V.str "file") = true by decide +kernel) ?_
      have hk2 : (numb vs).length < sizeLine := by rw [numb_len, Plen e5]; exact Nat.lt_trans hz2 (by decide)
      refine ⟨_, rfl, _, rfl, p, C, dx, _, _, rfl, e1, T.cl, T.nF, hF_f _ _ _, _, rfl, p, C, dx, _, _, rfl, e1, T.cl, T.nF, hF_f _ _ _, df, _, rfl, e4, df, _, rfl, DPut.k (k := Sum.inl _) e4 hk2, ?_⟩
      rw [numb_len, numb_put]
      have g1 : Gr [ds, df] F H F (upd H df (.dK (numb (vs ++ [V.ref a])))) := (Gr.refl fh).mut (.inr (by simp)) ff
      refine ⟨_, rfl, p, C, dx, _, _, rfl, by rw [upd_ne npf]; exact e1, T.cl, T.nF, hF_f _ _ _, df, _, rfl, upd_same, _, _, rfl, rfl, (by show 2 ≤ sizeLine; decide), fun q hq => ?_⟩
      have nqf : df ≠ q := ne_of_none upd_same hq
      have nqp : p ≠ q := ne_of_none (o := .ins C dx (hF ds df ro)) (by rw [upd_ne npf]; exact e1) hq
      have nqd : ds ≠ q := ne_of_none (o := .dK kvs) (by rw [upd_ne ne]; exact e2) hq
      have g2 := g1.new (o := .tup [.str "file", .int (((numb (vs ++ [V.ref a])).length : Int) - 1)]) hq
      refine ⟨_, rfl, _, rfl, p, C, dx, _, _, rfl, by rw [upd_ne nqp, upd_ne npf]; exact e1, T.cl, T.nS, hF_s _ _ _, _, rfl, ds, _, rfl, DPut.k (k := Sum.inr z) (by rw [upd_ne nqd, upd_ne ne]; exact e2) hk, ?_⟩
      refine last _ _ (vs ++ [V.ref a]) (h.fls ++ [(b, m, t)]) (.fil h.fls.length) q g2 (by rw [upd_ne nqp, upd_ne npf]; exact e1) (by rw [upd_ne nqd, upd_ne ne]; exact e2) (by rw [upd_ne nqf]; exact upd_same) ?_ ?_ rfl
      · exact Psnoc (mon_RFb.paired g2.ff e5) ⟨a, rfl, sqs g2.ff ha⟩
      · refine SqT.of ?_
        rw [upd_same]
        have : (((numb (vs ++ [V.ref a])).length : Int) - 1) = ((h.fls.length : Nat) : Int) := by
          rw [numb_len, List.length_append, Plen e5]; simp
        rw [this]; rfl
theorem scHShare : FnScope ["self", "path", "target"] ["self", "path", "target"] (defScope sHShare) := ⟨rfl, rfl, rfl, by decide +kernel, rfl, by decide +kernel, by decide +kernel⟩
theorem c_hshare (D : MetX K C "share" "House.share" sHShare ["self", "path", "target"]) (T : HoF K C) : C8.Met P w K mg base 1 C "share" (spShare K C) [] := by
  refine D.met scHShare (fun vs H Q E h => ?_) (fun f cdv A outer s H vs Q E hr h => ?_)
  · obtain ⟨F, p, dx, ds, df, h, z, u, th, rfl, _⟩ := h; rfl
  · obtain ⟨F, p, dx, ds, df, h, z, u, th, rfl, fh, M, hl, hz1, k⟩ := h
    have hu := hu_of hr
    refine ⟨_, pss_one (ps_dput hu (pe_fld (pv 0) rfl) (pv 1) (pe_dget hu (pe_fld (pv 0) rfl) (pv 2) (fun _ _ => rfl)) rfl), ?_⟩
    obtain ⟨⟨ro, e1⟩, ⟨kvs, e2, e3⟩, ⟨vs, e4, e5⟩, ne, fp, fd, ff, nd⟩ := M
    have npd : p ≠ ds := ne_of e1 e2 (by intro z; cases z)
    have hk : kvs.length < sizeLine := by rw [rk_len e3]; exact Nat.lt_trans hz1 (by decide)
    rcases rk_val (k := u) e3 with ⟨h1, _⟩ | ⟨b, v, h1, h2, h3⟩
    · rw [hl] at h1; cases h1
    · rw [hl] at h1
      cases h1
      refine ⟨_, rfl, p, C, dx, _, _, rfl, e1, T.cl, T.nS, hF_s _ _ _, _, rfl, ds, v, rfl, by rw [← h2]; exact DGet.k (k := Sum.inr u) e2, _, rfl, p, C, dx, _, _, rfl, e1, T.cl, T.nS, hF_s _ _ _, _, rfl, ds, _, rfl, DPut.k (k := Sum.inr z) e2 hk, ?_⟩
      refine k F _ ((Gr.refl fh).mut (.inr (by simp)) fd) ⟨⟨ro, by rw [upd_ne npd]; exact e1⟩, ⟨_, upd_same, rk_put (R := RTh K F) h3 nd e3⟩, ⟨vs, by rw [upd_ne ne.symm]; exact e4, e5⟩, ne, fp, fd, ff, nd_pt nd⟩ fun o e => ?_
      rw [upd_ne npd]; exact e
theorem scHHas : FnScope ["self", "path"] ["self", "path"] (defScope sHHas) := ⟨rfl, rfl, rfl, by decide +kernel, rfl, by decide +kernel, by decide +kernel⟩
theorem c_hhas (D : MetX K C "has" "House.has" sHHas ["self", "path"]) (T : HoF K C) (B : Bl mg) : C8.Met P w K mg base 1 C "has" (spHas K C) [] := by
  refine D.met scHHas (fun vs H Q E h => ?_) (fun f cdv A outer s H vs Q E hr h => ?_)
  · obtain ⟨F, p, a, z, rfl, _⟩ := h; rfl
  · obtain ⟨F, p, a, z, rfl, fh, ⟨dx, ds, df, r, kvs, e1, e2, e3⟩, k⟩ := h
    have hu := hu_of hr
    refine ⟨_, pss_one (ps_ret (pe_and (pe_callB call_isi (by rfl) B.isinstance_ boot_isinstance (pa_cons (pv 1) (pa_cons (pe_bltn (v := .ty "str") (by rfl) B.str_ (by decide +kernel) rfl) pa_nil))) (pe_one (pe_cmp (pc_din hu (pv 1) (pe_fld (pv 0) rfl)) rfl)))), ?_⟩
    refine ⟨_, rfl, _, _, _, _, true, rfl, .ty "str", .base (.str _), kit_ty (by decide +kernel), true, rfl, iT rfl ?_⟩
    refine ⟨_, rfl, _, rfl, p, C, dx, _, _, rfl, e1, T.cl, T.nS, hF_s _ _ _, ds, _, rfl, DGet.k (k := Sum.inr z) e2, ?_⟩
    rcases rk_val (k := z) e3 with ⟨h1, h2⟩ | ⟨b, v, h1, h2, h3⟩
    · rw [h2]; rw [h1] at k; exact k
    · rw [h2]; rw [h1] at k; exact k
theorem th_kd (r : Th) : atI r.vs 0 = some (.str r.kd) := by cases r <;> rfl
theorem scHKind : FnScope ["self", "path"] ["self", "path"] (defScope sHKind) := ⟨rfl, rfl, rfl, by decide +kernel, rfl, by decide +kernel, by decide +kernel⟩
theorem c_hkind (D : MetX K C "kind_at" "House.kind_at" sHKind ["self", "path"]) (T : HoF K C) (cH : C8.Met P w K mg base 1 C "has" (spHas K C) []) (nh : ∀ ds df r, (hF ds df r).lookup ("has" : Str) = none) : C8.Met P w K mg base 2 C "kind_at" (spKind K C) [] := by
  refine D.met scHKind (fun vs H Q E h => ?_) (fun f cdv A outer s H vs Q E hr h => ?_)
  · obtain ⟨F, p, a, z, rfl, _⟩ := h; rfl
  · obtain ⟨F, p, a, z, rfl, fh, ⟨dx, ds, df, r, kvs, e1, e2, e3⟩, k⟩ := h
    have hu := hu_of hr
    refine ⟨_, pss_one (ps_ret (pe_ifExp (pt_val (C8.pe_mt cH hr (by decide) (pv 0) (pa_cons (pv 1) pa_nil))) (pe_ix ix_tup (pe_dget hu (pe_fld (pv 0) rfl) (pv 1) (fun _ _ => rfl)) pe_int (fun _ _ => rfl)) pe_str)), ?_⟩
    refine ⟨_, rfl, p, dx, _, rfl, e1, nh _ _ _, _, rfl, F, p, a, z, rfl, fh, ⟨dx, ds, df, r, kvs, e1, e2, e3⟩, _, rfl, ?_⟩
    unfold kdAt at k
    rcases rk_val (k := z) e3 with ⟨h1, h2⟩ | ⟨b, v, h1, h2, q, rfl, h3⟩
    · rw [h1] at k ⊢
      exact iF rfl k
    · rw [h1] at k ⊢
      refine iT rfl ⟨_, rfl, p, C, dx, _, _, rfl, e1, T.cl, T.nS, hF_s _ _ _, _, rfl, ds, .ref q, rfl, by rw [← h2]; exact DGet.k (k := Sum.inr z) e2, q, _, 0, _, rfl, rfl, sqs fh h3, th_kd b, k⟩
end
end L2.K88

end
/-! K88P8 -/
section
set_option Elab.async false
set_option linter.all false
set_option maxRecDepth 100000
set_option maxHeartbeats 4000000
namespace L2.K88
open PySem PySem.Spec PyProof.Rows
abbrev sHSettle : Stmt := inClass (top 42) 4
/-! ### rows -/
def nk (fs : List (Nat × Str)) (i : Nat) : Option Str := (fs.find? fun p => decide (p.1 = i)).map (·.2)
def rws (a : At) (fb : Nat → Rw) : List Str → List (Nat × Str) → List En
  | [], _ => []
  | z :: r, fs => match lk a z with
    | some (.fil i) => match nk fs i with
      | some u => (z, .lnk u) :: rws a fb r fs
      | none => (z, fb i) :: rws a fb r (fs ++ [(i, z)])
    | some (.dir m t) => (z, .dir m t) :: rws a fb r fs
    | some (.sym g m t) => (z, .sym g m t) :: rws a fb r fs
    | none => rws a fb r fs
def fbOf (fls : List Fb) (i : Nat) : Rw := match fls[i]? with
  | some (b, m, t) => .fil b m t
  | none => .dir 0 0
def Rows (h : Hs) (rows : List En) : Prop := ∃ ks : List Str, ks.Perm (ky h.ats) ∧ ks.Pairwise StrLe ∧ rows = rws h.ats (fbOf h.fls) ks []
def HsW (h : Hs) : Prop := ∀ z i, lk h.ats z = some (.fil i) → i < h.fls.length
def kvF (fs : List (Nat × Str)) : List (Key × V) := fs.map fun p => ((Sum.inl (p.1 : Int) : Key), V.str p.2)
theorem kvF_val (i : Nat) : ∀ fs : List (Nat × Str), valV (kvF fs) (Sum.inl (i : Int)) = (nk fs i).map V.str
  | [] => rfl
  | p :: r => by
    show valV (((Sum.inl (p.1 : Int) : Key), V.str p.2) :: kvF r) _ = _
    by_cases e : p.1 = i
    · rw [valV_pos (by show (Sum.inl (p.1 : Int) : Key) = _; rw [e])]
      unfold nk
      rw [List.find?_cons, decide_eq_true e]
      rfl
    · rw [valV_neg (fun z => e (by have h := Sum.inl.inj z; omega)), kvF_val i r]
      unfold nk
      rw [List.find?_cons, decide_eq_false e]
theorem kvF_put {fs : List (Nat × Str)} {i : Nat} {z : Str} (h : nk fs i = none) : putK (kvF fs) (Sum.inl (i : Int)) (.str z) = kvF (fs ++ [(i, z)]) := by
  rw [putK_new]
  · simp [kvF]
  · intro hm
    have h2 := kvF_val i fs
    rw [h] at h2
    exact valV_not h2 hm
def spSettle (K : PySem.W.Frag) (C : Addr) : Sp := fun vs H Q _ => ∃ (F : Hp) (p dx ds df : Addr) (h : Hs), vs = [.ref p] ∧ Same F H ∧ HsM K C F H p dx ds df h ∧ HsW h ∧ h.ats.length < 100000 ∧
  ∀ F' H' r rs rows, Gr [p] F H F' H' → HsM K C F' H' p dx ds df h → H' p = some (.ins C dx (hF ds df r)) → H r = none → F' r = none → H' r = some (.lst rs) → Paired (REn K F') rs rows → Rows h rows → Q .non H'
section
variable {P : Program} {w : World} {K : PySem.W.Frag} {mg : Str → Option Value} {base : Heap} {C : Addr}
theorem scHSettle : FnScope ["self", "found", "first", "path", "thing"] ["self"] (defScope sHSettle) := ⟨rfl, rfl, rfl, by decide +kernel, rfl, by decide +kernel, by decide +kernel⟩
theorem c_hsettle (D : MetX K C "settle" "House.settle" sHSettle ["self"]) (T : HoF K C) (B : Bl mg) : C8.Met P w K mg base 1 C "settle" (spSettle K C) [] := by
  refine D.met scHSettle (fun vs H Q E h => ?_) (fun f cdv A outer s H vs Q E hr h => ?_)
  · obtain ⟨F, p, dx, ds, df, h, rfl, _⟩ := h; rfl
  · obtain ⟨F, p, dx, ds, df, h, rfl, fh, M, hw, hz, k⟩ := h
    have hu := hu_of hr
    refine ⟨_, pss_cons (ps_par (i := 1) (j := 2) (by rfl) scHSettle.nd rfl rfl (by decide) rfl rfl (pa_cons (pe_lst pa_nil) (pa_cons pe_dnewK pa_nil)) (by rfl))
      (pss_cons (ps_for PassesOwn.never rfl (pi_list (pe_callB (call_sortedDS rfl) (by rfl) B.sorted_ boot_sorted (pa_cons (pe_fld (pv 0) rfl) pa_nil))) (pg_name (i := 3) scHSettle.nd rfl (Or.inl rfl))
        (pss_cons (ps_set (i := 4) scHSettle.nd rfl (Or.inl rfl) (pe_dget hu (pe_fld (pv 0) rfl) (pv 3) (fun _ _ => rfl)))
        (pss_one (ps_if (pt_cmpR op_ne (pe_ix ix_tup (pv 4) pe_int (fun _ _ => rfl)) pe_str (nomark _))
          (pss_one (ps_expr (pe_bm PySem.F.plainAttrs_list PySem.F.slot_list_append PySem.F.type_list_append mt_append (pv 1) (pa_cons (pe_tup (pa_cons (pv 3) (pa_cons (pv 4) pa_nil))) pa_nil))))
          (pss_one (ps_if (pt_cmp (pc_din hu (pe_ix ix_tup (pv 4) pe_int (fun _ _ => rfl)) (pv 2)))
            (pss_one (ps_expr (pe_bm PySem.F.plainAttrs_list PySem.F.slot_list_append PySem.F.type_list_append mt_append (pv 1) (pa_cons (pe_tup (pa_cons (pv 3) (pa_cons (pe_tup (pa_cons pe_str (pa_cons (pe_dget hu (pv 2) (pe_ix ix_tup (pv 4) pe_int (fun _ _ => rfl)) (fun _ _ => rfl)) pa_nil))) pa_nil))) pa_nil))))
            (pss_cons (ps_dput hu (pv 2) (pe_ix ix_tup (pv 4) pe_int (fun _ _ => rfl)) (pv 3) rfl)
              (pss_one (ps_expr (pe_bm PySem.F.plainAttrs_list PySem.F.slot_list_append PySem.F.type_list_append mt_append (pv 1) (pa_cons (pe_tup (pa_cons (pv 3) (pa_cons (pe_dget hu (pe_fld (pv 0) rfl) (pe_ix ix_tup (pv 4) pe_int (fun _ _ => rfl)) (fun _ _ => rfl)) pa_nil))) pa_nil)))))))))))
      (pss_one (ps_fld (pv 0) (pv 1) rfl))), ?_⟩
    obtain ⟨⟨ro, e1⟩, ⟨kvs, e2, e3⟩, ⟨vs, e4, e5⟩, ne, fp, fd, ff, nd⟩ := id M
    refine ⟨Nat.zero_le _, fun l hl => ?_⟩
    intro d hd
    refine ⟨_, _, rfl, ?_⟩
    have nld : l ≠ d := ne_of_none upd_same hd
    have g0 : Gr [] F H F (upd (upd H l (.lst [])) d (.dK [])) := ((Gr.refl fh).raw hl).raw hd
    have hd0 : H d = none := by rw [upd_ne nld.symm] at hd; exact hd
    have sv0 : ∀ b o, H b = some o → upd (upd H l (.lst [])) d (.dK []) b = some o := fun b o e => g0.keep (by simp) e
    refine ⟨_, rfl, p, C, dx, _, _, rfl, sv0 _ _ e1, T.cl, T.nS, hF_s _ _ _, ds, kvs, ky h.ats, rfl, .inl (sv0 _ _ e2), rk_keys e3, fun ks q hperm hsort hq => ?_⟩
    have g1 := g0.raw (o := .lst (ks.map V.str)) hq
    have nlq : l ≠ q := ne_of_none (o := .lst []) (by rw [upd_ne nld]; exact upd_same) hq
    have ndq : d ≠ q := ne_of_none upd_same hq
    have hlen : ks.length = h.ats.length := by rw [hperm.length_eq]; simp [ky]
    have hq0 : H q = none := g0.dom _ hq
    refine ⟨q, rfl, ⟨_, SqL.of upd_same⟩, ?_⟩
    refine for_it (walk_list (xs := ks.map V.str)) (fun i σ H' => ∃ F1 acc fs done v3 v4, σ = [some (.ref p), some (.ref l), some (.ref d), v3, v4] ∧ Gr [] F H F1 H' ∧ F1 l = none ∧ F1 d = none ∧ H' l = some (.lst acc) ∧ H' d = some (.dK (kvF fs)) ∧ Paired (REn K F1) acc done ∧
      rws h.ats (fbOf h.fls) ks [] = done ++ rws h.ats (fbOf h.fls) (ks.drop i) fs ∧ H' q = some (.lst (ks.map V.str)) ∧ done.length ≤ i ∧ fs.length ≤ i) ?_ (fun i σ H' _ h => by obtain ⟨F1, acc, fs, done, v3, v4, _, _, _, _, _, _, _, _, h, _⟩ := h; exact SqL.of h) ?_ ?_
    · exact ⟨F, [], [], [], none, none, rfl, g1, fh.free hl, fh.free hd0, by rw [upd_ne nlq, upd_ne nld]; exact upd_same, by rw [upd_ne ndq]; exact upd_same, .nil, rfl, upd_same, Nat.le_refl _, Nat.le_refl _⟩
    · rintro i x σ H1 H2 hi ⟨F1, acc, fs, done, v3, v4, rfl, g, fl, fd1, hl1, hd1, hacc, hfull, hq1, hz1, hz2⟩ ⟨rfl, hx⟩
      rw [List.length_map] at hi
      have hks : ks[i]? = some ks[i] := List.getElem?_eq_getElem hi
      rw [List.getElem?_map, hks] at hx
      obtain rfl : V.str ks[i] = x := Option.some.inj hx
      have hdrop : ks.drop i = ks[i] :: ks.drop (i + 1) := List.drop_eq_getElem_cons hi
      generalize hzz : ks[i] = z at *
      have hin : z ∈ ky h.ats := hperm.mem_iff.mp (by rw [← hzz]; exact List.getElem_mem hi)
      have nlq1 : l ≠ q := nlq
      have hzl : acc.length < sizeLine := by
        rw [Plen hacc]
        exact Nat.lt_of_le_of_lt hz1 (Nat.lt_trans (show i < 100000 by omega) (by decide))
      have hr1 := g.keep (by simp) e1
      have hr2 := g.keep (by simp) e2
      have hr4 := g.keep (by simp) e4
      rcases rk_val (k := z) e3 with ⟨h1, _⟩ | ⟨th, v, h1, h2, a, rfl, h3⟩
      · exact absurd hin (lk_none.mp h1)
      · have ha := sqs (fh.trans g.same) h3
        -- a row is added
        have add : ∀ (F2 H2 : Hp) (fs2 : List (Nat × Str)) (u : V) (r : Rw) (v4 : Option V), Gr [] F H F2 H2 → F2 l = none → F2 d = none → H2 l = some (.lst acc) → H2 d = some (.dK (kvF fs2)) → Paired (REn K F2) acc done → H2 q = some (.lst (ks.map V.str)) → RRw K F2 u r → fs2.length ≤ i + 1 →
            rws h.ats (fbOf h.fls) (ks.drop i) fs = (z, r) :: rws h.ats (fbOf h.fls) (ks.drop (i + 1)) fs2 → ∀ t, H2 t = none →
            ∃ l0 xs0 y0, V.ref l = V.ref l0 ∧ [V.ref t] = [y0] ∧ upd H2 t (.tup [.str z, u]) l0 = some (.lst xs0) ∧ xs0.length < sizeLine ∧ ∃ F1 acc' fs' done' v3' v4', [some (V.ref p), some (V.ref l), some (V.ref d), some (V.str z), v4] = [some (.ref p), some (.ref l), some (.ref d), v3', v4'] ∧ Gr [] F H F1 (upd (upd H2 t (.tup [.str z, u])) l0 (.lst (xs0 ++ [y0]))) ∧ F1 l = none ∧ F1 d = none ∧
              upd (upd H2 t (.tup [.str z, u])) l0 (.lst (xs0 ++ [y0])) l = some (.lst acc') ∧ upd (upd H2 t (.tup [.str z, u])) l0 (.lst (xs0 ++ [y0])) d = some (.dK (kvF fs')) ∧ Paired (REn K F1) acc' done' ∧ rws h.ats (fbOf h.fls) ks [] = done' ++ rws h.ats (fbOf h.fls) (ks.drop (i + 1)) fs' ∧
              upd (upd H2 t (.tup [.str z, u])) l0 (.lst (xs0 ++ [y0])) q = some (.lst (ks.map V.str)) ∧ done'.length ≤ i + 1 ∧ fs'.length ≤ i + 1 := by
          intro F2 H2 fs2 u r v4 g2 f1 f2 a1 a2 a3 a4 a5 a6 a7 t ht
          have ntl : l ≠ t := ne_of_none a1 ht
          have ntd : d ≠ t := ne_of_none a2 ht
          have ntq : q ≠ t := ne_of_none a4 ht
          have g3 := g2.new (o := .tup [.str z, u]) ht
          have fl3 : upd F2 t (.tup [.str z, u]) l = none := by rw [upd_ne ntl]; exact f1
          have fd3 : upd F2 t (.tup [.str z, u]) d = none := by rw [upd_ne ntd]; exact f2
          refine ⟨l, acc, .ref t, rfl, rfl, by rw [upd_ne ntl]; exact a1, hzl, _, acc ++ [.ref t], fs2, done ++ [(z, r)], _, _, rfl, g3.mut (.inl hl) fl3, fl3, fd3, upd_same, by rw [upd_ne nld.symm, upd_ne ntd]; exact a2, ?_, ?_, ?_, ?_, a6⟩
          · exact Psnoc (mon_REn.paired (sameUpd (g2.fh.free ht)) a3) ⟨t, u, rfl, upd_same, mon_RRw _ _ _ _ (sameUpd (g2.fh.free ht)) a5⟩
          · rw [hfull, a7, List.append_assoc]; rfl
          · rw [upd_ne nlq.symm, upd_ne ntq]; exact a4
          · rw [List.length_append]; exact Nat.succ_le_succ hz1
        refine ⟨_, rfl, p, C, dx, _, _, rfl, hr1, T.cl, T.nS, hF_s _ _ _, _, rfl, ds, .ref a, rfl, by rw [← h2]; exact DGet.k (k := Sum.inr z) hr2, ?_⟩
        refine ⟨_, rfl, a, _, 0, _, rfl, rfl, ha, th_kd th, rfl, _, rfl, ?_⟩
        cases th with
        | dir m t =>
          refine iT (show (!decide (V.str "directory" = V.str "file")) = true by decide +kernel) ?_
          refine ⟨_, rfl, .inl ⟨rfl, _, SqL.of hl1⟩, _, rfl, _, rfl, (by show 2 ≤ sizeLine; decide), fun t2 ht2 => ?_⟩
          exact add F1 H2 fs (.ref a) (.dir m t) _ g fl fd1 hl1 hd1 hacc hq1 ⟨a, rfl, sqs g.ff h3⟩ (by omega) (by rw [hdrop, rws, h1]) t2 ht2
        | sym s m t =>
          refine iT (show (!decide (V.str "symlink" = V.str "file")) = true by decide +kernel) ?_
          refine ⟨_, rfl, .inl ⟨rfl, _, SqL.of hl1⟩, _, rfl, _, rfl, (by show 2 ≤ sizeLine; decide), fun t2 ht2 => ?_⟩
          exact add F1 H2 fs (.ref a) (.sym s m t) _ g fl fd1 hl1 hd1 hacc hq1 ⟨a, rfl, sqs g.ff h3⟩ (by omega) (by rw [hdrop, rws, h1]) t2 ht2
        | fil n =>
          refine iF (show (!decide (V.str "file" = V.str "file")) = false by decide +kernel) ?_
          refine ⟨_, rfl, a, _, 1, _, rfl, rfl, ha, rfl, _, rfl, d, _, rfl, DGet.k (k := Sum.inl (n : Int)) hd1, _, rfl, ?_⟩
          rw [kvF_val]
          cases hn : nk fs n with
          | some u =>
            refine iT rfl ?_
            refine ⟨_, rfl, .inl ⟨rfl, _, SqL.of hl1⟩, _, rfl, _, rfl, _, rfl, a, _, 1, _, rfl, rfl, ha, rfl, d, .str u, rfl, ?_, (by show 2 ≤ sizeLine; decide), fun t1 ht1 => ⟨(by show 2 ≤ sizeLine; decide), fun t2 ht2 => ?_⟩⟩
            · have := DGet.k (k := Sum.inl (n : Int)) hd1
              rw [kvF_val, hn] at this
              exact this
            · have g2 := g.new (o := .tup [.str "link", .str u]) ht1
              have n1 : l ≠ t1 := ne_of_none hl1 ht1
              have n2 : d ≠ t1 := ne_of_none hd1 ht1
              have n3 : q ≠ t1 := ne_of_none hq1 ht1
              exact add _ _ fs (.ref t1) (.lnk u) _ g2 (by rw [upd_ne n1]; exact fl) (by rw [upd_ne n2]; exact fd1) (by rw [upd_ne n1]; exact hl1) (by rw [upd_ne n2]; exact hd1) (mon_REn.paired (sameUpd (g.fh.free ht1)) hacc) (by rw [upd_ne n3]; exact hq1)
                ⟨t1, rfl, SqT.of upd_same⟩ (by omega) (by rw [hdrop, rws, h1]; simp only [hn]) t2 ht2
          | none =>
            refine iF rfl ?_
            have hkl : (kvF fs).length < sizeLine := by
              rw [show (kvF fs).length = fs.length by simp [kvF]]
              exact Nat.lt_of_le_of_lt hz2 (Nat.lt_trans (show i < 100000 by omega) (by decide))
            refine ⟨_, rfl, _, rfl, _, rfl, a, _, 1, _, rfl, rfl, ha, rfl, d, _, rfl, DPut.k (k := Sum.inl (n : Int)) hd1 hkl, ?_⟩
            rw [kvF_put hn]
            have npd : p ≠ d := fun z => by rw [z, hd1] at hr1; cases hr1
            have nfd : df ≠ d := fun z => by rw [z, hd0] at e4; cases e4
            have nqd : q ≠ d := ndq.symm
            have hfl := hw z n h1
            obtain ⟨⟨b, m, t⟩, hb⟩ : ∃ x, h.fls[n]? = some x := ⟨_, List.getElem?_eq_getElem hfl⟩
            obtain ⟨v, hv, c, rfl, hc⟩ := Pget' e5 hb
            refine ⟨_, rfl, .inl ⟨rfl, _, SqL.of (by rw [upd_ne nld]; exact hl1)⟩, _, rfl, _, rfl, p, C, dx, _, _, rfl, by rw [upd_ne npd]; exact hr1, T.cl, T.nF, hF_f _ _ _, _, rfl, a, _, 1, _, rfl, rfl, sqs (fh.trans (g.mut (.inl hd0) fd1).same) h3, rfl, df, .ref c, rfl, ?_, (by show 2 ≤ sizeLine; decide), fun t2 ht2 => ?_⟩
            · have := DGet.k (k := Sum.inl (n : Int)) (show upd H2 d (.dK (kvF (fs ++ [(n, z)]))) df = some (.dK (numb vs)) by rw [upd_ne nfd]; exact hr4)
              rw [numb_get hv] at this
              exact this
            · exact add _ _ (fs ++ [(n, z)]) (.ref c) (.fil b m t) _ (g.mut (.inl hd0) fd1) fl fd1 (by rw [upd_ne nld]; exact hl1) upd_same hacc (by rw [upd_ne nqd]; exact hq1) ⟨c, rfl, sqs g.ff hc⟩ (by rw [List.length_append]; exact Nat.succ_le_succ hz2)
                (by rw [hdrop, rws, h1]; simp only [hn, fbOf, hb]) t2 ht2
    · rintro σ H' ⟨F1, acc, fs, done, v3, v4, rfl, g, fl, fd1, hl1, hd1, hacc, hfull, hq1, hz1, hz2⟩
      rw [List.length_map, List.drop_length] at hfull
      have hr1 := g.keep (by simp) e1
      refine ⟨_, rfl, _, rfl, p, C, dx, _, rfl, hr1, T.cl, T.nR, (by show 3 < 1000; decide), ?_⟩
      rw [putHr]
      have npl : l ≠ p := fun z => by rw [z, e1] at hl; cases hl
      have npd : ds ≠ p := fun z => by rw [z, e1] at e2; cases e2
      have npf : df ≠ p := fun z => by rw [z, e1] at e4; cases e4
      have M2 := M.keep g (by simp) (by simp) (by simp)
      obtain ⟨_, ⟨kvs2, a2, a3⟩, ⟨vs2, a4, a5⟩, _, b1, b2, b3, _⟩ := M2
      refine k F1 _ l acc (rws h.ats (fbOf h.fls) ks []) (g.up.mut (.inr (by simp)) b1) ⟨⟨l, upd_same⟩, ⟨kvs2, by rw [upd_ne npd]; exact a2, a3⟩, ⟨vs2, by rw [upd_ne npf]; exact a4, a5⟩, ne, b1, b2, b3, nd⟩ upd_same hl fl (by rw [upd_ne npl]; exact hl1) ?_ ⟨ks, hperm, hsort, rfl⟩
      have hfull' : rws h.ats (fbOf h.fls) ks [] = done := by rw [hfull]; simp [rws]
      rw [hfull']
      exact hacc
end
end L2.K88

end
/-! K88P9 -/
section
set_option Elab.async false
set_option linter.all false
set_option maxRecDepth 100000
set_option maxHeartbeats 4000000
namespace L2.K88
open PySem PySem.Spec PyProof.Rows
abbrev sHCopied : Stmt := inClass (top 42) 6
theorem Gr.then {S T : List Addr} {F0 H0 F1 H1 F2 H2 : Hp} (a : Gr S F0 H0 F1 H1) (b : Gr T F1 H1 F2 H2) (h : ∀ x ∈ T, x ∈ S ∨ H0 x = none) : Gr S F0 H0 F2 H2 := by
  refine ⟨a.ff.trans b.ff, b.fh, fun c o n e => b.ex c o (fun z => ?_) (a.ex c o n e), fun c e => a.dom c (b.dom c e), fun c e n => b.nw c (a.nw c e n) fun z => n (a.dom c z)⟩
  rcases h c z with h | h
  · exact n h
  · rw [h] at e; cases e
structure HoM (K : PySem.W.Frag) (mg : Str → Option Value) (C : Addr) : Prop where
  mkr : ∃ f, Mk K C f
  mgC : mg "House" = some (.ref C)
/-- a new house, its rows told -/
def NewHs (K : PySem.W.Frag) (C : Addr) (F H F' H' : Hp) (q : Addr) (h : Hs) : Prop := Gr [] F H F' H' ∧ ∃ dx ds df r rs rows, HsM K C F' H' q dx ds df h ∧ H q = none ∧ H ds = none ∧ H df = none ∧ H r = none ∧ F' r = none ∧ H' q = some (.ins C dx (hF ds df r)) ∧ H' r = some (.lst rs) ∧ Paired (REn K F') rs rows ∧ Rows h rows
/-- a house to be copied -/
def SrcHs (K : PySem.W.Frag) (C : Addr) (F H : Hp) (p : Addr) (h : Hs) : Prop := ∃ dx ds df r kvs vs, H p = some (.ins C dx (hF ds df r)) ∧ H ds = some (.dK kvs) ∧ RAt K F kvs h.ats ∧ H df = some (.dK (numb vs)) ∧ Paired (RFb K F) vs h.fls ∧ (ky h.ats).Nodup
def spCopied (K : PySem.W.Frag) (C : Addr) : Sp := fun vs H Q _ => ∃ (F : Hp) (p : Addr) (h : Hs), vs = [.ref p] ∧ Same F H ∧ SrcHs K C F H p h ∧ HsW h ∧ h.ats.length < 100000 ∧ ∀ F' H' q, NewHs K C F H F' H' q h → Q (.ref q) H'
/-- two houses of the same rows -/
def RowAt (K : PySem.W.Frag) (C : Addr) (H : Hp) (v : V) (rows : List En) : Prop := ∃ p dx ds df r rs, v = .ref p ∧ H p = some (.ins C dx (hF ds df r)) ∧ H r = some (.lst rs) ∧ Paired (REn K H) rs rows
def spHEq (K : PySem.W.Frag) (C : Addr) : Sp := fun vs H Q _ => ∃ (a b : V) (rows : List En), vs = [a, b] ∧ RowAt K C H a rows ∧ RowAt K C H b rows ∧ Q (.bl true) H
section
variable {P : Program} {w : World} {K : PySem.W.Frag} {mg : Str → Option Value} {base : Heap} {C : Addr}
theorem hn_settle (ds df r : Addr) : (hF ds df r).lookup ("settle" : Str) = none := by kernel_rfl
theorem scHCopied : FnScope ["self", "made"] ["self"] (defScope sHCopied) := ⟨rfl, rfl, rfl, by decide +kernel, rfl, by decide +kernel, by decide +kernel⟩
theorem c_hcopied (D : MetX K C "copied" "House.copied" sHCopied ["self"]) (T : HoF K C) (Z : HoM K mg C) (B : Bl mg) (cI : C8.Met P w K mg base 1 C "__init__" (spHI C) []) (cS : C8.Met P w K mg base 1 C "settle" (spSettle K C) []) : C8.Met P w K mg base 3 C "copied" (spCopied K C) [] := by
  refine D.met scHCopied (fun vs H Q E h => ?_) (fun f cdv A outer s H vs Q E hr h => ?_)
  · obtain ⟨F, p, h, rfl, _⟩ := h; rfl
  · obtain ⟨F, p, h, rfl, fh, ⟨dx0, ds0, df0, r0, kvs, vs, e1, e2, e3, e4, e5, nd⟩, hw, hz, k⟩ := h
    obtain ⟨fi, Mi⟩ := Z.mkr
    obtain ⟨fi', fdi, psi, dsi, ci, mei, Fi, bi, di⟩ := cI.ex
    have hfi : fi = fi' := by
      have h1 := Mi.init
      have h2 := mei.at_
      rw [h1] at h2
      cases h2
      rfl
    subst hfi
    refine ⟨_, pss_cons (ps_set (i := 1) scHCopied.nd rfl (Or.inl rfl) (pe_make0 Mi Fi hr rfl Z.mgC bi di pass0))
      (pss_cons (ps_fld (pv 1) (pe_callTy call_dictD (by rfl) B.dict_ (by decide +kernel) (pa_cons (pe_fld (pv 0) rfl) pa_nil)) rfl)
      (pss_cons (ps_fld (pv 1) (pe_callTy call_dictD (by rfl) B.dict_ (by decide +kernel) (pa_cons (pe_fld (pv 0) rfl) pa_nil)) rfl)
      (pss_cons (ps_expr (C8.pe_mt0 cS hr (by decide) (pv 1))) (pss_one (ps_ret (pv 1)))))), ?_⟩
    intro x dx nx ndx nex
    refine ⟨x, dx, rfl, upd_same, fun H3 a b c ha hb hc nab nac nbc hbut hx3 ha3 hb3 hc3 => ⟨rfl, ?_⟩⟩
    -- what stood, stands
    have s3 : Same H H3 := fun u o e => by
      have n1 : u ≠ x := ne_of_none e nx
      have n2 : u ≠ dx := ne_of_none e ndx
      exact hbut u o n1 (by rw [upd_ne n1, upd_ne n2]; exact e)
    have na : H a = none := by
      by_cases z1 : a = x
      · rw [z1]; exact nx
      · by_cases z2 : a = dx
        · rw [z2]; exact ndx
        · rw [upd_ne z1, upd_ne z2] at ha; exact ha
    have dom3 : ∀ u, H3 u = none → H u = none := fun u e => by
      cases z : H u with
      | none => rfl
      | some o => rw [s3 _ _ z] at e; cases e
    have g3 : Gr [] F H F H3 := ⟨Same.refl _, fh.trans s3, fun u o _ e => s3 u o e, dom3, fun u e _ => e⟩
    have nxp : x ≠ p := fun z => by rw [z, e1] at nx; cases nx
    refine ⟨_, rfl, p, C, dx0, _, _, rfl, s3 _ _ e1, T.cl, T.nS, hF_s _ _ _, ds0, kvs, rfl, .inl (s3 _ _ e2), fun d hd => ?_⟩
    have nxd : x ≠ d := ne_of_none hx3 hd
    refine ⟨_, rfl, x, C, dx, _, rfl, by rw [upd_ne nxd]; exact hx3, T.cl, T.nS, (by show 3 < 1000; decide), ?_⟩
    rw [putHs]
    have fx : F x = none := fh.free nx
    have g4 : Gr [] F H F (upd (upd H3 d (.dK kvs)) x (.ins C dx (hF d b c))) := (g3.raw hd).mut (.inl nx) fx
    refine ⟨_, rfl, p, C, dx0, _, _, rfl, g4.keep (by simp) e1, T.cl, T.nF, hF_f _ _ _, df0, numb vs, rfl, .inl (g4.keep (by simp) e4), fun e he => ?_⟩
    have nxe : x ≠ e := ne_of_none upd_same he
    have nde : d ≠ e := ne_of_none (o := .dK kvs) (by rw [upd_ne nxd.symm]; exact upd_same) he
    refine ⟨_, rfl, x, C, dx, _, rfl, by rw [upd_ne nxe]; exact upd_same, T.cl, T.nF, (by show 3 < 1000; decide), ?_⟩
    rw [putHf]
    have g5 := (g4.raw (o := .dK (numb vs)) he).mut (p := x) (o := .ins C dx (hF d e c)) (.inl nx) fx
    have he0 : H e = none := g4.dom _ he
    have hd0 : H d = none := dom3 _ hd
    have M : HsM K C F (upd (upd (upd (upd H3 d (.dK kvs)) x (.ins C dx (hF d b c))) e (.dK (numb vs))) x (.ins C dx (hF d e c))) x dx d e h :=
      ⟨⟨c, upd_same⟩, ⟨kvs, by rw [upd_ne nxd.symm, upd_ne nde, upd_ne nxd.symm]; exact upd_same, e3⟩, ⟨vs, by rw [upd_ne nxe.symm]; exact upd_same, e5⟩, nde, fx, fh.free hd0, fh.free he0, nd⟩
    refine ⟨_, rfl, x, dx, _, rfl, upd_same, hn_settle _ _ _, F, x, dx, d, e, h, rfl, g5.fh, M, hw, hz, fun F' H' r rs rows g6 M6 h6 r0' r1 r2 r3 r4 => ?_⟩
    have g7 := g5.then g6 (fun u hu => by rw [List.mem_singleton] at hu; rw [hu]; exact .inr nx)
    exact ⟨_, rfl, k F' H' x ⟨g7, dx, d, e, r, rs, rows, M6, nx, hd0, he0, g5.dom _ r0', r1, h6, r2, r3, r4⟩⟩
end
end L2.K88

end
/-! K88M1 -/
section
set_option Elab.async false
set_option linter.all false
set_option maxRecDepth 100000
set_option maxHeartbeats 4000000
/-! a house made of its entries: plain -/
namespace L2.K88
open PySem PySem.Spec PyProof.Rows
def f1 (h : Hs) (e : En) : Hs := setT h e.1 e.2
def f2 (h : Hs) (e : En) : Hs := match e.2 with
  | .lnk u => match lk h.ats u with
    | some th => ⟨pt h.ats e.1 th, h.fls⟩
    | none => h
  | _ => h
def h0 : Hs := ⟨[], []⟩
def ofH (es : List En) : Hs := es.foldl f2 (es.foldl f1 h0)
def isLnk : Rw → Bool
  | .lnk _ => true
  | _ => false
/-- the kind that the entries tell of a path -/
def kdEn (es : List En) (z : Str) : Str := match lk es z with
  | some (.lnk _) => "file"
  | some r => r.kd
  | none => "absent"
theorem kd_set (h : Hs) (z q : Str) (r : Rw) : kdAt (setT h z r).ats q = if q = z ∧ isLnk r = false then r.kd else kdAt h.ats q := by
  cases r with
  | lnk u => rw [if_neg (by simp [isLnk])]; rfl
  | fil b m t =>
    show kdAt (pt h.ats z (.fil h.fls.length)) q = _
    unfold kdAt
    rw [lk_pt]
    by_cases e : q = z
    · rw [if_pos e, if_pos ⟨e, rfl⟩]; rfl
    · rw [if_neg e, if_neg (fun z => e z.1)]
  | dir m t =>
    show kdAt (pt h.ats z (.dir m t)) q = _
    unfold kdAt
    rw [lk_pt]
    by_cases e : q = z
    · rw [if_pos e, if_pos ⟨e, rfl⟩]; rfl
    · rw [if_neg e, if_neg (fun z => e z.1)]
  | sym g m t =>
    show kdAt (pt h.ats z (.sym g m t)) q = _
    unfold kdAt
    rw [lk_pt]
    by_cases e : q = z
    · rw [if_pos e, if_pos ⟨e, rfl⟩]; rfl
    · rw [if_neg e, if_neg (fun z => e z.1)]
theorem w_set {h : Hs} (w : HsW h) (z : Str) (r : Rw) : HsW (setT h z r) := by
  cases r with
  | lnk u => exact w
  | fil b m t =>
    intro q i e
    have e : lk (pt h.ats z (.fil h.fls.length)) q = some (.fil i) := e
    rw [lk_pt] at e
    show i < (h.fls ++ [(b, m, t)]).length
    rw [List.length_append, List.length_singleton]
    by_cases z : q = z
    · rw [if_pos z] at e; cases e; omega
    · rw [if_neg z] at e; have := w _ _ e; omega
  | dir m t =>
    intro q i e
    have e : lk (pt h.ats z (.dir m t)) q = some (.fil i) := e
    rw [lk_pt] at e
    by_cases z : q = z
    · rw [if_pos z] at e; cases e
    · rw [if_neg z] at e; exact w _ _ e
  | sym g m t =>
    intro q i e
    have e : lk (pt h.ats z (.sym g m t)) q = some (.fil i) := e
    rw [lk_pt] at e
    by_cases z : q = z
    · rw [if_pos z] at e; cases e
    · rw [if_neg z] at e; exact w _ _ e
theorem w_shr {h : Hs} (w : HsW h) {z u : Str} {th : Th} (e : lk h.ats u = some th) : HsW ⟨pt h.ats z th, h.fls⟩ := by
  intro q i e2
  have e2 : lk (pt h.ats z th) q = some (.fil i) := e2
  rw [lk_pt] at e2
  by_cases z : q = z
  · rw [if_pos z] at e2; cases e2; exact w _ _ e
  · rw [if_neg z] at e2; exact w _ _ e2
theorem len_set (h : Hs) (z : Str) (r : Rw) : (setT h z r).ats.length ≤ h.ats.length + 1 ∧ (setT h z r).fls.length ≤ h.fls.length + 1 := by
  cases r with
  | lnk u => exact ⟨Nat.le_succ _, Nat.le_succ _⟩
  | fil b m t => exact ⟨len_pt _ _ _, by show (h.fls ++ _).length ≤ _; simp⟩
  | dir m t => exact ⟨len_pt _ _ _, Nat.le_succ _⟩
  | sym g m t => exact ⟨len_pt _ _ _, Nat.le_succ _⟩
theorem nd_set {h : Hs} (w : (ky h.ats).Nodup) (z : Str) (r : Rw) : (ky (setT h z r).ats).Nodup := by
  cases r with
  | lnk u => exact w
  | fil b m t => exact nd_pt w
  | dir m t => exact nd_pt w
  | sym g m t => exact nd_pt w
/-- after the first walk -/
theorem kd_f1 : ∀ (es : List En) (h : Hs), (ky es).Nodup → ∀ q, kdAt (es.foldl f1 h).ats q = match lk es q with
    | some r => if isLnk r = true then kdAt h.ats q else r.kd
    | none => kdAt h.ats q
  | [], h, _, q => rfl
  | e :: es, h, nd, q => by
    have nd' := List.nodup_cons.mp nd
    show kdAt (es.foldl f1 (f1 h e)).ats q = _
    rw [kd_f1 es (f1 h e) nd'.2 q]
    unfold f1
    rw [kd_set]
    by_cases z : e.1 = q
    · have hn : lk es q = none := lk_none.mpr (by rw [← z]; exact nd'.1)
      rw [hn, lk, if_pos z]
      cases hl : isLnk e.2 with
      | true => simp [hl]
      | false => simp [z, hl]
    · have zy : ¬ q = e.1 := fun y => z y.symm
      rw [lk, if_neg z]
      cases lk es q with
      | none => simp [zy]
      | some r =>
        cases hr : isLnk r <;> simp [zy, hr]
theorem f2_kd {h : Hs} {e : En} (q : Str) (ht : ∀ u, e.2 = .lnk u → kdAt h.ats u = "file") : kdAt (f2 h e).ats q = if q = e.1 ∧ isLnk e.2 = true then ("file" : Str) else kdAt h.ats q := by
  unfold f2
  cases hr : e.2 with
  | fil b m t => simp [isLnk]
  | dir m t => simp [isLnk]
  | sym g m t => simp [isLnk]
  | lnk u =>
    have h1 := ht u hr
    simp only [isLnk, and_true]
    unfold kdAt at h1
    cases hl : lk h.ats u with
    | none => rw [hl] at h1; exact absurd h1 (by decide +kernel)
    | some th =>
      rw [hl] at h1
      show kdAt (pt h.ats e.1 th) q = _
      unfold kdAt
      rw [lk_pt]
      by_cases z : q = e.1
      · rw [if_pos z, if_pos z]; exact h1
      · rw [if_neg z, if_neg z]
theorem kd_f2 : ∀ (es : List En) (h : Hs), (ky es).Nodup → (∀ e ∈ es, ∀ u, e.2 = .lnk u → kdAt h.ats u = "file") → ∀ q, kdAt (es.foldl f2 h).ats q = match lk es q with
    | some r => if isLnk r = true then ("file" : Str) else kdAt h.ats q
    | none => kdAt h.ats q
  | [], h, _, _, q => rfl
  | e :: es, h, nd, ht, q => by
    have nd' := List.nodup_cons.mp nd
    have he := ht e (by simp)
    show kdAt (es.foldl f2 (f2 h e)).ats q = _
    rw [kd_f2 es (f2 h e) nd'.2 (fun e' h' u hu => by
      rw [f2_kd u he]
      by_cases z : u = e.1 ∧ isLnk e.2 = true
      · rw [if_pos z]
      · rw [if_neg z]; exact ht e' (List.mem_cons_of_mem _ h') u hu) q]
    rw [f2_kd q he]
    by_cases z : e.1 = q
    · have hn : lk es q = none := lk_none.mpr (by rw [← z]; exact nd'.1)
      rw [hn, lk, if_pos z]
      cases hl : isLnk e.2 with
      | true => simp [z, hl]
      | false => simp [hl]
    · have zy : ¬ q = e.1 := fun y => z y.symm
      rw [lk, if_neg z]
      cases lk es q with
      | none => simp [zy]
      | some r =>
        cases hr : isLnk r <;> simp [zy, hr]
theorem w_f1 : ∀ (es : List En) (h : Hs), HsW h → HsW (es.foldl f1 h)
  | [], _, w => w
  | e :: es, h, w => w_f1 es _ (w_set w _ _)
theorem f2_w {h : Hs} (w : HsW h) (e : En) : HsW (f2 h e) := by
  unfold f2
  cases e.2 with
  | fil b m t => exact w
  | dir m t => exact w
  | sym g m t => exact w
  | lnk u =>
    cases hl : lk h.ats u with
    | none => simpa [hl] using w
    | some th => simpa [hl] using w_shr w hl
theorem w_f2 : ∀ (es : List En) (h : Hs), HsW h → HsW (es.foldl f2 h)
  | [], _, w => w
  | e :: es, h, w => w_f2 es _ (f2_w w e)
theorem w_ofH (es : List En) : HsW (ofH es) := w_f2 _ _ (w_f1 _ _ fun z i e => by simp [h0, lk] at e)
theorem len_f1 : ∀ (es : List En) (h : Hs), (es.foldl f1 h).ats.length ≤ h.ats.length + es.length ∧ (es.foldl f1 h).fls.length ≤ h.fls.length + es.length
  | [], h => ⟨Nat.le_refl _, Nat.le_refl _⟩
  | e :: es, h => by
    have h1 := len_set h e.1 e.2
    have h2 : _ ≤ (setT h e.1 e.2).ats.length + es.length ∧ _ ≤ (setT h e.1 e.2).fls.length + es.length := len_f1 es (f1 h e)
    show (es.foldl f1 (f1 h e)).ats.length ≤ h.ats.length + (es.length + 1) ∧ (es.foldl f1 (f1 h e)).fls.length ≤ h.fls.length + (es.length + 1)
    omega
theorem f2_len (h : Hs) (e : En) : (f2 h e).ats.length ≤ h.ats.length + 1 ∧ (f2 h e).fls = h.fls := by
  unfold f2
  cases e.2 with
  | fil b m t => exact ⟨Nat.le_succ _, rfl⟩
  | dir m t => exact ⟨Nat.le_succ _, rfl⟩
  | sym g m t => exact ⟨Nat.le_succ _, rfl⟩
  | lnk u =>
    cases hl : lk h.ats u with
    | none => simp [hl]
    | some th => simp only [hl, and_true]; exact len_pt _ _ _
theorem len_f2 : ∀ (es : List En) (h : Hs), (es.foldl f2 h).ats.length ≤ h.ats.length + es.length ∧ (es.foldl f2 h).fls = h.fls
  | [], h => ⟨Nat.le_refl _, rfl⟩
  | e :: es, h => by
    have h1 := f2_len h e
    have h2 := len_f2 es (f2 h e)
    rw [h1.2] at h2
    refine ⟨?_, h2.2⟩
    show (es.foldl f2 (f2 h e)).ats.length ≤ h.ats.length + (es.length + 1)
    omega
theorem len_ofH (es : List En) : (ofH es).ats.length ≤ 2 * es.length ∧ (ofH es).fls.length ≤ es.length := by
  have h1 := len_f1 es h0
  have h2 := len_f2 es (es.foldl f1 h0)
  unfold ofH
  rw [h2.2]
  simp only [h0, List.length_nil] at h1 h2 ⊢
  omega
theorem kd_ofH {es : List En} (o : EnsOk es) (q : Str) : kdAt (ofH es).ats q = kdEn es q := by
  have h1 := kd_f1 es h0 o.nd
  unfold ofH
  rw [kd_f2 es _ o.nd (fun e he u hu => ?_) q, h1 q]
  · unfold kdEn
    cases lk es q with
    | none => rfl
    | some r => cases r <;> rfl
  · obtain ⟨b, m, t, hl⟩ := o.ln e he u hu
    rw [h1 u, hl]
    rfl
/-- a link's target stands when it is shared -/
theorem tgt_ofH {es : List En} (o : EnsOk es) {i : Nat} {z u : Str} (he : (z, Rw.lnk u) ∈ es) : ∃ th, lk ((es.take i).foldl f2 (es.foldl f1 h0)).ats u = some th := by
  have h1 := kd_f1 es h0 o.nd
  have hk : ∀ e ∈ es, ∀ u, e.2 = .lnk u → kdAt (es.foldl f1 h0).ats u = "file" := fun e he u hu => by
    obtain ⟨b, m, t, hl⟩ := o.ln e he u hu
    rw [h1 u, hl]
    rfl
  have ndt : (ky (es.take i)).Nodup := by
    unfold ky
    rw [List.map_take]
    exact List.Sublist.nodup (List.take_sublist _ _) o.nd
  have h2 := kd_f2 (es.take i) (es.foldl f1 h0) ndt (fun e h' => hk e (List.mem_of_mem_take h')) u
  have h3 := hk _ he u rfl
  have h4 : kdAt ((es.take i).foldl f2 (es.foldl f1 h0)).ats u = "file" := by
    rw [h2]
    cases lk (es.take i) u with
    | none => exact h3
    | some r => cases isLnk r <;> simp [h3]
  unfold kdAt at h4
  cases hl : lk ((es.take i).foldl f2 (es.foldl f1 h0)).ats u with
  | none => rw [hl] at h4; exact absurd h4 (by decide +kernel)
  | some th => exact ⟨th, rfl⟩
theorem nd_ofH1 : ∀ (es : List En) (h : Hs), (ky h.ats).Nodup → (ky (es.foldl f1 h).ats).Nodup
  | [], _, w => w
  | e :: es, h, w => nd_ofH1 es _ (nd_set w _ _)
end L2.K88

end
/-! K88P11 -/
section
set_option Elab.async false
set_option linter.all false
set_option maxRecDepth 100000
set_option maxHeartbeats 4000000
namespace L2.K88
open PySem PySem.Spec PyProof.Rows
abbrev sRefusal : Stmt := top 45
abbrev sRefAt : Stmt := top 46
/-- where the classes stand -/
structure Ad where
  fi : Addr
  sp : Addr
  di : Addr
  sy : Addr
  ho : Addr
structure ClZ (K : PySem.W.Frag) (Z : Ad) : Prop where
  fi : ClF K Z.fi "file"
  sp : ClF K Z.sp "sparse"
  di : ClF K Z.di "directory"
  sy : ClF K Z.sy "symlink"
def pbOf (ps : List (Int × List Int)) : List Pb := ps.map fun p => (p.1, byteArr p.2)
def RMb (Z : Ad) : Rep Mb := fun F v b => ∃ x dx kv, v = .ref x ∧ match b with
  | .file n m t ns => F x = some (.ins Z.fi dx (mF n m t kv ++ xF "data" (.byt (byteArr ns))))
  | .dir n m t => F x = some (.ins Z.di dx (mF n m t kv))
  | .sym n m t g => F x = some (.ins Z.sy dx (mF n m t kv ++ xF "target" (.str g)))
  | .spa n m t z ps => ∃ q us, F x = some (.ins Z.sp dx (mF n m t kv ++ xF2 "size" (.int z) "pieces" (.ref q))) ∧ F q = some (.tup us) ∧ Paired (RPb F) us (pbOf ps)
  | .lnk .. => False
theorem mon_RMb {Z : Ad} : Mon (RMb Z) := fun F F' v b e ⟨x, dx, kv, h1, h2⟩ => by
  refine ⟨x, dx, kv, h1, ?_⟩
  cases b with
  | file n m t ns => exact e _ _ h2
  | dir n m t => exact e _ _ h2
  | sym n m t g => exact e _ _ h2
  | spa n m t z ps => obtain ⟨q, us, a, b, c⟩ := h2; exact ⟨q, us, e _ _ a, e _ _ b, mon_RPb.paired e c⟩
  | lnk n m t g => exact h2
def MbOk : Mb → Prop
  | .file n m t ns => PathOk n ∧ MtOk m t ∧ B8 ns ∧ ns.length ≤ 4096
  | .dir n m t => PathOk n ∧ MtOk m t
  | .sym n m t g => PathOk n ∧ MtOk m t ∧ NameOk g
  | .spa n m t z ps => PathOk n ∧ MtOk m t ∧ 0 ≤ z ∧ z ≤ 4096 ∧ PbsOk z (pbOf ps) ∧ (∀ p ∈ ps, B8 p.2) ∧ ps.length ≤ 2
  | .lnk n m t g => PathOk n ∧ MtOk m t ∧ PathOk g
theorem MbOk.nm {b : Mb} (h : MbOk b) : PathOk b.nm := by cases b <;> exact h.1
theorem MbOk.mt {b : Mb} (h : MbOk b) : MtOk b.mo b.ti := by
  cases b with
  | file n m t ns => exact h.2.1
  | dir n m t => exact h.2
  | sym n m t g => exact h.2.1
  | spa n m t z ps => exact h.2.1
  | lnk n m t g => exact h.2.1
/-- a member as its fields are read -/
structure MemV (K : PySem.W.Frag) (H : Hp) (x : Addr) (b : Mb) (C dx : Addr) (fs : List (Str × V)) : Prop where
  hp : H x = some (.ins C dx fs)
  cl : ClF K C b.kd
  nm : fs.lookup ("name" : Str) = some (.str b.nm)
  mo : fs.lookup ("mode" : Str) = some (.int b.mo)
  ti : fs.lookup ("time" : Str) = some (.int b.ti)
  nk : fs.lookup ("KIND" : Str) = none
  nc : fs.lookup ("content" : Str) = none
theorem mF_nm (n : Str) (m t : Int) (kv : V) (l : List (Str × V)) : (mF n m t kv ++ l).lookup ("name" : Str) = some (.str n) := by kernel_rfl
theorem mF_mo (n : Str) (m t : Int) (kv : V) (l : List (Str × V)) : (mF n m t kv ++ l).lookup ("mode" : Str) = some (.int m) := by kernel_rfl
theorem mF_ti (n : Str) (m t : Int) (kv : V) (l : List (Str × V)) : (mF n m t kv ++ l).lookup ("time" : Str) = some (.int t) := by kernel_rfl
theorem mF_k0 (n : Str) (m t : Int) (kv : V) : (mF n m t kv ++ []).lookup ("KIND" : Str) = none := by kernel_rfl
theorem mF_k1 (n : Str) (m t : Int) (kv v : V) : (mF n m t kv ++ xF "data" v).lookup ("KIND" : Str) = none := by kernel_rfl
theorem mF_k2 (n : Str) (m t : Int) (kv v : V) : (mF n m t kv ++ xF "target" v).lookup ("KIND" : Str) = none := by kernel_rfl
theorem mF_k3 (n : Str) (m t : Int) (kv v u : V) : (mF n m t kv ++ xF2 "size" v "pieces" u).lookup ("KIND" : Str) = none := by kernel_rfl
theorem mF_c0 (n : Str) (m t : Int) (kv : V) : (mF n m t kv ++ []).lookup ("content" : Str) = none := by kernel_rfl
theorem mF_c1 (n : Str) (m t : Int) (kv v : V) : (mF n m t kv ++ xF "data" v).lookup ("content" : Str) = none := by kernel_rfl
theorem mF_c2 (n : Str) (m t : Int) (kv v : V) : (mF n m t kv ++ xF "target" v).lookup ("content" : Str) = none := by kernel_rfl
theorem mF_c3 (n : Str) (m t : Int) (kv v u : V) : (mF n m t kv ++ xF2 "size" v "pieces" u).lookup ("content" : Str) = none := by kernel_rfl
theorem mF_d (n : Str) (m t : Int) (kv v : V) : (mF n m t kv ++ xF "data" v).lookup ("data" : Str) = some v := by kernel_rfl
theorem mF_t (n : Str) (m t : Int) (kv v : V) : (mF n m t kv ++ xF "target" v).lookup ("target" : Str) = some v := by kernel_rfl
theorem mF_z (n : Str) (m t : Int) (kv v u : V) : (mF n m t kv ++ xF2 "size" v "pieces" u).lookup ("size" : Str) = some v := by kernel_rfl
theorem mF_p (n : Str) (m t : Int) (kv v u : V) : (mF n m t kv ++ xF2 "size" v "pieces" u).lookup ("pieces" : Str) = some u := by kernel_rfl
theorem memV {K : PySem.W.Frag} {Z : Ad} (T : ClZ K Z) {H : Hp} {v : V} {b : Mb} (h : RMb Z H v b) : ∃ x C dx fs, v = .ref x ∧ MemV K H x b C dx fs := by
  obtain ⟨x, dx, kv, rfl, h⟩ := h
  cases b with
  | file n m t ns => exact ⟨x, _, dx, _, rfl, h, T.fi, mF_nm _ _ _ _ _, mF_mo _ _ _ _ _, mF_ti _ _ _ _ _, mF_k1 _ _ _ _ _, mF_c1 _ _ _ _ _⟩
  | dir n m t => exact ⟨x, _, dx, mF n m t kv ++ [], rfl, by rw [List.append_nil]; exact h, T.di, mF_nm _ _ _ _ _, mF_mo _ _ _ _ _, mF_ti _ _ _ _ _, mF_k0 _ _ _ _, mF_c0 _ _ _ _⟩
  | sym n m t g => exact ⟨x, _, dx, _, rfl, h, T.sy, mF_nm _ _ _ _ _, mF_mo _ _ _ _ _, mF_ti _ _ _ _ _, mF_k2 _ _ _ _ _, mF_c2 _ _ _ _ _⟩
  | spa n m t z ps =>
    obtain ⟨q, us, h, _⟩ := h
    exact ⟨x, _, dx, _, rfl, h, T.sp, mF_nm _ _ _ _ _, mF_mo _ _ _ _ _, mF_ti _ _ _ _ _, mF_k3 _ _ _ _ _ _, mF_c3 _ _ _ _ _ _⟩
  | lnk n m t g => exact h.elim
theorem notLnk {Z : Ad} {H : Hp} {v : V} {b : Mb} (h : RMb Z H v b) : b.kd ≠ "link" := by
  cases b with
  | lnk n m t g => obtain ⟨_, _, _, _, h⟩ := h; exact h.elim
  | file n m t ns => exact (by decide +kernel : ("file" : Str) ≠ "link")
  | dir n m t => exact (by decide +kernel : ("directory" : Str) ≠ "link")
  | sym n m t g => exact (by decide +kernel : ("symlink" : Str) ≠ "link")
  | spa n m t z ps => exact (by decide +kernel : ("sparse" : Str) ≠ "link")
/-! ### contents -/
def conF (f : Array UInt8) (p : Pb) : Array UInt8 := f ++ Array.replicate (p.1 - (f.size : Int)).toNat 0 ++ p.2
def conS (z : Int) (ps : List Pb) : Array UInt8 := ps.foldl conF #[] ++ Array.replicate (z - ((ps.foldl conF #[]).size : Int)).toNat 0
theorem spOk_le : ∀ {ps : List (Int × Int)} {e z : Int}, SpOk e ps z → e ≤ z
  | [], _, _, h => h
  | (o, l) :: r, e, z, h => by
    have := spOk_le h.2.2
    have h1 := h.1
    have h2 := h.2.1
    omega
def spCoF (C : Addr) : Sp := fun vs H Q _ => ∃ x dx fs v, vs = [.ref x] ∧ H x = some (.ins C dx fs) ∧ fs.lookup ("data" : Str) = some v ∧ Q v H
def spCoS (C : Addr) : Sp := fun vs H Q _ => ∃ x dx fs q us z ps, vs = [.ref x] ∧ H x = some (.ins C dx fs) ∧ fs.lookup ("size" : Str) = some (.int z) ∧ fs.lookup ("pieces" : Str) = some (.ref q) ∧ H q = some (.tup us) ∧ Paired (RPb H) us ps ∧ PbsOk z ps ∧ 0 ≤ z ∧ z ≤ 4096 ∧ Q (.byt (conS z ps)) H
section
variable {P : Program} {w : World} {K : PySem.W.Frag} {mg : Str → Option Value} {base : Heap} {C : Addr}
theorem scFC : FnScope ["self"] ["self"] (defScope sFileC) := ⟨rfl, rfl, rfl, by decide +kernel, rfl, by decide +kernel, by decide +kernel⟩
theorem c_fcon {kd : Str} (D : MetX K C "content" "File.content" sFileC ["self"]) (T : ClF K C kd) : C8.Met P w K mg base 1 C "content" (spCoF C) [] := by
  refine D.met scFC (fun vs H Q E h => ?_) (fun f cdv A outer s H vs Q E hr h => ?_)
  · obtain ⟨x, dx, fs, v, rfl, _⟩ := h; rfl
  · obtain ⟨x, dx, fs, v, rfl, hx, hv, k⟩ := h
    exact ⟨_, pss_one (ps_ret (pe_fld (pv 0) rfl)), _, rfl, x, C, dx, _, _, rfl, hx, T.cl, T.nData, hv, k⟩
theorem scSC : FnScope ["self", "found", "offset", "data"] ["self"] (defScope sSpaC) := ⟨rfl, rfl, rfl, by decide +kernel, rfl, by decide +kernel, by decide +kernel⟩
theorem c_scon {kd : Str} (D : MetX K C "content" "Sparse.content" sSpaC ["self"]) (T : ClF K C kd) (B : Bl mg) : C8.Met P w K mg base 1 C "content" (spCoS C) [] := by
  refine D.met scSC (fun vs H Q E h => ?_) (fun f cdv A outer s H vs Q E hr h => ?_)
  · obtain ⟨x, dx, fs, q, us, z, ps, rfl, _⟩ := h; rfl
  · obtain ⟨x, dx, fs, q, us, z, ps, rfl, hx, hz, hp, hq, hus, ⟨h1, h2, h3⟩, z0, z1, k⟩ := h
    refine ⟨_, pss_cons (ps_set (i := 1) scSC.nd rfl (Or.inl rfl) (pe_callTy0 cr_bytes0 (by rfl) B.bytes_ boot_bytes))
      (pss_cons (ps_for PassesOwn.never rfl (pi_tup (pe_fld (pv 0) rfl)) (pg_tup rfl (pgs_cons (pg_name (i := 2) scSC.nd rfl (Or.inl rfl)) (pgs_cons (pg_name (i := 3) scSC.nd rfl (Or.inl rfl)) pgs_nil)))
        (pss_one (ps_set (i := 1) scSC.nd rfl (Or.inl rfl) (pe_op op_add_byt (pe_op op_add_byt (pv 1) (pe_callTy cr_bytesN (by rfl) B.bytes_ boot_bytes (pa_cons (pe_op op_sub (pv 2) (pe_callB call_len (by rfl) B.len_ boot_len (pa_cons (pv 1) pa_nil))) pa_nil))) (pv 3)))))
      (pss_one (ps_ret (pe_op op_add_byt (pv 1) (pe_callTy cr_bytesN (by rfl) B.bytes_ boot_bytes (pa_cons (pe_op op_sub (pe_fld (pv 0) rfl) (pe_callB call_len (by rfl) B.len_ boot_len (pa_cons (pv 1) pa_nil))) pa_nil)))))), ?_⟩
    refine ⟨rfl, _, rfl, x, C, dx, _, _, rfl, hx, T.cl, T.nPieces, hp, q, rfl, ⟨_, SqT.of hq⟩, ?_⟩
    refine for_it (walk_tup (xs := us)) (fun i σ H' => H' = H ∧ ∃ e v2 v3, σ = [some (.ref x), some (.byt ((ps.take i).foldl conF #[])), v2, v3] ∧ SpOk e ((ps.drop i).map spanOf) z ∧ ((((ps.take i).foldl conF #[]).size : Int) = 0 ∧ e = -1 ∨ (((ps.take i).foldl conF #[]).size : Int) = e)) ?_ (fun i σ H' _ h => by rw [h.1]; exact SqT.of hq) ?_ ?_
    · exact ⟨rfl, -1, none, none, rfl, h1, .inl ⟨rfl, rfl⟩⟩
    · rintro i y σ H1 H2 hi ⟨rfl, e, v2, v3, rfl, ho, hsz⟩ ⟨rfl, hy⟩
      obtain ⟨⟨o, b⟩, hb, a, rfl, ha⟩ := Pget hus hy
      have hd : ps.drop i = (o, b) :: ps.drop (i + 1) := by
        rw [List.drop_eq_getElem?_toList_append, hb]; rfl
      rw [hd] at ho
      obtain ⟨g1, g2, g3⟩ : e < o ∧ 1 ≤ (b.size : Int) ∧ SpOk (o + (b.size : Int)) ((ps.drop (i + 1)).map spanOf) z := ho
      have g4 := spOk_le g3
      have hstep : (ps.take (i + 1)).foldl conF #[] = conF ((ps.take i).foldl conF #[]) (o, b) := by
        rw [List.take_succ, hb, List.foldl_append]; rfl
      generalize hf : (ps.take i).foldl conF #[] = fd at *
      have hle : (fd.size : Int) ≤ o := by omega
      have hss : (conF fd (o, b)).size = o.toNat + b.size := by
        unfold conF
        simp only [Array.size_append, Array.size_replicate]
        omega
      refine ⟨a, _, rfl, SqT.of ha, rfl, _, _, rfl, _, _, rfl, rfl, ?_⟩
      refine ⟨_, rfl, _, rfl, _, rfl, _, _, rfl, ⟨Nat.le_trans (show fd.size ≤ 4096 by omega) (by decide), rfl⟩, _, _, rfl, rfl, _, rfl, by omega, by omega, _, _, rfl, rfl, ?_, _, rfl, _, _, rfl, rfl, ?_, ?_⟩
      · simp only [Array.size_replicate]; omega
      · simp only [Array.size_append, Array.size_replicate]; omega
      · refine ⟨rfl, o + (b.size : Int), _, _, by rw [hstep]; rfl, g3, .inr ?_⟩
        rw [hstep, hss]
        omega
    · rintro σ H' ⟨rfl, e, v2, v3, rfl, ho, hsz⟩
      rw [Plen hus, List.take_length] at *
      have ho : e ≤ z := by
        have := spOk_le ho
        exact this
      refine ⟨_, rfl, _, rfl, x, C, dx, _, _, rfl, hx, T.cl, T.nSize, hz, _, rfl, _, _, rfl, ⟨Nat.le_trans (show (ps.foldl conF #[]).size ≤ 4096 by omega) (by decide), rfl⟩, _, _, rfl, rfl, _, rfl, by omega, by omega, _, _, rfl, rfl, ?_, k⟩
      simp only [Array.size_replicate]; omega
end
end L2.K88

end
/-! K88L1 -/
section
set_option Elab.async false
set_option linter.all false
set_option maxRecDepth 100000
set_option maxHeartbeats 4000000
namespace L2.K88
open PySem PySem.Spec PyProof.Rows
abbrev sSource : Stmt := top 52
abbrev sDraw : Stmt := top 53
/-- the drawing list, with room for n draws -/
def Src (H : Hp) (src : Addr) (n : Nat) : Prop := ∃ g m t : Int, H src = some (.lst [.int g, .int m, .int t]) ∧ 0 ≤ g ∧ 0 ≤ m ∧ m < 2 ^ 61 ∧ 0 ≤ t ∧ t + n ≤ 1000000
theorem Src.le {H : Hp} {src : Addr} {n k : Nat} (h : Src H src n) (hk : k ≤ n) : Src H src k := by
  obtain ⟨g, m, t, h1, h2, h3, h4, h5, h6⟩ := h
  exact ⟨g, m, t, h1, h2, h3, h4, h5, by omega⟩
structure Ok (src : Addr) (n : Nat) (F H : Hp) : Prop where
  fh : Same F H
  fs : F src = none
  sr : Src H src n
theorem Ok.le {src : Addr} {n k : Nat} {F H : Hp} (h : Ok src n F H) (hk : k ≤ n) : Ok src k F H := ⟨h.fh, h.fs, h.sr.le hk⟩
theorem Src.obj {H : Hp} {src : Addr} {n : Nat} (h : Src H src n) : ∃ o, H src = some o := by
  obtain ⟨g, m, t, h1, _⟩ := h
  exact ⟨_, h1⟩
theorem Src.keep {H H' : Hp} {src : Addr} {n : Nat} (h : Src H src n) (e : ∀ o, H src = some o → H' src = some o) : Src H' src n := by
  obtain ⟨g, m, t, h1, h2⟩ := h
  exact ⟨g, m, t, e _ h1, h2⟩
theorem Ok.next {src : Addr} {n k : Nat} {F H F' H' : Hp} (h : Ok src n F H) (g : Gr [src] F H F' H') (s : Src H' src k) : Ok src k F' H' := by
  obtain ⟨o, e⟩ := h.sr.obj
  exact ⟨g.fh, g.notF h.fs e, s⟩
theorem Ok.grow {src : Addr} {n : Nat} {F H F' H' : Hp} (h : Ok src n F H) (g : Gr [] F H F' H') : Ok src n F' H' := by
  obtain ⟨o, e⟩ := h.sr.obj
  exact ⟨g.fh, g.notF h.fs e, h.sr.keep fun o e => g.same _ _ e⟩
def spSource (K : PySem.W.Frag) : Sp := fun vs H Q _ => ∃ (a : Addr) (ns : List Int) (i : Int), vs = [.ref a, .int i] ∧ SqL K H a (ns.map V.int) ∧ ns.length ≤ sizeLine ∧ 0 ≤ i ∧ i < 100 ∧ ∀ H' p, Same H H' → H p = none → Src H' p 900000 → Q (.ref p) H'
def spDraw : Sp := fun vs H Q _ => ∃ (src : Addr) (n : Nat) (k : Int) (F : Hp), vs = [.ref src, .int k] ∧ Ok src (n + 1) F H ∧ 1 ≤ k ∧ k ≤ 1000000 ∧ ∀ d H', 0 ≤ d → d < k → Gr [src] F H F H' → Src H' src n → Q (.int d) H'
section
variable {P : Program} {w : World} {K : PySem.W.Frag} {mg : Str → Option Value} {base : Heap}
theorem scSource : FnScope ["_law_script", "_law_at", "_law_cell", "_law_great", "_law_mixed"] ["_law_script", "_law_at"] (defScope sSource) := ⟨rfl, rfl, rfl, by decide +kernel, rfl, by decide +kernel, by decide +kernel⟩
theorem c_source (D : DefX K mg "_law_source" sSource ["_law_script", "_law_at"]) (B : Bl mg) : C8.Cal P w K mg base 1 "_law_source" (spSource K) [] := by
  refine D.cal scSource (fun vs H Q E h => ?_) (fun f cdv A outer s H vs Q E hr h => ?_)
  · obtain ⟨a, ns, i, rfl, _⟩ := h; rfl
  · obtain ⟨a, ns, i, rfl, hS, hz, h1, h2, k⟩ := h
    refine ⟨_, C8.pss_cut (ps_set (i := 2) scSource.nd rfl (Or.inl rfl) (pe_ifExp (pt_cmpR op_lt (pv 1) (pe_callB call_len (by rfl) B.len_ boot_len (pa_cons (pv 0) pa_nil)) (nomark _)) (pe_ix ix_list (pv 0) (pv 1) (fun _ _ => rfl)) pe_int))
      (C8.pss_cut (ps_set (i := 3) scSource.nd rfl (Or.inl rfl) (pe_ifExp (pt_cmpR op_ge (pe_callB call_abs (by rfl) B.abs_ (by decide +kernel) (pa_cons (pv 2) pa_nil)) (pe_op op_pow pe_int pe_int) (nomark _)) (pe_callB call_abs (by rfl) B.abs_ (by decide +kernel) (pa_cons (pv 2) pa_nil)) pe_int))
      (pss_cons (ps_set (i := 4) scSource.nd rfl (Or.inl rfl) (pe_op op_add (pe_op op_add (pe_op op_add (pe_op op_mod (pe_callTy call_int1 (by rfl) B.int_ PyProof.Rows.boot_int (pa_cons (pv 2) pa_nil)) pe_int) (pe_op op_mul (pe_op op_mul pe_int (pv 1)) (pv 1))) (pe_op op_mul pe_int (pv 1))) pe_int))
      (pss_one (ps_ret (pe_lst (pa_cons (pv 3) (pa_cons (pe_op op_mod (pe_callTy call_int1 (by rfl) B.int_ PyProof.Rows.boot_int (pa_cons (pv 4) pa_nil)) pe_int) (pa_cons pe_int pa_nil)))))))), ?_⟩
    refine ⟨fun σ' H' => H' = H ∧ ∃ c : Int, σ' = [some (.ref a), some (.int i), some (.int c), none, none], ?_, ?_⟩
    · refine ⟨_, rfl, _, rfl, _, _, rfl, .inl ⟨_, hS, rfl⟩, _, _, rfl, rfl, _, rfl, ?_⟩
      by_cases hlt : i < ((ns.map V.int).length : Int)
      · refine iT (decide_eq_true hlt) ?_
        rw [List.length_map] at hlt
        obtain ⟨j, rfl⟩ := Int.eq_ofNat_of_zero_le h1
        have hj : j < ns.length := by omega
        refine ⟨_, rfl, _, rfl, a, _, _, .int ns[j], rfl, rfl, hS, ?_, rfl, _, rfl⟩
        exact atI_nat (by rw [List.getElem?_map, List.getElem?_eq_getElem hj]; rfl)
      · exact iF (decide_eq_false hlt) ⟨rfl, 0, rfl⟩
    · rintro σ' H' ⟨rfl, c, rfl⟩
      refine ⟨fun σ' H'' => H'' = H' ∧ ∃ g : Int, 0 ≤ g ∧ σ' = [some (.ref a), some (.int i), some (.int c), some (.int g), none], ?_, ?_⟩
      · refine ⟨_, rfl, _, rfl, _, _, rfl, rfl, ⟨by decide, by decide, by decide⟩, _, _, rfl, rfl, _, rfl, ?_⟩
        refine ite2 (fun _ => ?_) (fun _ => ?_)
        · refine ⟨_, rfl, _, rfl, rfl, _, ?_, rfl⟩
          split <;> omega
        · exact ⟨rfl, 0, Int.le_refl _, rfl⟩
      · rintro σ' H'' ⟨rfl, g, hg, rfl⟩
        have k1 : 9973 * i < 2 ^ 64 := by omega
        refine ⟨_, rfl, .inl ⟨_, rfl, _, _, rfl, rfl, (by show (0 : Int) < 2305843009213693951; decide), _, rfl, _, _, rfl, rfl, .inl ⟨by decide, by decide⟩, _, rfl, _, _, rfl, rfl, .inl ⟨by omega, by omega⟩, _, _, rfl, rfl, _, rfl, _, _, rfl, rfl, .inl ⟨by decide, by decide⟩, _, _, rfl, rfl, _, _, rfl, rfl, ?_⟩⟩
        refine ⟨_, rfl, _, rfl, .inl ⟨_, rfl, _, _, rfl, rfl, (by show (0 : Int) < 2305843009213693951; decide), ?_⟩⟩
        refine ⟨(by show 3 ≤ sizeLine; decide), fun p hp => ?_⟩
        refine k _ p (sameUpd hp) hp ⟨g, _, 0, upd_same, hg, Int.emod_nonneg _ (by decide), ?_, Int.le_refl _, by decide⟩
        exact Int.lt_of_lt_of_le (Int.emod_lt_of_pos _ (by decide)) (by decide)
def prm : List V := [.int 2147483647, .int 2147483629, .int 2147483587, .int 2147483579, .int 2147483563, .int 2147483549, .int 2147483543]
theorem prm_at (t : Int) : ∃ pr : Int, atI prm (t % 7) = some (.int pr) ∧ 0 < pr ∧ pr < 2147483648 := by
  have h1 := Int.emod_nonneg t (show (7 : Int) ≠ 0 by decide)
  have h2 := Int.emod_lt_of_pos t (show (0 : Int) < 7 by decide)
  generalize t % 7 = r at h1 h2
  have : r = 0 ∨ r = 1 ∨ r = 2 ∨ r = 3 ∨ r = 4 ∨ r = 5 ∨ r = 6 := by omega
  rcases this with e | e | e | e | e | e | e <;> subst e <;> exact ⟨_, rfl, by decide, by decide⟩
theorem base_small {m t : Int} (m0 : 0 ≤ m) (m1 : m < 2 ^ 61) (t0 : 0 ≤ t) (t1 : t ≤ 1000000) : ((m + 50021 * t) * (2 * t + 3) + 6151 * t * t).natAbs < 2 ^ 1000 := by
  have h1 : (m + 50021 * t) * (2 * t + 3) ≤ 2 ^ 62 * 2000003 := Int.mul_le_mul (by omega) (by omega) (by omega) (by decide)
  have h2 : 6151 * t * t ≤ 6151000000 * 1000000 := Int.mul_le_mul (by omega) t1 t0 (by decide)
  have h3 : 0 ≤ (m + 50021 * t) * (2 * t + 3) := Int.mul_nonneg (by omega) (by omega)
  have h4 : 0 ≤ 6151 * t * t := Int.mul_nonneg (by omega) t0
  have h5 : ((m + 50021 * t) * (2 * t + 3) + 6151 * t * t).natAbs < 2 ^ 90 := by omega
  exact Nat.lt_of_lt_of_le h5 (Nat.pow_le_pow_right (by decide) (by decide))
theorem scDraw : FnScope ["_law_source_here", "_law_many", "_law_digit", "_law_primes", "_law_turn", "_law_base", "_law_found"] ["_law_source_here", "_law_many"] (defScope sDraw) := ⟨rfl, rfl, rfl, by decide +kernel, rfl, by decide +kernel, by decide +kernel⟩
theorem c_draw (D : DefX K mg "_law_draw" sDraw ["_law_source_here", "_law_many"]) (B : Bl mg) : C8.Cal P w K mg base 1 "_law_draw" spDraw [] := by
  refine D.cal scDraw (fun vs H Q E h => ?_) (fun f cdv A outer s H vs Q E hr h => ?_)
  · obtain ⟨src, n, k, F, rfl, _⟩ := h; rfl
  · obtain ⟨src, n, k, F, rfl, ⟨fh, fs, g, m, t, hS, g0, m0, m1, t0, t1⟩, k1, k2, kk⟩ := h
    refine ⟨_, pss_cons (ps_if (pt_cmpR op_gt (pe_ix ix_list (pv 0) pe_int (fun _ _ => rfl)) pe_int (nomark _))
        (pss_cons (ps_set (i := 2) scDraw.nd rfl (Or.inl rfl) (pe_op op_mod (pe_callTy call_int1 (by rfl) B.int_ PyProof.Rows.boot_int (pa_cons (pe_ix ix_list (pv 0) pe_int (fun _ _ => rfl)) pa_nil)) (pv 1)))
        (pss_cons (ps_asg (pe_op op_fdiv (pe_ix ix_list (pv 0) pe_int (fun _ _ => rfl)) (pv 1)) (pg_sub (pv 0) pe_int set_list))
        (pss_one (ps_ret (pv 2))))) pss_nil)
      (pss_cons (ps_set (i := 3) scDraw.nd rfl (Or.inl rfl) (pe_tup (pa_cons pe_int (pa_cons pe_int (pa_cons pe_int (pa_cons pe_int (pa_cons pe_int (pa_cons pe_int (pa_cons pe_int pa_nil)))))))))
      (pss_cons (ps_asg (pe_op op_add (pe_ix ix_list (pv 0) pe_int (fun _ _ => rfl)) pe_int) (pg_sub (pv 0) pe_int set_list))
      (pss_cons (ps_set (i := 4) scDraw.nd rfl (Or.inl rfl) (pe_ix ix_list (pv 0) pe_int (fun _ _ => rfl)))
      (pss_cons (ps_set (i := 5) scDraw.nd rfl (Or.inl rfl) (pe_op op_add (pe_op op_mul (pe_op op_add (pe_ix ix_list (pv 0) pe_int (fun _ _ => rfl)) (pe_op op_mul pe_int (pv 4))) (pe_op op_add (pe_op op_mul pe_int (pv 4)) pe_int)) (pe_op op_mul (pe_op op_mul pe_int (pv 4)) (pv 4))))
      (pss_cons (ps_set (i := 6) scDraw.nd rfl (Or.inl rfl) (pe_op op_mod (pe_callTy call_int1 (by rfl) B.int_ PyProof.Rows.boot_int (pa_cons (pe_op op_powW (pv 5) pe_int) pa_nil)) (pe_ix ix_tup (pv 3) (pe_op op_mod (pe_callTy call_int1 (by rfl) B.int_ PyProof.Rows.boot_int (pa_cons (pv 4) pa_nil)) pe_int) (fun _ _ => rfl))))
      (pss_cons (ps_set (i := 6) scDraw.nd rfl (Or.inl rfl) (pe_op op_mod (pe_callTy call_int1 (by rfl) B.int_ PyProof.Rows.boot_int (pa_cons (pe_op op_mul (pv 6) (pe_op op_add (pe_op op_add (pe_op op_fdiv (pv 6) pe_int) (pe_op op_mul pe_int (pv 4))) pe_int)) pa_nil)) (pe_ix ix_tup (pv 3) (pe_op op_mod (pe_callTy call_int1 (by rfl) B.int_ PyProof.Rows.boot_int (pa_cons (pe_op op_add (pv 4) pe_int) pa_nil)) pe_int) (fun _ _ => rfl))))
      (pss_one (ps_ret (pe_op op_mod (pe_callTy call_int1 (by rfl) B.int_ PyProof.Rows.boot_int (pa_cons (pe_op op_fdiv (pv 6) pe_int) pa_nil)) (pv 1)))))))))), ?_⟩
    have kp : (0 : Int) < k := by omega
    refine ⟨_, rfl, src, _, 0, _, rfl, rfl, SqL.of hS, rfl, _, _, rfl, rfl, _, rfl, ?_⟩
    refine ite2 (fun hg => ?_) (fun hg => ?_)
    · refine ⟨_, rfl, src, _, 0, _, rfl, rfl, SqL.of hS, rfl, .inl ⟨_, rfl, _, rfl, _, _, rfl, rfl, kp, ?_⟩⟩
      refine ⟨_, rfl, src, _, 0, _, rfl, rfl, SqL.of hS, rfl, _, rfl, _, _, rfl, rfl, ⟨kp, by omega⟩, _, rfl, src, _, 0, 0, rfl, rfl, hS, rfl, _, rfl, ?_⟩
      refine kk _ _ (Int.emod_nonneg _ (by omega)) (Int.emod_lt_of_pos _ kp) ((Gr.refl fh).mut (.inr (by simp)) fs) ?_
      exact ⟨g / k, m, t, upd_same, Int.ediv_nonneg g0 (by omega), m0, m1, t0, by omega⟩
    · refine ⟨(by show 7 ≤ sizeLine; decide), fun tp ht => ?_⟩
      have nst : src ≠ tp := ne_of_none hS ht
      have hS1 : upd H tp (.tup prm) src = some (.lst [.int g, .int m, .int t]) := by rw [upd_ne nst]; exact hS
      refine ⟨_, rfl, src, _, 2, _, rfl, rfl, SqL.of hS1, rfl, _, _, rfl, rfl, _, rfl, src, _, 2, 2, rfl, rfl, hS1, rfl, ?_⟩
      have hS2 : upd (upd H tp (.tup prm)) src (.lst [.int g, .int m, .int (t + 1)]) src = some (.lst [.int g, .int m, .int (t + 1)]) := upd_same
      have hT2 : upd (upd H tp (.tup prm)) src (.lst [.int g, .int m, .int (t + 1)]) tp = some (.tup prm) := by rw [upd_ne nst.symm]; exact upd_same
      have g2 : Gr [src] F H F (upd (upd H tp (.tup prm)) src (.lst [.int g, .int m, .int (t + 1)])) := ((Gr.refl fh).raw ht).mut (.inr (by simp)) fs
      obtain ⟨p1, q1, q2, q3⟩ := prm_at (t + 1)
      obtain ⟨p2, r1, r2, r3⟩ := prm_at (t + 1 + 2)
      refine ⟨_, rfl, src, _, 2, _, rfl, rfl, SqL.of hS2, rfl, ?_⟩
      have k3 : 6151 * (t + 1) < 2 ^ 64 := by omega
      refine ⟨_, rfl, src, _, 1, _, rfl, rfl, SqL.of hS2, rfl, _, rfl, _, _, rfl, rfl, .inl ⟨by decide, by decide⟩, _, _, rfl, rfl, _, rfl, _, _, rfl, rfl, .inl ⟨by decide, by decide⟩, _, _, rfl, rfl, _, _, rfl, rfl, .inl ⟨by omega, by omega⟩, _, rfl, _, _, rfl, rfl, .inl ⟨by decide, by decide⟩, _, rfl, _, _, rfl, rfl, .inl ⟨by omega, by omega⟩, _, _, rfl, rfl, ?_⟩
      refine ⟨_, rfl, _, _, rfl, rfl, ⟨by decide, by decide, base_small m0 m1 (by omega) (by omega)⟩, .inl ⟨_, rfl, _, rfl, _, rfl, .inl ⟨_, rfl, _, _, rfl, rfl, (by show (0 : Int) < 7; decide), tp, _, _, _, rfl, rfl, SqT.of hT2, q1, _, _, rfl, rfl, q2, ?_⟩⟩⟩
      have f0 := Int.emod_nonneg ((((m + 50021 * (t + 1)) * (2 * (t + 1) + 3) + 6151 * (t + 1) * (t + 1)) ^ (3 : Int).toNat)) (show p1 ≠ 0 by omega)
      have f1 := Int.emod_lt_of_pos ((((m + 50021 * (t + 1)) * (2 * (t + 1) + 3) + 6151 * (t + 1) * (t + 1)) ^ (3 : Int).toNat)) q2
      refine ⟨_, rfl, _, rfl, _, _, rfl, rfl, ⟨by decide, by decide⟩, _, rfl, _, _, rfl, rfl, .inl ⟨by decide, by decide⟩, _, _, rfl, rfl, _, _, rfl, rfl, _, _, rfl, rfl, .inl ⟨by omega, by omega⟩, .inl ⟨_, rfl, _, rfl, _, rfl, _, _, rfl, rfl, .inl ⟨_, rfl, _, _, rfl, rfl, (by show (0 : Int) < 7; decide), tp, _, _, _, rfl, rfl, SqT.of hT2, r1, _, _, rfl, rfl, r2, ?_⟩⟩⟩
      refine ⟨_, rfl, _, _, rfl, rfl, ⟨by decide, by decide⟩, .inl ⟨_, rfl, _, rfl, _, _, rfl, rfl, kp, ?_⟩⟩
      refine kk _ _ (Int.emod_nonneg _ (by omega)) (Int.emod_lt_of_pos _ kp) g2 ?_
      exact ⟨g, m, t + 1, hS2, g0, m0, m1, by omega, by omega⟩
end
end L2.K88

end
/-! K88R4 -/
section
set_option Elab.async false
set_option linter.all false
set_option maxRecDepth 100000
set_option maxHeartbeats 4000000
/-! == and != of a list against an empty one -/
namespace L2.K88
open PySem PySem.Spec PyProof.Rows
section
variable {X : Cx}
def rEqNil (K : PySem.W.Frag) : R2 := fun x y H Q => ∃ a b xs, x = .ref a ∧ y = .ref b ∧ SqL K H a xs ∧ SqL K H b [] ∧ Q (.bl xs.isEmpty) H
def rNeNil (K : PySem.W.Frag) : R2 := fun x y H Q => ∃ a b xs, x = .ref a ∧ y = .ref b ∧ SqL K H a xs ∧ SqL K H b [] ∧ Q (.bl (!xs.isEmpty)) H
theorem op_eqNil (hu : X.A.units + 1 < cLine) : OpR X (compareOp .Eq) (rEqNil X.K) := by
  intro pins s σ H x y v u Q I rx ry h
  obtain ⟨a, b, xs, rfl, rfl, ha, hb, q⟩ := h
  cases xs with
  | nil => exact eqL_run I (A := X.A) (F := fun _ _ => False) (by omega) (fun _ _ _ _ h => h.elim) ⟨a, b, [], [], rfl, rfl, .inl ⟨ha, hb⟩, .nil⟩ rx ry _ _ ⟨.bl true, H, I, rfl, q⟩
  | cons z r =>
    cases (show v = Value.ref a from rx)
    cases (show u = Value.ref b from ry)
    obtain ⟨us, r1, p1, _⟩ := I.list ha
    obtain ⟨ws, r2, p2, _⟩ := I.list hb
    have hsz : (us.toArray.size != ws.toArray.size) = true := by
      rw [List.size_toArray, List.size_toArray, ← r1.length, ← r2.length]
      rfl
    exact SeqAt.RcAt.lists_lengths p1.isList p2.isList hsz (by omega) X.prog X.w X.xe _ ⟨.bl false, H, I, rfl, q⟩
theorem op_neNil (hu : X.A.units + 1 < cLine) : OpR X (compareOp .NotEq) (rNeNil X.K) := by
  intro pins s σ H x y v u Q I rx ry h
  obtain ⟨a, b, xs, rfl, rfl, ha, hb, q⟩ := h
  cases (show v = Value.ref a from rx)
  cases (show u = Value.ref b from ry)
  obtain ⟨us, r1, p1, _⟩ := I.list ha
  obtain ⟨ws, r2, p2, _⟩ := I.list hb
  cases xs with
  | nil =>
    have hsz : us.toArray.size = ws.toArray.size := by
      rw [List.size_toArray, List.size_toArray, ← r1.length, ← r2.length]
    have hz : us.toArray.size = 0 := by
      rw [List.size_toArray, ← r1.length]; rfl
    refine SeqAt.RcNeAt.lists (e := fun _ => true) p1.isList p2.isList hsz (by omega) (fun j h1 h2 => ?_) X.prog X.w X.xe _ ?_
    · rw [hz] at h1; exact absurd h1 (Nat.not_lt_zero _)
    · rw [hz]; exact ⟨.bl false, H, I, rfl, q⟩
  | cons z r =>
    have hsz : (us.toArray.size != ws.toArray.size) = true := by
      rw [List.size_toArray, List.size_toArray, ← r1.length, ← r2.length]
      rfl
    exact SeqAt.RcNeAt.lists_lengths p1.isList p2.isList hsz (by omega) X.prog X.w X.xe _ ⟨.bl true, H, I, rfl, q⟩
end
end L2.K88

end
/-! K88L2 -/
section
set_option Elab.async false
set_option linter.all false
set_option maxRecDepth 100000
set_option maxHeartbeats 4000000
namespace L2.K88
open PySem PySem.Spec PyProof.Rows
abbrev sPath : Stmt := top 54
abbrev sNums : Stmt := top 55
abbrev sLStamps : Stmt := top 56
abbrev sLPieces : Stmt := top 57
/-! ### one of a written list -/
theorem atI_ok {α : Type} {xs : List α} {d : Int} (h0 : 0 ≤ d) (h1 : d < xs.length) : ∃ v, v ∈ xs ∧ atI xs d = some v := by
  obtain ⟨j, rfl⟩ := Int.eq_ofNat_of_zero_le h0
  have hj : j < xs.length := by omega
  exact ⟨xs[j], List.getElem_mem hj, atI_nat (List.getElem?_eq_getElem hj)⟩
theorem atI_map {α : Type} (f : α → V) {xs : List α} {d : Int} (h0 : 0 ≤ d) (h1 : d < xs.length) : ∃ v, v ∈ xs ∧ atI (xs.map f) d = some (f v) := by
  obtain ⟨j, rfl⟩ := Int.eq_ofNat_of_zero_le h0
  have hj : j < xs.length := by omega
  exact ⟨xs[j], List.getElem_mem hj, atI_nat (by rw [List.getElem?_map, List.getElem?_eq_getElem hj]; rfl)⟩
def PartS (z : Str) : Prop := PartOk (cz z)
instance (z : Str) : Decidable (PartS z) := by unfold PartS PartOk; infer_instance
def six : List Str := ["a", "b", "c", "a.b", "..c", "d-1"]
theorem six_ok : ∀ z ∈ six, PartS z ∧ z.length ≤ 3 := by decide +kernel
def qq : Str := Txt.mul "q" 101
theorem qq_ok : PartS qq ∧ qq.length ≤ 101 := by decide +kernel
/-- a list of parts -/
structure PartL (zs : List Str) (n : Nat) : Prop where
  ok : ∀ z ∈ zs, PartS z
  sm : (zs.map (·.length)).sum + zs.length ≤ n
theorem PartL.snoc {zs : List Str} {n k : Nat} {z : Str} (h : PartL zs n) (hz : PartS z) (hl : z.length + 1 ≤ k) : PartL (zs ++ [z]) (n + k) := by
  refine ⟨fun y hy => ?_, ?_⟩
  · rcases List.mem_append.mp hy with h1 | h1
    · exact h.ok y h1
    · rw [List.mem_singleton] at h1; rw [h1]; exact hz
  · have := h.sm
    simp only [List.map_append, List.sum_append, List.map_cons, List.map_nil, List.sum_cons, List.sum_nil, List.length_append, List.length_cons, List.length_nil]
    omega
theorem PartL.path {zs : List Str} (h : PartL zs 251) (hn : zs ≠ []) : PathOk (Txt.join slash zs) := by
  have e : zs = (zs.map cz).map SX.S := by
    rw [List.map_map]
    conv => lhs; rw [← List.map_id zs]
    exact List.map_congr_left fun z _ => (S_cz z).symm
  have e2 : Txt.join slash zs = SX.S (TL.joinL [47] (zs.map cz)) := by
    conv => lhs; rw [e, slash_eq]
    exact SX.join_S _ _
  rw [e2]
  refine path_of (by simpa using hn) (fun p hp => ?_) ?_
  · obtain ⟨z, hz, rfl⟩ := List.mem_map.mp hp
    exact h.ok z hz
  · have := h.sm
    rw [List.map_map, List.length_map]
    have e3 : zs.map (List.length ∘ cz) = zs.map (·.length) := List.map_congr_left fun z _ => cz_len z
    rw [e3]
    exact this
def spPath : Sp := fun vs H Q _ => ∃ (src : Addr) (n : Nat) (F : Hp), vs = [.ref src] ∧ Ok src (n + 5) F H ∧ ∀ z H', PathOk z → Gr [src] F H F H' → Src H' src n → Q (.str z) H'
def spNums : Sp := fun vs H Q _ => ∃ (src : Addr) (n : Nat) (F : Hp), vs = [.ref src] ∧ Ok src (n + 601) F H ∧ ∀ v ns F' H', RNs F' v ns → B8 ns → ns.length ≤ 600 → Gr [src] F H F' H' → Src H' src n → Q v H'
def spLStamps : Sp := fun vs H Q _ => ∃ (src : Addr) (n : Nat) (F : Hp), vs = [.ref src] ∧ Ok src (n + 2) F H ∧ ∀ p m t H', H' p = some (.tup [.int m, .int t]) → H p = none → MtOk m t → Gr [src] F H F H' → Src H' src n → Q (.ref p) H'
section
variable {P : Program} {w : World} {K : PySem.W.Frag} {mg : Str → Option Value} {base : Heap}
theorem scPath : FnScope ["_law_source_here", "_law_parts", "_law_turn"] ["_law_source_here"] (defScope sPath) := ⟨rfl, rfl, rfl, by decide +kernel, rfl, by decide +kernel, by decide +kernel⟩
theorem c_path (D : DefX K mg "_law_path" sPath ["_law_source_here"]) (B : Bl mg) (cD : C8.Cal P w K mg base 1 "_law_draw" spDraw []) : C8.Cal P w K mg base 2 "_law_path" spPath [] := by
  refine D.cal scPath (fun vs H Q E h => ?_) (fun f cdv A outer s H vs Q E hr h => ?_)
  · obtain ⟨src, n, F, rfl, _⟩ := h; rfl
  · obtain ⟨src, n, F, rfl, O, k⟩ := h
    refine ⟨_, pss_cons (ps_setLc (i := 1) (own := [("_law_turn", 2)]) (g := gName 2) (tt := tYes) rfl scPath.nd rfl rfl (sw_true rfl rfl rfl (by decide +kernel)) (pi_range1 (by rfl) B.range_ (pa_cons (pe_op op_add pe_int (C8.pe_c cD hr (by decide) (by rfl) (pa_cons (pv 0) (pa_cons pe_int pa_nil)))) pa_nil)) (blkOk_by (N := ["_law_source_here", "_law_parts", "_law_turn"]) (sc := defScope sPath) (by decide +kernel)) (fun _ _ _ _ _ => pg_name (i := 2) scPath.nd rfl (Or.inl rfl)) (fun _ _ _ _ _ => pts_nil)
        (fun _ _ _ _ _ => pe_ix (ix_list : IxR _ (rIxL K)) (pe_lst (pa_cons pe_str (pa_cons pe_str (pa_cons pe_str (pa_cons pe_str (pa_cons pe_str (pa_cons pe_str pa_nil))))))) (C8.pe_c cD hr (by decide) (by rfl) (pa_cons (pv 0) (pa_cons pe_int pa_nil))) (fun _ _ => rfl)))
      (C8.pss_cut (ps_if (pt_cmpR op_eq (C8.pe_c cD hr (by decide) (by rfl) (pa_cons (pv 0) (pa_cons pe_int pa_nil))) pe_int (nomark _)) (pss_one (ps_expr (pe_bm PySem.F.plainAttrs_list PySem.F.slot_list_append PySem.F.type_list_append mt_append (pv 1) (pa_cons (pe_op op_mulStr pe_str pe_int) pa_nil)))) pss_nil)
      (pss_one (ps_ret (pe_join pe_str (pv 1))))), ?_⟩
    refine ⟨_, rfl, src, n + 4, 3, F, rfl, O, by decide, by decide, fun d H1 d0 d1 g1 s1 => ?_⟩
    have O1 := O.next g1 s1
    refine ⟨_, _, rfl, rfl, 1 + d, rfl, by omega, by omega, fun D hD => ?_⟩
    have hDs : src ≠ D := by
      obtain ⟨o, e⟩ := s1.obj
      exact ne_of_none e hD
    have gD := g1.raw (o := .lst []) hD
    have hD0 : H D = none := g1.dom _ hD
    refine lc_it (walk_range (lo := 0) (n := (1 + d).toNat)) (fun i H' => ∃ zs, Gr [src] F H F H' ∧ Src H' src (n + 1 + (3 - i)) ∧ H' D = some (.lst (zs.map V.str)) ∧ PartL zs (4 * i) ∧ zs.length = i) ?_ (fun i H' _ h => True.intro) ?_ ?_
    · exact ⟨[], gD, s1.keep fun o e => by rw [upd_ne hDs]; exact e, upd_same, ⟨by simp, by simp⟩, rfl⟩
    · rintro i x H2 H3 hi ⟨zs, g2, s2, hD2, hpl, hln⟩ ⟨rfl, rfl⟩
      have hi3 : i < 3 := by omega
      refine ⟨rfl, (by show 6 ≤ sizeLine; decide), fun l hl => ?_⟩
      have hsl : src ≠ l := by
        obtain ⟨o, e⟩ := s2.obj
        exact ne_of_none e hl
      have hDl : D ≠ l := ne_of_none hD2 hl
      have g3 := g2.raw (o := .lst (six.map V.str)) hl
      have s3 : Src (upd H3 l (.lst (six.map V.str))) src (n + 1 + (3 - i)) := s2.keep fun o e => by rw [upd_ne hsl]; exact e
      refine ⟨_, rfl, src, n + 1 + (3 - (i + 1)), 6, F, rfl, (O.next g3 s3).le (by omega), by decide, by decide, fun d' H4 e0 e1 g4 s4 => ?_⟩
      obtain ⟨z, hz, hat⟩ := atI_map V.str (xs := six) e0 e1
      refine ⟨l, _, _, _, rfl, rfl, SqL.of (g4.keep (by simp [hsl.symm]) upd_same), hat, ?_⟩
      have hD4 : H4 D = some (.lst (zs.map V.str)) := g4.keep (by simp [hDs.symm]) (by rw [upd_ne hDl]; exact hD2)
      have g5 := g3.trans g4
      have fD : F D = none := O.fh.free hD0
      refine ⟨_, hD4, ?_, zs ++ [z], g5.mut (.inl hD0) fD, s4.keep fun o e => by rw [upd_ne hDs]; exact e, ?_, ?_, ?_⟩
      · rw [List.length_map, hln]; exact Nat.lt_of_lt_of_le hi3 (by decide)
      · rw [upd_same, List.map_append]; rfl
      · have h6 := six_ok z hz
        have := hpl.snoc (k := 4) h6.1 (by omega)
        rw [show 4 * (i + 1) = 4 * i + 4 by omega]
        exact this
      · rw [List.length_append, hln]; rfl
    · rintro H2 ⟨zs, g2, s2, hD2, hpl, hln⟩
      have fD : F D = none := O.fh.free hD0
      refine ⟨fun σ' H' => ∃ zs', σ' = [some (.ref src), some (.ref D), none] ∧ Gr [src] F H F H' ∧ Src H' src n ∧ H' D = some (.lst (zs'.map V.str)) ∧ PartL zs' 251 ∧ zs' ≠ [], ?_, ?_⟩
      · refine ⟨_, rfl, src, n, 12, F, rfl, (O.next g2 s2).le (by omega), by decide, by decide, fun d' H3 e0 e1 g3 s3 => ?_⟩
        have hD3 : H3 D = some (.lst (zs.map V.str)) := g3.keep (by simp [hDs.symm]) hD2
        have g4 := g2.trans g3
        have hnz : zs ≠ [] := fun z => by rw [z] at hln; simp at hln; omega
        refine ⟨rfl, _, rfl, ite2 (fun _ => ?_) (fun _ => ?_)⟩
        · refine ⟨_, rfl, .inl ⟨rfl, _, SqL.of hD3⟩, "q", 101, rfl, rfl, ?_, D, _, _, rfl, rfl, hD3, ?_, ?_⟩
          · exact mulOk_of 1 101 (by decide +kernel) (by decide) (by decide) (by decide) (by decide)
          · rw [List.length_map, hln]; exact Nat.lt_of_le_of_lt (show (1 + d).toNat ≤ 3 by omega) (by decide)
          · refine ⟨zs ++ [qq], rfl, g4.mut (.inl hD0) fD, s3.keep fun o e => by rw [upd_ne hDs]; exact e, ?_, ?_, by simp⟩
            · rw [upd_same, List.map_append]; rfl
            · have := hpl.snoc (k := 102) qq_ok.1 (by have := qq_ok.2; omega)
              exact ⟨this.ok, Nat.le_trans this.sm (by omega)⟩
        · exact ⟨zs, rfl, g4, s3, hD3, ⟨hpl.ok, Nat.le_trans hpl.sm (by omega)⟩, hnz⟩
      · rintro σ' H' ⟨zs', rfl, g3, s3, hD3, hpl3, hnz⟩
        refine ⟨⟨_, rfl⟩, _, rfl, slash, D, zs', rfl, rfl, .inl (SqL.of hD3), ?_, k _ _ (hpl3.path hnz) g3 s3⟩
        have := hpl3.sm
        rw [show slash.length = 1 by decide +kernel]
        omega
theorem scNums : FnScope ["_law_source_here", "_law_many", "_law_turn"] ["_law_source_here"] (defScope sNums) := ⟨rfl, rfl, rfl, by decide +kernel, rfl, by decide +kernel, by decide +kernel⟩
def manys : List Int := [0, 1, 2, 3, 5, 600]
theorem manys_ok : ∀ m ∈ manys, 0 ≤ m ∧ m ≤ 600 := by decide +kernel
def byts : List Int := [0, 1, 65, 255]
theorem byts_ok : ∀ m ∈ byts, 0 ≤ m ∧ m < 256 := by decide +kernel
theorem c_nums (D : DefX K mg "_law_numbers" sNums ["_law_source_here"]) (B : Bl mg) (cD : C8.Cal P w K mg base 1 "_law_draw" spDraw []) : C8.Cal P w K mg base 2 "_law_numbers" spNums [] := by
  refine D.cal scNums (fun vs H Q E h => ?_) (fun f cdv A outer s H vs Q E hr h => ?_)
  · obtain ⟨src, n, F, rfl, _⟩ := h; rfl
  · obtain ⟨src, n, F, rfl, O, k⟩ := h
    refine ⟨_, pss_cons (ps_set (i := 1) scNums.nd rfl (Or.inl rfl) (pe_ix ix_list (pe_lst (pa_cons pe_int (pa_cons pe_int (pa_cons pe_int (pa_cons pe_int (pa_cons pe_int (pa_cons pe_int pa_nil))))))) (C8.pe_c cD hr (by decide) (by rfl) (pa_cons (pv 0) (pa_cons pe_int pa_nil))) (fun _ _ => rfl)))
      (pss_one (ps_ret (pe_lc (own := [("_law_turn", 2)]) (g := gName 2) (tt := tYes) rfl scNums.nd (pi_range1 (by rfl) B.range_ (pa_cons (pv 1) pa_nil)) (blkOk_by (N := ["_law_source_here", "_law_many", "_law_turn"]) (sc := defScope sNums) (by decide +kernel)) (fun _ _ _ _ _ => pg_name (i := 2) scNums.nd rfl (Or.inl rfl)) (fun _ _ _ _ _ => pts_nil)
        (fun _ _ _ _ _ => pe_ix (ix_list : IxR _ (rIxL K)) (pe_lst (pa_cons pe_int (pa_cons pe_int (pa_cons pe_int (pa_cons pe_int pa_nil))))) (C8.pe_c cD hr (by decide) (by rfl) (pa_cons (pv 0) (pa_cons pe_int pa_nil))) (fun _ _ => rfl))))), ?_⟩
    refine ⟨(by show 6 ≤ sizeLine; decide), fun l hl => ?_⟩
    have g0 := (Gr.refl (S := [src]) O.fh).raw (o := .lst (manys.map V.int)) hl
    have hsl : src ≠ l := by
      obtain ⟨o, e⟩ := O.sr.obj
      exact ne_of_none e hl
    refine ⟨_, rfl, src, n + 600, 6, F, rfl, O.next g0 (O.sr.keep fun o e => by rw [upd_ne hsl]; exact e), by decide, by decide, fun d H1 d0 d1 g1 s1 => ?_⟩
    obtain ⟨many, hm, hat⟩ := atI_map V.int (xs := manys) d0 d1
    obtain ⟨m0, m1⟩ := manys_ok many hm
    refine ⟨l, _, _, _, rfl, rfl, SqL.of (g1.keep (by simp [hsl.symm]) upd_same), hat, ?_⟩
    have g01 := g0.trans g1
    refine ⟨_, rfl, many, rfl, by omega, by omega, fun D hD => ?_⟩
    have hDs : src ≠ D := by
      obtain ⟨o, e⟩ := s1.obj
      exact ne_of_none e hD
    have gD := g01.raw (o := .lst []) hD
    have hD0 : H D = none := g01.dom _ hD
    have fD : F D = none := O.fh.free hD0
    have hmn : many.toNat ≤ 600 := by omega
    refine lc_it (walk_range (lo := 0) (n := many.toNat)) (fun i H' => ∃ zs : List Int, Gr [src] F H F H' ∧ Src H' src (n + (600 - i)) ∧ H' D = some (.lst (zs.map V.int)) ∧ B8 zs ∧ zs.length = i) ?_ (fun i H' _ h => True.intro) ?_ ?_
    · exact ⟨[], gD, s1.keep fun o e => by rw [upd_ne hDs]; exact e, upd_same, fun z hz => by simp at hz, rfl⟩
    · rintro i x H2 H3 hi ⟨zs, g2, s2, hD2, hb, hln⟩ ⟨rfl, rfl⟩
      refine ⟨rfl, (by show 4 ≤ sizeLine; decide), fun l hl => ?_⟩
      have hsl : src ≠ l := by
        obtain ⟨o, e⟩ := s2.obj
        exact ne_of_none e hl
      have hDl : D ≠ l := ne_of_none hD2 hl
      have g3 := g2.raw (o := .lst (byts.map V.int)) hl
      have s3 : Src (upd H3 l (.lst (byts.map V.int))) src (n + (600 - i)) := s2.keep fun o e => by rw [upd_ne hsl]; exact e
      refine ⟨_, rfl, src, n + (600 - (i + 1)), 4, F, rfl, (O.next g3 s3).le (by omega), by decide, by decide, fun d' H4 e0 e1 g4 s4 => ?_⟩
      obtain ⟨z, hz, hat⟩ := atI_map V.int (xs := byts) e0 e1
      refine ⟨l, _, _, _, rfl, rfl, SqL.of (g4.keep (by simp [hsl.symm]) upd_same), hat, ?_⟩
      have hD4 : H4 D = some (.lst (zs.map V.int)) := g4.keep (by simp [hDs.symm]) (by rw [upd_ne hDl]; exact hD2)
      have g5 := g3.trans g4
      refine ⟨_, hD4, ?_, zs ++ [z], g5.mut (.inl hD0) fD, s4.keep fun o e => by rw [upd_ne hDs]; exact e, ?_, ?_, ?_⟩
      · rw [List.length_map, hln]; exact Nat.lt_of_lt_of_le (show i < 600 by omega) (by decide)
      · rw [upd_same, List.map_append]; rfl
      · exact B8.app hb fun y hy => by rw [List.mem_singleton] at hy; rw [hy]; exact byts_ok z hz
      · rw [List.length_append, hln]; rfl
    · rintro H2 ⟨zs, g2, s2, hD2, hb, hln⟩
      exact k (.ref D) zs _ H2 ⟨D, rfl, upd_same⟩ hb (by omega) (g2.seal hD0 fD hD2) (s2.le (by omega))
theorem scLStamps : FnScope ["_law_source_here"] ["_law_source_here"] (defScope sLStamps) := ⟨rfl, rfl, rfl, by decide +kernel, rfl, by decide +kernel, by decide +kernel⟩
def bits : List Int := [420, 493, 0, 4095]
theorem bits_ok : ∀ m ∈ bits, 0 ≤ m ∧ m ≤ 4095 := by decide +kernel
def times : List Int := [0, 7, 8589934591]
theorem times_ok : ∀ m ∈ times, 0 ≤ m ∧ m ≤ 8589934591 := by decide +kernel
theorem c_lstamps (D : DefX K mg "_law_stamps" sLStamps ["_law_source_here"]) (cD : C8.Cal P w K mg base 1 "_law_draw" spDraw []) : C8.Cal P w K mg base 2 "_law_stamps" spLStamps [] := by
  refine D.cal scLStamps (fun vs H Q E h => ?_) (fun f cdv A outer s H vs Q E hr h => ?_)
  · obtain ⟨src, n, F, rfl, _⟩ := h; rfl
  · obtain ⟨src, n, F, rfl, O, k⟩ := h
    refine ⟨_, pss_one (ps_ret (pe_tup (pa_cons (pe_ix ix_list (pe_lst (pa_cons pe_int (pa_cons pe_int (pa_cons pe_int (pa_cons pe_int pa_nil))))) (C8.pe_c cD hr (by decide) (by rfl) (pa_cons (pv 0) (pa_cons pe_int pa_nil))) (fun _ _ => rfl))
      (pa_cons (pe_ix ix_list (pe_lst (pa_cons pe_int (pa_cons pe_int (pa_cons pe_int pa_nil)))) (C8.pe_c cD hr (by decide) (by rfl) (pa_cons (pv 0) (pa_cons pe_int pa_nil))) (fun _ _ => rfl)) pa_nil)))), ?_⟩
    refine ⟨(by show 4 ≤ sizeLine; decide), fun l hl => ?_⟩
    have hsl : src ≠ l := by
      obtain ⟨o, e⟩ := O.sr.obj
      exact ne_of_none e hl
    have g0 := (Gr.refl (S := [src]) O.fh).raw (o := .lst (bits.map V.int)) hl
    refine ⟨_, rfl, src, n + 1, 4, F, rfl, O.next g0 (O.sr.keep fun o e => by rw [upd_ne hsl]; exact e), by decide, by decide, fun d H1 d0 d1 g1 s1 => ?_⟩
    obtain ⟨m, hm, hat⟩ := atI_map V.int (xs := bits) d0 d1
    refine ⟨l, _, _, _, rfl, rfl, SqL.of (g1.keep (by simp [hsl.symm]) upd_same), hat, ?_⟩
    have g2 := g0.trans g1
    refine ⟨(by show 3 ≤ sizeLine; decide), fun l2 hl2 => ?_⟩
    have hsl2 : src ≠ l2 := by
      obtain ⟨o, e⟩ := s1.obj
      exact ne_of_none e hl2
    have g3 := g2.raw (o := .lst (times.map V.int)) hl2
    refine ⟨_, rfl, src, n, 3, F, rfl, O.next g3 (s1.keep fun o e => by rw [upd_ne hsl2]; exact e), by decide, by decide, fun d' H2 e0 e1 g4 s4 => ?_⟩
    obtain ⟨t, ht, hat2⟩ := atI_map V.int (xs := times) e0 e1
    refine ⟨l2, _, _, _, rfl, rfl, SqL.of (g4.keep (by simp [hsl2.symm]) upd_same), hat2, ?_⟩
    refine ⟨(by show 2 ≤ sizeLine; decide), fun q hq => ?_⟩
    have hsq : src ≠ q := by
      obtain ⟨o, e⟩ := s4.obj
      exact ne_of_none e hq
    have g5 := (g3.trans g4).raw (o := .tup [.int m, .int t]) hq
    have b := bits_ok m hm
    have c := times_ok t ht
    exact k q m t _ upd_same ((g3.trans g4).dom _ hq) ⟨b.1, b.2, c.1, c.2⟩ g5 (s4.keep fun o e => by rw [upd_ne hsq]; exact e)
end
end L2.K88

end
/-! K88L3 -/
section
set_option Elab.async false
set_option linter.all false
set_option maxRecDepth 100000
set_option maxHeartbeats 4000000
namespace L2.K88
open PySem PySem.Spec PyProof.Rows
def SpaOk (z : Int) (ps : List (Int × List Int)) : Prop := 0 ≤ z ∧ z ≤ 4096 ∧ PbsOk z (pbOf ps) ∧ (∀ p ∈ ps, B8 p.2) ∧ ps.length ≤ 2
def spLPieces : Sp := fun vs H Q _ => ∃ (src : Addr) (n : Nat) (F : Hp), vs = [.ref src] ∧ Ok src (n + 5) F H ∧ ∀ p z u ps F' H', F' p = some (.tup [.int z, u]) → RL RPc F' u ps → SpaOk z ps → Gr [src] F H F' H' → Src H' src n → Q (.ref p) H'
theorem spOk_up : ∀ {ps : List (Int × Int)} {e z z' : Int}, SpOk e ps z → z ≤ z' → SpOk e ps z'
  | [], _, _, _, h, h' => Int.le_trans h h'
  | (o, l) :: r, e, z, z', h, h' => ⟨h.1, h.2.1, spOk_up h.2.2 h'⟩
def pcs (one two o2 : Int) : List (Int × List Int) := [(one, List.replicate two.toNat 7), (o2, [9, 0])]
def spsL (ps : List (Int × List Int)) : List (Int × Int) := ps.map fun p => (p.1, (p.2.length : Int))
theorem sps_eq (ps : List (Int × List Int)) : (pbOf ps).map spanOf = spsL ps := by
  unfold pbOf spsL
  rw [List.map_map]
  exact List.map_congr_left fun p _ => by
    show (p.1, ((byteArr p.2).size : Int)) = (p.1, (p.2.length : Int))
    rw [byteArr_size]
theorem spa_ok {z : Int} {ps : List (Int × List Int)} (h0 : 0 ≤ z) (h1 : z ≤ 4096) (hs : SpOk (-1) (spsL ps) z) (hb : ∀ p ∈ ps, B8 p.2 ∧ 1 ≤ p.2.length ∧ p.2.length ≤ 10) (hl : ps.length ≤ 2) : SpaOk z ps := by
  refine ⟨h0, h1, ⟨by rw [sps_eq]; exact hs, by unfold pbOf; rw [List.length_map]; omega, fun p hp => ?_⟩, fun p hp => (hb p hp).1, hl⟩
  unfold pbOf at hp
  obtain ⟨q, hq, rfl⟩ := List.mem_map.mp hp
  have h := hb q hq
  show 1 ≤ (byteArr q.2).size ∧ (byteArr q.2).size ≤ sizeLine
  rw [byteArr_size]
  exact ⟨h.2.1, Nat.le_trans h.2.2 (by decide)⟩
theorem rep7 (k : Nat) : (List.replicate k [V.int 7]).flatten = (List.replicate k (7 : Int)).map V.int := by
  induction k with
  | zero => rfl
  | succ k ih => rw [List.replicate_succ, List.replicate_succ, List.flatten_cons, ih]; rfl
theorem b8_7 (k : Nat) : B8 (List.replicate k (7 : Int)) := fun n h => by rw [(List.mem_replicate.mp h).2]; exact ⟨by decide, by decide⟩
theorem b8_90 : B8 [9, 0] := fun n h => by
  have : n = 9 ∨ n = 0 := by simpa using h
  rcases this with e | e <;> rw [e] <;> exact ⟨by decide, by decide⟩
section
variable {P : Program} {w : World} {K : PySem.W.Frag} {mg : Str → Option Value} {base : Heap}
theorem scLPieces : FnScope ["_law_source_here", "_law_one", "_law_two", "_law_pieces_here", "_law_end"] ["_law_source_here"] (defScope sLPieces) := ⟨rfl, rfl, rfl, by decide +kernel, rfl, by decide +kernel, by decide +kernel⟩
theorem c_lpieces (D : DefX K mg "_law_pieces" sLPieces ["_law_source_here"]) (B : Bl mg) (cD : C8.Cal P w K mg base 1 "_law_draw" spDraw []) : C8.Cal P w K mg base 2 "_law_pieces" spLPieces [] := by
  refine D.cal scLPieces (fun vs H Q E h => ?_) (fun f cdv A outer s H vs Q E hr h => ?_)
  · obtain ⟨src, n, F, rfl, _⟩ := h; rfl
  · obtain ⟨src, n, F, rfl, O, k⟩ := h
    have hu := hu_of hr
    refine ⟨_, pss_cons (ps_par (i := 1) (j := 2) (by rfl) scLPieces.nd rfl rfl (by decide) rfl rfl (pa_cons (C8.pe_c cD hr (by decide) (by rfl) (pa_cons (pv 0) (pa_cons pe_int pa_nil))) (pa_cons (pe_op op_add pe_int (C8.pe_c cD hr (by decide) (by rfl) (pa_cons (pv 0) (pa_cons pe_int pa_nil)))) pa_nil)) (by rfl))
      (pss_cons (ps_set (i := 3) scLPieces.nd rfl (Or.inl rfl) (pe_slice sl_list (pe_lst (pa_cons (pe_tup (pa_cons (pv 1) (pa_cons (pe_op op_rep (pe_lst (pa_cons pe_int pa_nil)) (pv 2)) pa_nil)))
          (pa_cons (pe_tup (pa_cons (pe_op op_add (pe_op op_add (pe_op op_add (pv 1) (pv 2)) pe_int) (C8.pe_c cD hr (by decide) (by rfl) (pa_cons (pv 0) (pa_cons pe_int pa_nil)))) (pa_cons (pe_lst (pa_cons pe_int (pa_cons pe_int pa_nil))) pa_nil))) pa_nil)))
          po_none (po_some (C8.pe_c cD hr (by decide) (by rfl) (pa_cons (pv 0) (pa_cons pe_int pa_nil))))))
      (C8.pss_cut (ps_set (i := 4) scLPieces.nd rfl (Or.inl rfl) (pe_ifExp (pt_cmpR (op_neNil hu) (pv 3) (pe_lst pa_nil) (nomark _))
          (pe_op op_add (pe_ix ix_tup (pe_ix ix_list (pv 3) (pe_un un_neg pe_int) (fun _ _ => rfl)) pe_int (fun _ _ => rfl)) (pe_callB call_len (by rfl) B.len_ boot_len (pa_cons (pe_ix ix_tup (pe_ix ix_list (pv 3) (pe_un un_neg pe_int) (fun _ _ => rfl)) pe_int (fun _ _ => rfl)) pa_nil))) pe_int))
      (pss_one (ps_ret (pe_tup (pa_cons (pe_op op_add (pv 4) (pe_ix ix_list (pe_lst (pa_cons pe_int (pa_cons pe_int (pa_cons pe_int pa_nil)))) (C8.pe_c cD hr (by decide) (by rfl) (pa_cons (pv 0) (pa_cons pe_int pa_nil))) (fun _ _ => rfl))) (pa_cons (pv 3) pa_nil))))))), ?_⟩
    have sk : ∀ {H' H'' : Hp} {n : Nat} {q : Addr} {o : HO}, Src H' src n → H' q = none → Src (upd H' q o) src n := fun {H' H'' n q o} s hq => s.keep fun u e => by rw [upd_ne (ne_of_none e hq)]; exact e
    refine ⟨_, rfl, src, n + 4, 4, F, rfl, O, by decide, by decide, fun one H1 a0 a1 g1 s1 => ?_⟩
    refine ⟨_, rfl, src, n + 3, 3, F, rfl, O.next g1 s1, by decide, by decide, fun d2 H2 b0 b1 g2 s2 => ?_⟩
    have g12 := g1.trans g2
    refine ⟨_, _, rfl, rfl, _, _, rfl, ?_⟩
    refine ⟨_, rfl, (by show 1 ≤ sizeLine; decide), fun l1 hl1 => ?_⟩
    have g3 := g12.raw (o := .lst [.int 7]) hl1
    have s3 := sk (H'' := H2) (o := .lst [.int 7]) s2 hl1
    refine ⟨_, rfl, l1, 1 + d2, [.int 7], rfl, rfl, upd_same, by omega, by omega, ?_, fun l2 hl2 => ?_⟩
    · exact Nat.le_trans (show 1 * (1 + d2).toNat ≤ 3 by omega) (by decide)
    rw [rep7]
    have g4 := g3.new (o := .lst ((List.replicate (1 + d2).toNat (7 : Int)).map V.int)) hl2
    have s4 := sk (H'' := H2) (o := .lst ((List.replicate (1 + d2).toNat (7 : Int)).map V.int)) s3 hl2
    refine ⟨(by show 2 ≤ sizeLine; decide), fun t1 ht1 => ?_⟩
    have g5 := g4.new (o := .tup [.int one, .ref l2]) ht1
    have s5 := sk (H'' := H2) (o := .tup [.int one, .ref l2]) s4 ht1
    have F2 : ∀ F' : Hp, Same (upd (upd F l2 (.lst ((List.replicate (1 + d2).toNat (7 : Int)).map V.int))) t1 (.tup [.int one, .ref l2])) F' → RPc F' (.ref t1) (one, List.replicate (1 + d2).toNat 7) := fun F' e =>
      ⟨t1, .ref l2, rfl, e _ _ upd_same, l2, rfl, e _ _ (by rw [upd_ne (ne_of_none (show upd F l2 _ l2 = some _ from upd_same) (g4.fh.free ht1))]; exact upd_same)⟩
    refine ⟨_, rfl, _, rfl, _, _, rfl, rfl, _, _, rfl, rfl, _, rfl, src, n + 2, 600, _, rfl, O.next g5 s5, by decide, by decide, fun d3 H3 c0 c1 g6 s6 => ?_⟩
    have g56 := g5.trans g6
    refine ⟨_, _, rfl, rfl, (by show 2 ≤ sizeLine; decide), fun l3 hl3 => ?_⟩
    have g7 := g56.new (o := .lst ([9, 0].map V.int)) hl3
    have s7 := sk (H'' := H2) (o := .lst ([9, 0].map V.int)) s6 hl3
    refine ⟨(by show 2 ≤ sizeLine; decide), fun t2 ht2 => ?_⟩
    have g8 := g7.new (o := .tup [.int (one + (1 + d2) + 1 + d3), .ref l3]) ht2
    have s8 := sk (H'' := H2) (o := .tup [.int (one + (1 + d2) + 1 + d3), .ref l3]) s7 ht2
    have R1a : RPc (upd (upd (upd (upd F l2 (.lst ((List.replicate (1 + d2).toNat (7 : Int)).map V.int))) t1 (.tup [.int one, .ref l2])) l3 (.lst ([9, 0].map V.int))) t2 (.tup [.int (one + (1 + d2) + 1 + d3), .ref l3])) (.ref t1) (one, List.replicate (1 + d2).toNat 7) := F2 _ ((sameUpd (g56.fh.free hl3)).trans (sameUpd (g7.fh.free ht2)))
    have R2a : RPc (upd (upd (upd (upd F l2 (.lst ((List.replicate (1 + d2).toNat (7 : Int)).map V.int))) t1 (.tup [.int one, .ref l2])) l3 (.lst ([9, 0].map V.int))) t2 (.tup [.int (one + (1 + d2) + 1 + d3), .ref l3])) (.ref t2) (one + (1 + d2) + 1 + d3, [9, 0]) :=
      ⟨t2, .ref l3, rfl, upd_same, l3, rfl, by rw [upd_ne (ne_of_none (o := .lst ([9, 0].map V.int)) upd_same (g7.fh.free ht2))]; exact upd_same⟩
    generalize hF8 : upd (upd (upd (upd F l2 (.lst ((List.replicate (1 + d2).toNat (7 : Int)).map V.int))) t1 (.tup [.int one, .ref l2])) l3 (.lst ([9, 0].map V.int))) t2 (.tup [.int (one + (1 + d2) + 1 + d3), .ref l3]) = F8 at g8 R1a R2a
    refine ⟨(by show 2 ≤ sizeLine; decide), fun L hL => ?_⟩
    have g9 := g8.raw (o := .lst [.ref t1, .ref t2]) hL
    have s9 := sk (H'' := H2) (o := .lst [.ref t1, .ref t2]) s8 hL
    have hLs : src ≠ L := by
      obtain ⟨o, e⟩ := s8.obj
      exact ne_of_none e hL
    refine ⟨_, rfl, src, n + 1, 3, _, rfl, O.next g9 s9, by decide, by decide, fun d H4 e0 e1 g10 s10 => ?_⟩
    refine ⟨_, rfl, L, _, rfl, SqL.of (g10.keep (by simp [hLs.symm]) upd_same), fun p hp => ?_⟩
    have g11 := (g9.trans g10).new (o := .lst (cutV [.ref t1, .ref t2] none (some d))) hp
    have s11 := sk (H'' := H2) (o := .lst (cutV [.ref t1, .ref t2] none (some d))) s10 hp
    have R1 : ∀ F', Same F8 F' → RPc F' (.ref t1) (one, List.replicate (1 + d2).toNat 7) := fun F' e => mon_RPc _ _ _ _ e R1a
    have R2 : ∀ F', Same F8 F' → RPc F' (.ref t2) (one + (1 + d2) + 1 + d3, [9, 0]) := fun F' e => mon_RPc _ _ _ _ e R2a
    have hb1 : B8 (List.replicate (1 + d2).toNat (7 : Int)) ∧ 1 ≤ (List.replicate (1 + d2).toNat (7 : Int)).length ∧ (List.replicate (1 + d2).toNat (7 : Int)).length ≤ 10 := ⟨b8_7 _, by rw [List.length_replicate]; omega, by rw [List.length_replicate]; omega⟩
    have hlen1 : ((List.replicate (1 + d2).toNat (7 : Int)).length : Int) = 1 + d2 := by rw [List.length_replicate]; omega
    have sF := sameUpd (F := F8) (o := .lst (cutV [.ref t1, .ref t2] none (some d))) ((g9.trans g10).fh.free hp)
    refine ⟨fun σ' H' => ∃ (e : Int) (ps : List (Int × List Int)) (F' : Hp), σ' = [some (.ref src), some (.int one), some (.int (1 + d2)), some (.ref p), some (.int e)] ∧ Gr [src] F H F' H' ∧ Src H' src (n + 1) ∧ RL RPc F' (.ref p) ps ∧ 0 ≤ e ∧ e ≤ 1000 ∧ SpOk (-1) (spsL ps) e ∧ (∀ p ∈ ps, B8 p.2 ∧ 1 ≤ p.2.length ∧ p.2.length ≤ 10) ∧ ps.length ≤ 2, ?_, ?_⟩
    · have hd : d = 0 ∨ d = 1 ∨ d = 2 := by omega
      rcases hd with rfl | rfl | rfl
      · refine ⟨_, rfl, (by show 0 ≤ sizeLine; decide), fun z hz => ?_⟩
        have hpz : p ≠ z := ne_of_none upd_same hz
        refine ⟨p, z, [], rfl, rfl, SqL.of (by rw [upd_ne hpz]; exact upd_same), SqL.of upd_same, _, rfl, iF rfl ?_⟩
        exact ⟨0, [], _, rfl, g11.raw hz, sk (H'' := H2) s11 hz, ⟨p, [], rfl, upd_same, .nil⟩, by decide, by decide, (by decide : (-1 : Int) ≤ 0), fun p hp => by simp at hp, by decide⟩
      · refine ⟨_, rfl, (by show 0 ≤ sizeLine; decide), fun z hz => ?_⟩
        have hpz : p ≠ z := ne_of_none upd_same hz
        have g12' := g11.raw (o := .lst []) hz
        have hpl : upd (upd H4 p (.lst [.ref t1])) z (.lst []) p = some (.lst [.ref t1]) := by rw [upd_ne hpz]; exact upd_same
        obtain ⟨_, _, ea, hta, _, eb, hla⟩ := R1 _ sF
        cases ea
        cases eb
        refine ⟨p, z, [.ref t1], rfl, rfl, SqL.of hpl, SqL.of upd_same, _, rfl, iT rfl ?_⟩
        refine ⟨_, rfl, _, rfl, p, _, -1, .ref t1, rfl, rfl, SqL.of hpl, rfl, t1, _, 0, _, rfl, rfl, SqT.of (g12'.fh _ _ hta), rfl, _, rfl, _, rfl, p, _, -1, .ref t1, rfl, rfl, SqL.of hpl, rfl, t1, _, 1, _, rfl, rfl, SqT.of (g12'.fh _ _ hta), rfl, _, _, rfl, .inl ⟨_, SqL.of (g12'.fh _ _ hla), rfl⟩, _, _, rfl, rfl, ?_⟩
        refine ⟨_, [(one, List.replicate (1 + d2).toNat 7)], _, rfl, g12', sk (H'' := H2) s11 hz, ⟨p, _, rfl, upd_same, .cons (R1 _ sF) .nil⟩, ?_, ?_, ?_, fun q hq => ?_, (by show 1 ≤ 2; decide)⟩
        · rw [List.length_map, hlen1]; omega
        · rw [List.length_map, hlen1]; omega
        · rw [List.length_map, hlen1]
          exact ⟨by omega, by rw [hlen1]; omega, by rw [hlen1]; exact Int.le_refl _⟩
        · rw [List.mem_singleton] at hq; rw [hq]; exact hb1
      · refine ⟨_, rfl, (by show 0 ≤ sizeLine; decide), fun z hz => ?_⟩
        have hpz : p ≠ z := ne_of_none upd_same hz
        have g12' := g11.raw (o := .lst []) hz
        have hpl : upd (upd H4 p (.lst [.ref t1, .ref t2])) z (.lst []) p = some (.lst [.ref t1, .ref t2]) := by rw [upd_ne hpz]; exact upd_same
        obtain ⟨_, _, ea, hta, _, eb, hla⟩ := R2 _ sF
        cases ea
        cases eb
        refine ⟨p, z, [.ref t1, .ref t2], rfl, rfl, SqL.of hpl, SqL.of upd_same, _, rfl, iT rfl ?_⟩
        refine ⟨_, rfl, _, rfl, p, _, -1, .ref t2, rfl, rfl, SqL.of hpl, rfl, t2, _, 0, _, rfl, rfl, SqT.of (g12'.fh _ _ hta), rfl, _, rfl, _, rfl, p, _, -1, .ref t2, rfl, rfl, SqL.of hpl, rfl, t2, _, 1, _, rfl, rfl, SqT.of (g12'.fh _ _ hta), rfl, _, _, rfl, .inl ⟨_, SqL.of (g12'.fh _ _ hla), rfl⟩, _, _, rfl, rfl, ?_⟩
        refine ⟨_, [(one, List.replicate (1 + d2).toNat 7), (one + (1 + d2) + 1 + d3, [9, 0])], _, rfl, g12', sk (H'' := H2) s11 hz, ⟨p, _, rfl, upd_same, .cons (R1 _ sF) (.cons (R2 _ sF) .nil)⟩, ?_, ?_, ?_, fun q hq => ?_, (by show 2 ≤ 2; decide)⟩
        · show 0 ≤ one + (1 + d2) + 1 + d3 + 2; omega
        · show one + (1 + d2) + 1 + d3 + 2 ≤ 1000; omega
        · exact ⟨by omega, by rw [hlen1]; omega, by rw [hlen1]; omega, (by show (1 : Int) ≤ 2; decide), Int.le_refl _⟩
        · rcases List.mem_cons.mp hq with e | e
          · rw [e]; exact hb1
          · rw [List.mem_singleton] at e; rw [e]; exact ⟨b8_90, (by show 1 ≤ 2; decide), (by show 2 ≤ 10; decide)⟩
    · rintro σ' H' ⟨e, ps, F', rfl, g, s, hps, z0, z1, hs, hb, hl⟩
      refine ⟨_, rfl, (by show 3 ≤ sizeLine; decide), fun l hl' => ?_⟩
      have hsl : src ≠ l := by
        obtain ⟨o, e⟩ := s.obj
        exact ne_of_none e hl'
      have g' := g.raw (o := .lst ([0, 1, 30].map V.int)) hl'
      refine ⟨_, rfl, src, n, 3, F', rfl, O.next g' (sk (H'' := H2) s hl'), by decide, by decide, fun d' H5 f0 f1 g2' s2' => ?_⟩
      obtain ⟨t, ht, hat⟩ := atI_map V.int (xs := ([0, 1, 30] : List Int)) f0 f1
      have htb : 0 ≤ t ∧ t ≤ 30 := by
        have : t = 0 ∨ t = 1 ∨ t = 30 := by simpa using ht
        omega
      refine ⟨l, _, _, _, rfl, rfl, SqL.of (g2'.keep (by simp [hsl.symm]) upd_same), hat, _, _, rfl, rfl, _, rfl, (by show 2 ≤ sizeLine; decide), fun q hq => ?_⟩
      have g3' := (g'.trans g2').new (o := .tup [.int (e + t), .ref p]) hq
      exact k q (e + t) (.ref p) ps _ _ upd_same (mon_RL mon_RPc _ _ _ _ (sameUpd ((g'.trans g2').fh.free hq)) hps) (spa_ok (by omega) (by omega) (spOk_up hs (by omega)) hb hl) g3' (sk (H'' := H2) s2' hq)
end
end L2.K88

end
/-! K88P12 -/
section
set_option Elab.async false
set_option linter.all false
set_option maxRecDepth 100000
set_option maxHeartbeats 4000000
namespace L2.K88
open PySem PySem.Spec PyProof.Rows
abbrev sPutAt : Stmt := top 47
abbrev sPutM : Stmt := top 48
abbrev sUnOne : Stmt := top 49
abbrev sUnp : Stmt := top 50
/-! ### the mirror -/
def conB : Mb → Array UInt8
  | .file _ _ _ ns => byteArr ns
  | .spa _ _ _ z ps => conS z (pbOf ps)
  | _ => #[]
def rwMb : Mb → Rw
  | .file n m t ns => .fil (byteArr ns) m t
  | .dir _ m t => .dir m t
  | .sym _ m t g => .sym g m t
  | .spa n m t z ps => .fil (conS z (pbOf ps)) m t
  | .lnk _ _ _ g => .lnk g
def upAb (h : Hs) (qs : List Str) : Hs := qs.foldl (fun h q => if kdAt h.ats q = "absent" then setT h q (.dir 493 0) else h) h
def putH (h : Hs) (b : Mb) : Hs := setT (upAb h (aboves b.nm)) b.nm (rwMb b)
def runH (h : Hs) (ms : List Mb) : Hs := ms.foldl putH h
def FitK (k : Str) : Mb → Prop
  | .dir .. => k ≠ "file" ∧ k ≠ "symlink"
  | _ => k ≠ "directory"
def Fits (a : At) (b : Mb) : Prop := (∀ q ∈ aboves b.nm, kdAt a q = "absent" ∨ kdAt a q = "directory") ∧ FitK (kdAt a b.nm) b
def GoodL : Hs → List Mb → Prop
  | _, [] => True
  | h, b :: r => Fits h.ats b ∧ GoodL (putH h b) r
structure MadeX (K : PySem.W.Frag) (mg : Str → Option Value) : Prop where
  ex : ∃ a, mg "MADE" = some (.ref a) ∧ ∀ H, SqT K H a (Rw.dir 493 0).vs
/-! ### promises -/
def spRefAt (K : PySem.W.Frag) (Z : Ad) : Sp := fun vs H Q _ => ∃ (F : Hp) (p : Addr) (a : At) (v : V) (b : Mb) (u : Str), vs = [.ref p, .str b.nm, v, .str u] ∧ Same F H ∧ HsR K Z.ho F H p a ∧ RMb Z F v b ∧ FitK (kdAt a b.nm) b ∧ ∀ H', Same H H' → Q (.str "") H'
def spRefusal (K : PySem.W.Frag) (Z : Ad) : Sp := fun vs H Q _ => ∃ (F : Hp) (p : Addr) (a : At) (v : V) (b : Mb), vs = [.ref p, v] ∧ Same F H ∧ HsR K Z.ho F H p a ∧ RMb Z F v b ∧ MbOk b ∧ Fits a b ∧ ∀ H', Same H H' → Q (.str "") H'
def spPutAt (K : PySem.W.Frag) (Z : Ad) : Sp := fun vs H Q _ => ∃ (F : Hp) (p dx ds df : Addr) (h : Hs) (v : V) (b : Mb) (u : Str), vs = [.ref p, .str b.nm, v, .str u] ∧ Same F H ∧ HsM K Z.ho F H p dx ds df h ∧ RMb Z F v b ∧ MbOk b ∧ h.ats.length + 300 < 100000 ∧ h.fls.length < 100000 ∧
  ∀ F' H', Gr [ds, df] F H F' H' → HsM K Z.ho F' H' p dx ds df (putH h b) → (∀ o, H p = some o → H' p = some o) → Q .non H'
def spPutM (K : PySem.W.Frag) (Z : Ad) : Sp := fun vs H Q _ => ∃ (F : Hp) (p dx ds df : Addr) (h : Hs) (v : V) (b : Mb), vs = [.ref p, v] ∧ Same F H ∧ HsM K Z.ho F H p dx ds df h ∧ RMb Z F v b ∧ MbOk b ∧ h.ats.length + 300 < 100000 ∧ h.fls.length < 100000 ∧
  ∀ F' H', Gr [ds, df] F H F' H' → HsM K Z.ho F' H' p dx ds df (putH h b) → (∀ o, H p = some o → H' p = some o) → Q .non H'
def spUnOne (K : PySem.W.Frag) (Z : Ad) : Sp := fun vs H Q _ => ∃ (F : Hp) (p dx ds df : Addr) (h : Hs) (i : Int) (v : V) (b : Mb), vs = [.ref p, .int i, v] ∧ Same F H ∧ HsM K Z.ho F H p dx ds df h ∧ RMb Z F v b ∧ MbOk b ∧ Fits h.ats b ∧ h.ats.length + 300 < 100000 ∧ h.fls.length < 100000 ∧
  ∀ F' H', Gr [ds, df] F H F' H' → HsM K Z.ho F' H' p dx ds df (putH h b) → (∀ o, H p = some o → H' p = some o) → Q .non H'
def spUnp (K : PySem.W.Frag) (Z : Ad) : Sp := fun vs H Q _ => ∃ (F : Hp) (p l : Addr) (h : Hs) (us : List V) (ms : List Mb), vs = [.ref p, .ref l] ∧ Same F H ∧ SrcHs K Z.ho F H p h ∧ HsW h ∧ H l = some (.lst us) ∧ Paired (RMb Z F) us ms ∧ (∀ b ∈ ms, MbOk b) ∧ GoodL h ms ∧ h.ats.length + 300 * ms.length + 300 < 100000 ∧ h.fls.length + ms.length < 100000 ∧
  ∀ F' H' q, NewHs K Z.ho F H F' H' q (runH h ms) → Q (.ref q) H'
theorem HsM.r {K : PySem.W.Frag} {C : Addr} {F H : Hp} {p dx ds df : Addr} {h : Hs} (M : HsM K C F H p dx ds df h) : HsR K C F H p h.ats := by
  obtain ⟨⟨r, e1⟩, ⟨kvs, e2, e3⟩, _⟩ := M
  exact ⟨dx, ds, df, r, kvs, e1, e2, e3⟩
theorem HsM.src {K : PySem.W.Frag} {C : Addr} {F H : Hp} {p dx ds df : Addr} {h : Hs} (M : HsM K C F H p dx ds df h) : SrcHs K C F H p h := by
  obtain ⟨⟨r, e1⟩, ⟨kvs, e2, e3⟩, ⟨vs, e4, e5⟩, _, _, _, _, nd⟩ := M
  exact ⟨dx, ds, df, r, kvs, vs, e1, e2, e3, e4, e5, nd⟩
theorem hn_kind (ds df r : Addr) : (hF ds df r).lookup ("kind_at" : Str) = none := by kernel_rfl
theorem hn_copied (ds df r : Addr) : (hF ds df r).lookup ("copied" : Str) = none := by kernel_rfl
/-! ### plain facts -/
theorem upAb_len : ∀ (qs : List Str) (h : Hs), (upAb h qs).ats.length ≤ h.ats.length + qs.length ∧ (upAb h qs).fls = h.fls
  | [], h => ⟨Nat.le_refl _, rfl⟩
  | q :: qs, h => by
    show (upAb (if kdAt h.ats q = "absent" then setT h q (.dir 493 0) else h) qs).ats.length ≤ h.ats.length + (qs.length + 1) ∧ _
    by_cases e : kdAt h.ats q = "absent"
    · have h1 := upAb_len qs (setT h q (.dir 493 0))
      have h2 := (len_set h q (.dir 493 0)).1
      refine ⟨?_, ?_⟩
      · rw [if_pos e]; omega
      · show (upAb (if kdAt h.ats q = "absent" then setT h q (.dir 493 0) else h) qs).fls = _
        rw [if_pos e]; exact h1.2
    · have h1 := upAb_len qs h
      refine ⟨?_, ?_⟩
      · rw [if_neg e]; omega
      · show (upAb (if kdAt h.ats q = "absent" then setT h q (.dir 493 0) else h) qs).fls = _
        rw [if_neg e]; exact h1.2
theorem ab_len (z : Str) : (aboves z).length ≤ z.length := by
  unfold aboves
  rw [List.length_map, List.length_range]
  have := pz_len z
  omega
theorem putH_len (h : Hs) {b : Mb} (o : MbOk b) : (putH h b).ats.length ≤ h.ats.length + 251 ∧ (putH h b).fls.length ≤ h.fls.length + 1 := by
  have h1 := upAb_len (aboves b.nm) h
  have h2 := len_set (upAb h (aboves b.nm)) b.nm (rwMb b)
  have h3 := ab_len b.nm
  have h4 := o.nm.1.2.1
  rw [h1.2] at h2
  unfold putH
  omega
theorem upAb_w : ∀ (qs : List Str) (h : Hs), HsW h → HsW (upAb h qs)
  | [], h, w => w
  | q :: qs, h, w => by
    show HsW (upAb (if kdAt h.ats q = "absent" then setT h q (.dir 493 0) else h) qs)
    by_cases e : kdAt h.ats q = "absent"
    · rw [if_pos e]; exact upAb_w qs _ (w_set w _ _)
    · rw [if_neg e]; exact upAb_w qs _ w
theorem putH_w {h : Hs} (w : HsW h) (b : Mb) : HsW (putH h b) := w_set (upAb_w _ _ w) _ _
theorem runH_w : ∀ (ms : List Mb) {h : Hs}, HsW h → HsW (runH h ms)
  | [], _, w => w
  | b :: ms, h, w => runH_w ms (putH_w w b)
theorem runH_len : ∀ (ms : List Mb) (h : Hs), (∀ b ∈ ms, MbOk b) → (runH h ms).ats.length ≤ h.ats.length + 300 * ms.length ∧ (runH h ms).fls.length ≤ h.fls.length + ms.length
  | [], h, _ => ⟨Nat.le_refl _, Nat.le_refl _⟩
  | b :: ms, h, o => by
    have h1 := putH_len h (o b (by simp))
    have h2 := runH_len ms (putH h b) fun b' hb => o b' (List.mem_cons_of_mem _ hb)
    show (runH (putH h b) ms).ats.length ≤ h.ats.length + 300 * (ms.length + 1) ∧ (runH (putH h b) ms).fls.length ≤ h.fls.length + (ms.length + 1)
    omega
theorem goodL_at : ∀ {ms : List Mb} {h : Hs} {i : Nat} {b : Mb}, GoodL h ms → ms[i]? = some b → Fits (runH h (ms.take i)).ats b
  | [], _, _, _, _, e => by simp at e
  | m :: ms, h, 0, b, g, e => by
    simp at e
    subst e
    exact g.1
  | m :: ms, h, i + 1, b, g, e => by
    have := goodL_at (h := putH h m) g.2 (show ms[i]? = some b by simpa using e)
    exact this
theorem inV2 {p a b : Str} (h : p = a ∨ p = b) : inV (.str p) [.str a, .str b] = true := by
  show (eqV _ _ || (eqV _ _ || false)) = true
  rcases h with h | h
  · rw [show eqV (.str a) (.str p) = true from beq_iff_eq.mpr h.symm]; rfl
  · rw [show eqV (.str b) (.str p) = true from beq_iff_eq.mpr h.symm]; simp
theorem notIn2 {p a b : Str} (h : p ≠ a ∧ p ≠ b) : inV (.str p) [.str a, .str b] = false := by
  have e : ∀ a : Str, p ≠ a → eqV (.str a) (.str p) = false := fun a n => beq_eq_false_iff_ne.mpr fun z => n z.symm
  show (eqV _ _ || (eqV _ _ || false)) = false
  rw [e _ h.1, e _ h.2]
  rfl
theorem vstr_ne {a b : Str} (h : a ≠ b) : decide (V.str a = V.str b) = false := decide_eq_false fun z => h (V.str.inj z)
theorem vstr_eq {a b : Str} (h : a = b) : decide (V.str a = V.str b) = true := decide_eq_true (congrArg V.str h)
section
variable {P : Program} {w : World} {K : PySem.W.Frag} {mg : Str → Option Value} {base : Heap} {Z : Ad}
theorem scRefAt : FnScope ["house", "path", "member", "target", "standing"] ["house", "path", "member", "target"] (defScope sRefAt) := ⟨rfl, rfl, rfl, by decide +kernel, rfl, by decide +kernel, by decide +kernel⟩
theorem c_refusal_at (D : DefX K mg "refusal_at" sRefAt ["house", "path", "member", "target"]) (T : ClZ K Z) (cK : C8.Met P w K mg base 2 Z.ho "kind_at" (spKind K Z.ho) []) : C8.Cal P w K mg base 3 "refusal_at" (spRefAt K Z) [] := by
  refine D.cal scRefAt (fun vs H Q E h => ?_) (fun f cdv A outer s H vs Q E hr h => ?_)
  · obtain ⟨F, p, a, v, b, u, rfl, _⟩ := h; rfl
  · obtain ⟨F, p, a, v, b, u, rfl, fh, hR, hM, hF0, k⟩ := h
    refine ⟨_, pss_cons (ps_set (i := 4) scRefAt.nd rfl (Or.inl rfl) (C8.pe_mt cK hr (by decide) (pv 0) (pa_cons (pv 1) pa_nil)))
      (pss_cons (ps_if (pt_cmpR op_eq (pe_con (pv 2) rfl) pe_str (nomark _)) (pss_one (ps_ret (pe_ifExp (pt_cmpR op_in_seq (pv 4) (pe_tup (pa_cons pe_str (pa_cons pe_str pa_nil))) (by rfl)) pe_str pe_str))) pss_nil)
      (pss_cons (ps_if (pt_cmpR op_eq (pv 4) pe_str (nomark _)) pss_never pss_nil)
      (pss_cons (ps_if (PW.pt (pw_and (pt_cmpR op_eq (pe_con (pv 2) rfl) pe_str (nomark _)) (pw_and1 pt_no))) pss_never pss_nil)
      (pss_one (ps_ret pe_str))))), ?_⟩
    obtain ⟨x, C, dx, fs, rfl, V1⟩ := memV T (mon_RMb _ _ _ _ fh hM)
    obtain ⟨u0, hcon⟩ := V1.cl.con
    obtain ⟨dx0, ds0, df0, r0, kvs, e1, e2, e3⟩ := id hR
    refine ⟨_, rfl, p, dx0, _, rfl, e1, hn_kind _ _ _, _, rfl, F, p, a, b.nm, rfl, fh, hR, ?_⟩
    refine ⟨_, rfl, x, C, dx, fs, _, u0, rfl, V1.hp, V1.cl.cl, hcon, V1.nk, rfl, _, rfl, ?_⟩
    have nl := notLnk hM
    have rest : b.kd ≠ "directory" → FitK (kdAt a b.nm) b → _ := fun hk hf => vstr_ne hk
    cases b with
    | dir n m t =>
      refine iT (vstr_eq rfl) ?_
      obtain ⟨f1, f2⟩ := hF0
      refine ⟨_, rfl, (by show 2 ≤ sizeLine; decide), fun q hq => ⟨q, _, rfl, .inr (SqT.of upd_same), rfl, rfl, _, rfl, iF (notIn2 ⟨f1, f2⟩) (k _ (sameUpd hq))⟩⟩
    | lnk n m t g => exact absurd rfl nl
    | file n m t ns =>
      refine iF (vstr_ne (by decide +kernel : ("file" : Str) ≠ "directory")) ⟨_, rfl, rfl, _, rfl, iF (vstr_ne hF0) ?_⟩
      exact ⟨_, rfl, x, C, dx, fs, _, u0, rfl, V1.hp, V1.cl.cl, hcon, V1.nk, rfl, _, rfl, iF (vstr_ne nl) (k _ (Same.refl _))⟩
    | sym n m t g =>
      refine iF (vstr_ne (by decide +kernel : ("symlink" : Str) ≠ "directory")) ⟨_, rfl, rfl, _, rfl, iF (vstr_ne hF0) ?_⟩
      exact ⟨_, rfl, x, C, dx, fs, _, u0, rfl, V1.hp, V1.cl.cl, hcon, V1.nk, rfl, _, rfl, iF (vstr_ne nl) (k _ (Same.refl _))⟩
    | spa n m t z ps =>
      refine iF (vstr_ne (by decide +kernel : ("sparse" : Str) ≠ "directory")) ⟨_, rfl, rfl, _, rfl, iF (vstr_ne hF0) ?_⟩
      exact ⟨_, rfl, x, C, dx, fs, _, u0, rfl, V1.hp, V1.cl.cl, hcon, V1.nk, rfl, _, rfl, iF (vstr_ne nl) (k _ (Same.refl _))⟩
theorem scRefusal : FnScope ["house", "member", "path"] ["house", "member"] (defScope sRefusal) := ⟨rfl, rfl, rfl, by decide +kernel, rfl, by decide +kernel, by decide +kernel⟩
theorem c_refusal (D : DefX K mg "refusal" sRefusal ["house", "member"]) (T : ClZ K Z) (B : Bl mg) (cP : C8.Cal P w K mg base 2 "is_path" spIsPath []) (cA : C8.Cal P w K mg base 1 "above" spAbove []) (cK : C8.Met P w K mg base 2 Z.ho "kind_at" (spKind K Z.ho) []) (cR : C8.Cal P w K mg base 3 "refusal_at" (spRefAt K Z) []) : C8.Cal P w K mg base 4 "refusal" (spRefusal K Z) [] := by
  refine D.cal scRefusal (fun vs H Q E h => ?_) (fun f cdv A outer s H vs Q E hr h => ?_)
  · obtain ⟨F, p, a, v, b, rfl, _⟩ := h; rfl
  · obtain ⟨F, p, a, v, b, rfl, fh, hR, hM, ho, hF0, k⟩ := h
    refine ⟨_, pss_cons (ps_if (pt_not (pt_val (C8.pe_c cP hr (by decide) (by rfl) (pa_cons (pe_fld (pv 1) rfl) pa_nil)))) pss_never pss_nil)
      (pss_cons (ps_if (pt_not (pt_val (pe_callB (cr_all rfl) (by rfl) B.all_ boot_all (pa_cons (pe_lc (own := [("path", 2)]) (g := gName 2) (tt := tYes) rfl scRefusal.nd (pi_list (C8.pe_c cA hr (by decide) (by rfl) (pa_cons (pe_fld (pv 1) rfl) pa_nil))) (blkOk_by (N := ["house", "member", "path"]) (sc := defScope sRefusal) (by decide +kernel)) (fun _ _ _ _ _ => pg_name (i := 2) scRefusal.nd rfl (Or.inl rfl)) (fun _ _ _ _ _ => pts_nil)
          (fun _ _ _ _ _ => pe_cmpR (op_in_seq : OpR _ _ (rIn K false)) (C8.pe_mt cK hr (by decide) (pv 0) (pa_cons (pv 2) pa_nil)) (pe_tup (pa_cons pe_str (pa_cons pe_str pa_nil))) (by rfl))) pa_nil)))) pss_never pss_nil)
      (pss_one (ps_ret (C8.pe_c cR hr (by decide) (by rfl) (pa_cons (pv 0) (pa_cons (pe_fld (pv 1) rfl) (pa_cons (pv 1) (pa_cons (pe_ifExp (pt_cmpR op_eq (pe_con (pv 1) rfl) pe_str (nomark _)) pe_no pe_str) pa_nil)))))))), ?_⟩
    obtain ⟨x, C, dx, fs, rfl, V1⟩ := memV T (mon_RMb _ _ _ _ fh hM)
    obtain ⟨u0, hcon⟩ := V1.cl.con
    have nl := notLnk hM
    refine ⟨_, rfl, x, C, dx, fs, _, rfl, V1.hp, V1.cl.cl, V1.cl.nName, V1.nm, b.nm, rfl, ho.nm, fun H1 s1 => ⟨true, rfl, iF rfl ?_⟩⟩
    refine ⟨_, rfl, x, C, dx, fs, _, rfl, s1 _ _ V1.hp, V1.cl.cl, V1.cl.nName, V1.nm, b.nm, rfl, ho.nm.1.2.1, fun H2 l s2 hl0 hl => ?_⟩
    have s12 := s1.trans s2
    refine ⟨l, rfl, ⟨_, SqL.of hl⟩, fun D hD => ?_⟩
    refine lc_it (walk_list (xs := (aboves b.nm).map V.str)) (fun i H' => (Same H2 H' ∧ H2 D = none ∧ H' D = some (.lst ((List.replicate i true).map V.bl)))) ?_ (fun i H' _ h => SqL.of (h.1 _ _ hl)) ?_ ?_
    · exact ⟨sameUpd hD, hD, upd_same⟩
    · rintro j y H4 H5 hj ⟨s4, hd0, hD1⟩ ⟨rfl, hy⟩
      rw [List.getElem?_map] at hy
      cases e : (aboves b.nm)[j]? with
      | none => rw [e] at hy; cases hy
      | some n =>
        rw [e] at hy
        obtain rfl : V.str n = y := Option.some.inj hy
        rw [List.length_map] at hj
        have hk := hF0.1 n (List.mem_of_getElem? e)
        have s5 := s12.trans s4
        obtain ⟨dx0, ds0, df0, r0, kvs, e1, e2, e3⟩ := hR.up s5
        refine ⟨rfl, _, rfl, p, dx0, _, rfl, e1, hn_kind _ _ _, _, rfl, F, p, a, n, rfl, fh.trans s5, ⟨dx0, ds0, df0, r0, kvs, e1, e2, e3⟩, (by show 2 ≤ sizeLine; decide), fun c hc => ?_⟩
        have s6 : Same H5 (upd H5 c (.tup [.str "absent", .str "directory"])) := sameUpd hc
        refine ⟨c, _, rfl, .inr (SqT.of upd_same), rfl, rfl, ?_⟩
        refine ⟨_, s6 _ _ hD1, ?_, fun b o e => ?_, hd0, ?_⟩
        · rw [List.length_map, List.length_replicate]
          have h1 := ab_len b.nm
          have h2 := ho.nm.1.2.1
          exact Nat.lt_of_lt_of_le (show j < 252 by omega) (by decide)
        · rw [upd_ne (ne_of_none e hd0)]; exact s6 _ _ (s4 _ _ e)
        · rw [upd_same]
          show some (HO.lst (_ ++ [V.bl (inV (.str (kdAt a n)) [.str "absent", .str "directory"])])) = _
          rw [inV2 hk]
          congr 2; simp [List.replicate_succ', List.map_append]
    · rintro H4 ⟨s4, hd0, hD1⟩
      refine ⟨_, _, rfl, SqL.of hD1, ?_⟩
      rw [show (List.replicate ((aboves b.nm).map V.str).length true).all id = true by simp]
      refine ⟨true, rfl, iF rfl ?_⟩
      have s5 := s12.trans s4
      refine ⟨_, rfl, _, rfl, x, C, dx, fs, _, rfl, s5 _ _ V1.hp, V1.cl.cl, V1.cl.nName, V1.nm, _, rfl, _, rfl, x, C, dx, fs, _, u0, rfl, s5 _ _ V1.hp, V1.cl.cl, hcon, V1.nk, rfl, _, rfl, iF (vstr_ne nl) ?_⟩
      exact ⟨F, p, a, .ref x, b, "", rfl, fh.trans s5, hR.up s5, hM, hF0.2, fun H' s' => k H' (s5.trans s')⟩
end
end L2.K88

end
/-! K88L6 -/
section
set_option Elab.async false
set_option linter.all false
set_option maxRecDepth 100000
set_option maxHeartbeats 4000000
namespace L2.K88
open PySem PySem.Spec PyProof.Rows
abbrev sTree : Stmt := top 61
abbrev sLCopied : Stmt := top 62
abbrev sLKind : Stmt := top 64
abbrev sLIsPath : Stmt := top 65
abbrev sLWord : Stmt := top 66
def spTree (K : PySem.W.Frag) : Sp := fun vs H Q _ => ∃ F : Hp, vs = [] ∧ Same F H ∧ ∀ v F' H', RTr K F' v ⟨[], []⟩ → Gr [] F H F' H' → Q v H'
def spLCopied (K : PySem.W.Frag) : Sp := fun vs H Q _ => ∃ (F : Hp) (v : V) (t : Tr), vs = [v] ∧ Same F H ∧ RTr K F v t ∧ t.fls.length ≤ 100000 ∧ ∀ H' p da df, Gr [] F H F H' → TrAt K F H' p da df t → H p = none → H da = none → H df = none → p ≠ da → p ≠ df → da ≠ df → Q (.ref p) H'
def spLKind (K : PySem.W.Frag) : Sp := fun vs H Q _ => ∃ (F : Hp) (v : V) (t : Tr) (z : Str), vs = [v, .str z] ∧ Same F H ∧ RTr K F v t ∧ ∀ H', Same H H' → Q (.str (kdAt t.ats z)) H'
def FitsL (a : At) (b : Mb) : Prop := Fits a b ∧ ∀ n m t g, b = .lnk n m t g → kdAt a g = "file"
def spLWord (K : PySem.W.Frag) : Sp := fun vs H Q _ => ∃ (F : Hp) (v u : V) (t : Tr) (b : Mb), vs = [v, u] ∧ Same F H ∧ RTr K F v t ∧ RSp F u b ∧ MbOk b ∧ ∀ (z : Str) H', (z = "" → FitsL t.ats b) → Same H H' → Q (.str z) H'
def trK (da df : Addr) : List (Key × V) := [(Sum.inr "at", .ref da), (Sum.inr "files", .ref df)]
theorem trK_at (da df : Addr) : valV (trK da df) (Sum.inr "at") = some (.ref da) := by kernel_rfl
theorem trK_fl (da df : Addr) : valV (trK da df) (Sum.inr "files") = some (.ref df) := by kernel_rfl
theorem trK_merge (da df : Addr) : mergeK [] (trK da df) = trK da df := mergeK_nd (by show ([Sum.inr "at", Sum.inr "files"] : List Key).Nodup; decide +kernel)
theorem get_at {H : Hp} {p da df : Addr} (h : H p = some (.dK (trK da df))) : DGet H p (.str "at") (some (.ref da)) := by
  have := DGet.k (k := Sum.inr "at") h
  rw [trK_at] at this
  exact this
theorem get_fl {H : Hp} {p da df : Addr} (h : H p = some (.dK (trK da df))) : DGet H p (.str "files") (some (.ref df)) := by
  have := DGet.k (k := Sum.inr "files") h
  rw [trK_fl] at this
  exact this
section
variable {P : Program} {w : World} {K : PySem.W.Frag} {mg : Str → Option Value} {base : Heap}
theorem scTree : FnScope [] [] (defScope sTree) := ⟨rfl, rfl, rfl, by decide +kernel, rfl, by decide +kernel, by decide +kernel⟩
theorem c_tree (D : DefX K mg "_law_tree" sTree []) : C8.Cal P w K mg base 1 "_law_tree" (spTree K) [] := by
  refine D.cal scTree (fun vs H Q E h => ?_) (fun f cdv A outer s H vs Q E hr h => ?_)
  · obtain ⟨F, rfl, _⟩ := h; rfl
  · obtain ⟨F, rfl, fh, k⟩ := h
    refine ⟨_, pss_one (ps_ret (pe_disp (pps_cons pe_str pe_dnewK (pps_cons pe_str (pe_lst pa_nil) pps_nil)) (by rfl) (by rfl) (fun z => by cases z) (by decide))), ?_⟩
    intro p hp da hda
    refine ⟨Nat.zero_le _, fun df hdf => ?_⟩
    have npa : p ≠ da := ne_of_none upd_same hda
    have npf : p ≠ df := ne_of_none (o := .dK []) (by rw [upd_ne npa]; exact upd_same) hdf
    have naf : da ≠ df := ne_of_none upd_same hdf
    refine ⟨by rw [upd_ne npf, upd_ne npa]; exact upd_same, trK da df, rfl, (by show 2 ≤ 15; decide), ?_⟩
    rw [trK_merge]
    have g1 := (Gr.refl (S := []) fh).raw (o := .dK []) hp
    have g2 := g1.new (o := .dK []) hda
    have g3 := g2.new (o := .lst []) hdf
    have fp : F p = none := fh.free hp
    have fp3 : upd (upd F da (.dK [])) df (.lst []) p = none := by rw [upd_ne npf, upd_ne npa]; exact fp
    have g4 := g3.mut (p := p) (o := .dK (trK da df)) (.inl hp) fp3
    have g5 := g4.seal hp fp3 upd_same
    refine k (.ref p) _ _ ⟨p, da, df, rfl, ⟨upd_same, ⟨[], ?_, .nil⟩, [], ?_, .nil⟩⟩ g5
    · rw [upd_ne npa.symm, upd_ne naf]; exact upd_same
    · rw [upd_ne npf.symm]; exact upd_same
theorem scLCopied : FnScope ["_law_tree_here"] ["_law_tree_here"] (defScope sLCopied) := ⟨rfl, rfl, rfl, by decide +kernel, rfl, by decide +kernel, by decide +kernel⟩
theorem c_lcopied (D : DefX K mg "_law_copied" sLCopied ["_law_tree_here"]) (B : Bl mg) : C8.Cal P w K mg base 1 "_law_copied" (spLCopied K) [] := by
  refine D.cal scLCopied (fun vs H Q E h => ?_) (fun f cdv A outer s H vs Q E hr h => ?_)
  · obtain ⟨F, v, t, rfl, _⟩ := h; rfl
  · obtain ⟨F, v, t, rfl, fh, ⟨p0, da0, df0, rfl, h1, ⟨kvs, h2, h3⟩, us, h4, h5⟩, hlen, k⟩ := h
    have hu := hu_of hr
    refine ⟨_, pss_one (ps_ret (pe_disp (pps_cons pe_str (pe_callTy call_dictD (by rfl) B.dict_ (by decide +kernel) (pa_cons (pe_dget hu (pv 0) pe_str (fun _ _ => rfl)) pa_nil)) (pps_cons pe_str (pe_callTy call_list_of (by rfl) B.list_ (by decide +kernel) (pa_cons (pe_dget hu (pv 0) pe_str (fun _ _ => rfl)) pa_nil)) pps_nil)) (by rfl) (by rfl) (fun z => by cases z) (by decide))), ?_⟩
    intro p hp
    have g1 := (Gr.refl (S := []) fh).raw (o := .dK []) hp
    refine ⟨_, rfl, p0, .ref da0, rfl, get_at (g1.fh _ _ h1), da0, kvs, rfl, .inl (g1.fh _ _ h2), fun da hda => ?_⟩
    have g2 := g1.raw (o := .dK kvs) hda
    refine ⟨_, rfl, p0, .ref df0, rfl, get_fl (g2.fh _ _ h1), df0, us, rfl, .inl (SqL.of (g2.fh _ _ h4)), fun df hdf => ?_⟩
    have g3 := g2.raw (o := .lst us) hdf
    have npa : p ≠ da := ne_of_none upd_same hda
    have npf : p ≠ df := ne_of_none (o := .dK []) (by rw [upd_ne npa]; exact upd_same) hdf
    have naf : da ≠ df := ne_of_none upd_same hdf
    refine ⟨by rw [upd_ne npf, upd_ne npa]; exact upd_same, trK da df, rfl, (by show 2 ≤ 15; decide), ?_⟩
    rw [trK_merge]
    have g4 := g3.mut (p := p) (o := .dK (trK da df)) (.inl hp) (fh.free hp)
    refine k _ p da df g4 ⟨upd_same, ⟨kvs, ?_, h3⟩, us, ?_, h5⟩ hp (g1.dom _ hda) (g2.dom _ hdf) npa npf naf
    · rw [upd_ne npa.symm, upd_ne naf]; exact upd_same
    · rw [upd_ne npf.symm]; exact upd_same
theorem scLKind : FnScope ["_law_tree_here", "_law_name"] ["_law_tree_here", "_law_name"] (defScope sLKind) := ⟨rfl, rfl, rfl, by decide +kernel, rfl, by decide +kernel, by decide +kernel⟩
theorem c_lkind (D : DefX K mg "_law_kind" sLKind ["_law_tree_here", "_law_name"]) : C8.Cal P w K mg base 1 "_law_kind" (spLKind K) [] := by
  refine D.cal scLKind (fun vs H Q E h => ?_) (fun f cdv A outer s H vs Q E hr h => ?_)
  · obtain ⟨F, v, t, z, rfl, _⟩ := h; rfl
  · obtain ⟨F, v, t, z, rfl, fh, ⟨p0, da0, df0, rfl, h1, ⟨kvs, h2, h3⟩, us, h4, h5⟩, k⟩ := h
    have hu := hu_of hr
    refine ⟨_, pss_one (ps_ret (pe_ix ix_tup (pe_dget2 hu (pe_dget hu (pv 0) pe_str (fun _ _ => rfl)) (pv 1) (pe_tup (pa_cons pe_str pa_nil)) ⟨rfl, rfl, rfl, rfl⟩) pe_int (fun _ _ => rfl))), ?_⟩
    refine ⟨_, rfl, p0, .ref da0, rfl, get_at (fh _ _ h1), da0, rfl, .inl ⟨kvs, .inl (fh _ _ h2)⟩, _, rfl, (by show 1 ≤ sizeLine; decide), fun c hc => ?_⟩
    have s1 : Same H (upd H c (.tup [.str "absent"])) := sameUpd hc
    have hd := s1 _ _ (fh _ _ h2)
    unfold kdAt at k
    rcases rk_val (k := z) h3 with ⟨e1, e2⟩ | ⟨b, v, e1, e2, q, rfl, e3⟩
    · rw [e1] at k
      exact ⟨none, by rw [← e2]; exact DGet.k (k := Sum.inr z) hd, c, _, 0, _, rfl, rfl, SqT.of upd_same, rfl, k _ s1⟩
    · rw [e1] at k
      exact ⟨some (.ref q), by rw [← e2]; exact DGet.k (k := Sum.inr z) hd, q, _, 0, _, rfl, rfl, sqs (fh.trans s1) e3, th_kd b, k _ s1⟩
theorem scLIsPath : FnScope ["_law_name", "_law_part"] ["_law_name"] (defScope sLIsPath) := ⟨rfl, rfl, rfl, by decide +kernel, rfl, by decide +kernel, by decide +kernel⟩
theorem c_lis_path (D : DefX K mg "_law_is_path" sLIsPath ["_law_name"]) (B : Bl mg) : C8.Cal P w K mg base 1 "_law_is_path" spIsPath [] := by
  refine D.cal scLIsPath (fun vs H Q E h => ?_) (fun f cdv A outer s H vs Q E hr h => ?_)
  · obtain ⟨z, rfl, _⟩ := h; rfl
  · obtain ⟨z, rfl, ⟨h1, h2⟩, k⟩ := h
    refine ⟨_, pss_one (ps_ret (pe_callB (cr_all rfl) (by rfl) B.all_ boot_all (pa_cons (pe_lc (own := [("_law_part", 1)]) (g := gName 1) (tt := tYes) rfl scLIsPath.nd (pi_list (pe_split (pv 0) pe_str)) (blkOk_by (N := ["_law_name", "_law_part"]) (sc := defScope sLIsPath) (by decide +kernel)) (fun _ _ _ _ _ => pg_name (i := 1) scLIsPath.nd rfl (Or.inl rfl)) (fun _ _ _ _ _ => pts_nil)
          (fun _ _ _ _ _ => pe_cmpR (op_notIn_seq : OpR _ _ (rIn K true)) (pv 1) (pe_tup (pa_cons pe_str (pa_cons pe_str (pa_cons pe_str pa_nil)))) (by rfl))) pa_nil))), ?_⟩
    have hl : z.length + 2 ≤ sizeLine := Nat.le_trans (Nat.add_le_add_right h1.2.1 2) (by decide)
    refine ⟨_, rfl, ⟨_, rfl⟩, z, slash, rfl, rfl, (by decide +kernel), hl, fun p hp => ?_⟩
    refine ⟨_, rfl, ⟨_, SqL.of upd_same⟩, fun D hD => ?_⟩
    have hpD : p ≠ D := ne_of_none upd_same hD
    have s2 : Same H (upd H p (.lst ((Txt.split z slash).map V.str))) := sameUpd hp
    refine lc_it (walk_list (xs := (Txt.split z slash).map V.str)) (fun i H' => (Same H H' ∧ H D = none ∧ H' p = some (.lst ((Txt.split z slash).map V.str)) ∧ H' D = some (.lst ((List.replicate i true).map V.bl)))) ?_ (fun i H' _ h => SqL.of h.2.2.1) ?_ ?_
    · exact ⟨s2.trans (sameUpd hD), s2.free hD, by rw [upd_ne hpD]; exact upd_same, upd_same⟩
    · rintro i x H3 H2 hi ⟨hs, hd0, hp1, hD1⟩ ⟨rfl, hx⟩
      rw [List.getElem?_map] at hx
      cases e : (Txt.split z slash)[i]? with
      | none => rw [e] at hx; cases hx
      | some n =>
        rw [e] at hx
        obtain rfl : V.str n = x := Option.some.inj hx
        have hb := h2 n (List.mem_of_getElem? e)
        refine ⟨rfl, _, rfl, (by show 3 ≤ sizeLine; decide), fun t ht => ?_⟩
        refine ⟨t, _, rfl, .inr (SqT.of upd_same), rfl, rfl, ?_⟩
        have hDt : D ≠ t := ne_of_none hD1 ht
        refine ⟨_, by rw [upd_ne hDt]; exact hD1, ?_, fun b o e => ?_, hd0, ?_, ?_⟩
        · rw [List.length_map, List.length_replicate]
          rw [List.length_map, split_len] at hi
          have h5 := pz_len z
          have h6 := h1.2.1
          exact Nat.lt_of_lt_of_le (show i < 252 by omega) (by decide)
        · rw [upd_ne (ne_of_none e hd0), upd_ne (ne_of_none (hs _ _ e) ht)]; exact hs _ _ e
        · rw [upd_ne hpD, upd_ne (ne_of_none hp1 ht)]; exact hp1
        · rw [upd_same]
          show some (HO.lst (_ ++ [V.bl (!(inV (.str n) [.str "", .str ".", .str ".."]))])) = _
          rw [notIn3 hb]
          congr 2; simp [List.replicate_succ', List.map_append]
    · rintro H' ⟨hs, hd0, hp1, hD1⟩
      refine ⟨_, _, rfl, SqL.of hD1, ?_⟩
      rw [show (List.replicate (((Txt.split z slash).map V.str).length) true).all id = true by simp]
      exact k _ hs
end
end L2.K88

end
/-! K88L7 -/
section
set_option Elab.async false
set_option linter.all false
set_option maxRecDepth 100000
set_option maxHeartbeats 4000000
namespace L2.K88
open PySem PySem.Spec PyProof.Rows
abbrev sLContent : Stmt := top 67
def upT (a : At) (qs : List Str) : At := qs.foldl (fun a q => match lk a q with | some _ => a | none => pt a q (.dir 493 0)) a
def spLContent : Sp := fun vs H Q _ => ∃ (F : Hp) (u : V) (b : Mb), vs = [u] ∧ Same F H ∧ RSp F u b ∧ MbOk b ∧ (b.kd = "file" ∨ b.kd = "sparse") ∧ ∀ v ns F' H', RNs F' v ns → B8 ns → ns.length ≤ 4096 → Gr [] F H F' H' → Q v H'
theorem at0 {α : Type} (a : α) (l : List α) : atI (a :: l) 0 = some a := atI_nat (j := 0) rfl
theorem at1 {α : Type} (a b : α) (l : List α) : atI (a :: b :: l) 1 = some b := atI_nat (j := 1) rfl
theorem at2 {α : Type} (a b c : α) (l : List α) : atI (a :: b :: c :: l) 2 = some c := atI_nat (j := 2) rfl
theorem at3 {α : Type} (a b c d : α) (l : List α) : atI (a :: b :: c :: d :: l) 3 = some d := atI_nat (j := 3) rfl
theorem at4 {α : Type} (a b c d e : α) (l : List α) : atI (a :: b :: c :: d :: e :: l) 4 = some e := atI_nat (j := 4) rfl
section
variable {P : Program} {w : World} {K : PySem.W.Frag} {mg : Str → Option Value} {base : Heap}
theorem scLAbove : FnScope ["_law_name", "_law_parts", "_law_many"] ["_law_name"] (defScope sLAbove) := ⟨rfl, rfl, rfl, by decide +kernel, rfl, by decide +kernel, by decide +kernel⟩
theorem c_labove (D : DefX K mg "_law_above" sLAbove ["_law_name"]) (B : Bl mg) : C8.Cal P w K mg base 1 "_law_above" spAbove [] := by
  refine D.cal scLAbove (fun vs H Q E h => ?_) (fun f cdv A outer s H vs Q E hr h => ?_)
  · obtain ⟨z, rfl, _⟩ := h; rfl
  · obtain ⟨z, rfl, hz, k⟩ := h
    refine ⟨_, pss_cons (ps_set (i := 1) scLAbove.nd rfl (Or.inr rfl) (pe_split (pv 0) pe_str))
      (pss_one (ps_ret (pe_lc (own := [("_law_many", 2)]) (g := gName 2) (tt := tYes) rfl scLAbove.nd (pi_range2 (by rfl) B.range_ (pa_cons pe_int (pa_cons (pe_callB call_len (by rfl) B.len_ boot_len (pa_cons (pv 1) pa_nil)) pa_nil))) (blkOk_by (N := ["_law_name", "_law_parts", "_law_many"]) (sc := defScope sLAbove) (by decide +kernel)) (fun _ _ _ _ _ => pg_name (i := 2) scLAbove.nd rfl (Or.inl rfl)) (fun _ _ _ _ _ => pts_nil)
          (fun _ _ _ _ _ => (pe_join pe_str (pe_slice (sl_list : SlR _ (rSlL K)) (pv 1) po_none (po_some (pv 2))) : PE _ _ (tM1 (rJoinK K) _ _)))))), ?_⟩
    refine ⟨_, rfl, ⟨_, rfl⟩, z, slash, rfl, rfl, (by decide +kernel), Nat.le_trans (Nat.add_le_add_right hz 2) (by decide), fun p hp => ?_⟩
    have hl : (Txt.split z slash).length ≤ 251 := by rw [split_len]; have := pz_len z; omega
    have hl1 : 1 ≤ (Txt.split z slash).length := by
      rw [split_len]
      exact List.length_pos_iff.mpr (pz_ne z)
    refine ⟨_, rfl, _, _, rfl, .inl ⟨_, SqL.of upd_same, rfl⟩, 1, _, rfl, ⟨by decide, by decide, ?_, ?_⟩, fun D hD => ?_⟩
    · rw [List.length_map]; omega
    · rw [List.length_map]; omega
    have hpD : p ≠ D := ne_of_none upd_same hD
    refine lc_it walk_range (fun i H' => (Same H H' ∧ H D = none ∧ H' p = some (.lst ((Txt.split z slash).map V.str)) ∧ H' D = some (.lst (((List.range i).map fun i => upto z (i + 1)).map V.str)))) ?_ (fun i H' _ h => True.intro) ?_ ?_
    · exact ⟨(sameUpd hp).trans (sameUpd hD), (sameUpd hp).free hD, by rw [upd_ne hpD]; exact upd_same, upd_same⟩
    · rintro i x H3 H2 hi ⟨hs, hd0, hp1, hD1⟩ ⟨rfl, rfl⟩
      rw [List.length_map] at hi
      refine ⟨rfl, ⟨_, rfl⟩, ⟨_, rfl, _, rfl, _, rfl, p, _, rfl, SqL.of hp1, fun q hq => ?_⟩⟩
      have e1 : cutV ((Txt.split z slash).map V.str) none (some ((1 : Int) + i)) = ((Txt.split z slash).take (i + 1)).map V.str := by
        rw [show ((1 : Int) + i) = ((i + 1 : Nat) : Int) by omega, take_cut _ _ (by rw [List.length_map]; omega), List.map_take]
      refine ⟨slash, q, (Txt.split z slash).take (i + 1), rfl, rfl, .inl (SqL.of (by rw [← e1]; exact upd_same)), Nat.le_trans (upto_join_le z _) (by omega), ?_⟩
      have hDq : D ≠ q := ne_of_none hD1 hq
      refine ⟨_, by rw [upd_ne hDq]; exact hD1, ?_, fun b o e => ?_, hd0, ?_, ?_⟩
      · rw [List.length_map, List.length_map, List.length_range]
        exact Nat.lt_of_lt_of_le (show i < 251 by omega) (by decide)
      · rw [upd_ne (ne_of_none e hd0), upd_ne (ne_of_none (hs _ _ e) hq)]; exact hs _ _ e
      · rw [upd_ne hpD, upd_ne (ne_of_none hp1 hq)]; exact hp1
      · rw [upd_same, join_upto, List.range_succ, List.map_append, List.map_append]; rfl
    · rintro H' ⟨hs, hd0, hp1, hD1⟩
      refine k H' D hs hd0 ?_
      rw [hD1]
      have e1 : ((((Txt.split z slash).map V.str).length : Int) - 1).toNat = (pz z).length - 1 := by
        rw [List.length_map, split_len]; omega
      rw [e1]
      rfl
theorem scLWord : FnScope ["_law_tree_here", "_law_spec_here", "_law_here", "_law_one"] ["_law_tree_here", "_law_spec_here"] (defScope sLWord) := ⟨rfl, rfl, rfl, by decide +kernel, rfl, by decide +kernel, by decide +kernel⟩
theorem inV2' {p a b : Str} (h : inV (.str p) [.str a, .str b] = true) : p = a ∨ p = b := by
  by_cases e1 : p = a
  · exact .inl e1
  · by_cases e2 : p = b
    · exact .inr e2
    · rw [notIn2 ⟨e1, e2⟩] at h; cases h
theorem c_lword (D : DefX K mg "_law_word" sLWord ["_law_tree_here", "_law_spec_here"]) (B : Bl mg) (cI : C8.Cal P w K mg base 1 "_law_is_path" spIsPath []) (cA : C8.Cal P w K mg base 1 "_law_above" spAbove []) (cK : C8.Cal P w K mg base 1 "_law_kind" (spLKind K) []) : C8.Cal P w K mg base 2 "_law_word" (spLWord K) [] := by
  refine D.cal scLWord (fun vs H Q E h => ?_) (fun f cdv A outer s H vs Q E hr h => ?_)
  · obtain ⟨F, v, u, t, b, rfl, _⟩ := h; rfl
  · obtain ⟨F, v, u, t, b, rfl, fh, hT, ⟨x, more, rfl, hx, hm⟩, ho, k⟩ := h
    refine ⟨_, pss_cons (ps_if (pt_not (pt_val (C8.pe_c cI hr (by decide) (by rfl) (pa_cons (pe_ix ix_tup (pv 1) pe_int (fun _ _ => rfl)) pa_nil)))) pss_never pss_nil)
      (pss_cons (ps_if (pt_not (pt_val (pe_callB (cr_all rfl) (by rfl) B.all_ boot_all (pa_cons (pe_lc (own := [("_law_one", 3)]) (g := gName 3) (tt := tYes) rfl scLWord.nd (pi_list (C8.pe_c cA hr (by decide) (by rfl) (pa_cons (pe_ix ix_tup (pv 1) pe_int (fun _ _ => rfl)) pa_nil))) (blkOk_by (N := ["_law_tree_here", "_law_spec_here", "_law_here", "_law_one"]) (sc := defScope sLWord) (by decide +kernel)) (fun _ _ _ _ _ => pg_name (i := 3) scLWord.nd rfl (Or.inl rfl)) (fun _ _ _ _ _ => pts_nil)
          (fun _ _ _ _ _ => pe_cmpR (op_in_seq : OpR _ _ (rIn K false)) (C8.pe_c cK hr (by decide) (by rfl) (pa_cons (pv 0) (pa_cons (pv 3) pa_nil))) (pe_tup (pa_cons pe_str (pa_cons pe_str pa_nil))) (by rfl))) pa_nil)))) (pss_one (ps_ret pe_str)) pss_nil)
      (pss_cons (ps_set (i := 2) scLWord.nd rfl (Or.inl rfl) (C8.pe_c cK hr (by decide) (by rfl) (pa_cons (pv 0) (pa_cons (pe_ix ix_tup (pv 1) pe_int (fun _ _ => rfl)) pa_nil))))
      (pss_cons (ps_if (pt_cmpR op_eq (pe_ix ix_tup (pv 1) pe_int (fun _ _ => rfl)) pe_str (nomark _)) (pss_one (ps_ret (pe_ifExp (pt_cmpR op_in_seq (pv 2) (pe_tup (pa_cons pe_str (pa_cons pe_str pa_nil))) (by rfl)) pe_str pe_str))) pss_nil)
      (pss_cons (ps_if (pt_cmpR op_eq (pv 2) pe_str (nomark _)) (pss_one (ps_ret pe_str)) pss_nil)
      (pss_one (ps_ret (pe_ifExp (PW.pt (pw_and (pt_cmpR op_eq (pe_ix ix_tup (pv 1) pe_int (fun _ _ => rfl)) pe_str (nomark _)) (pw_and1 (pt_cmpR op_ne (C8.pe_c cK hr (by decide) (by rfl) (pa_cons (pv 0) (pa_cons (pe_ix ix_tup (pv 1) pe_int (fun _ _ => rfl)) pa_nil))) pe_str (nomark _))))) pe_str pe_str))))))), ?_⟩
    have hxH := fh _ _ hx
    refine ⟨_, rfl, x, _, 1, _, rfl, rfl, SqT.of hxH, at1 _ _ _, b.nm, rfl, ho.nm, fun H1 s1 => ⟨true, rfl, iF rfl ?_⟩⟩
    refine ⟨_, rfl, x, _, 1, _, rfl, rfl, SqT.of (s1 _ _ hxH), at1 _ _ _, b.nm, rfl, ho.nm.1.2.1, fun H2 l s2 hl0 hl => ?_⟩
    have s12 := s1.trans s2
    refine ⟨l, rfl, ⟨_, SqL.of hl⟩, fun D hD => ?_⟩
    refine lc_it (walk_list (xs := (aboves b.nm).map V.str)) (fun i H' => (Same H2 H' ∧ H2 D = none ∧ H' D = some (.lst ((((aboves b.nm).take i).map fun q => inV (.str (kdAt t.ats q)) [.str "absent", .str "directory"]).map V.bl)))) ?_ (fun i H' _ h => SqL.of (h.1 _ _ hl)) ?_ ?_
    · exact ⟨sameUpd hD, hD, upd_same⟩
    · rintro j y H4 H5 hj ⟨s4, hd0, hD1⟩ ⟨rfl, hy⟩
      rw [List.getElem?_map] at hy
      cases e : (aboves b.nm)[j]? with
      | none => rw [e] at hy; cases hy
      | some n =>
        rw [e] at hy
        obtain rfl : V.str n = y := Option.some.inj hy
        rw [List.length_map] at hj
        have s5 := s12.trans s4
        refine ⟨rfl, _, rfl, _, rfl, F, v, t, n, rfl, fh.trans s5, hT, fun H6 s6 => ⟨(by show 2 ≤ sizeLine; decide), fun c hc => ?_⟩⟩
        have s7 : Same H6 (upd H6 c (.tup [.str "absent", .str "directory"])) := sameUpd hc
        refine ⟨c, _, rfl, .inr (SqT.of upd_same), rfl, rfl, ?_⟩
        refine ⟨_, s7 _ _ (s6 _ _ hD1), ?_, fun b o e => ?_, hd0, ?_⟩
        · rw [List.length_map, List.length_map, List.length_take]
          have h1 := ab_len b.nm
          have h2 := ho.nm.1.2.1
          exact Nat.lt_of_lt_of_le (show min j _ < 252 by omega) (by decide)
        · rw [upd_ne (ne_of_none e hd0)]; exact s7 _ _ (s6 _ _ (s4 _ _ e))
        · rw [upd_same, List.take_succ, e, List.map_append, List.map_append]; rfl
    · rintro H4 ⟨s4, hd0, hD1⟩
      refine ⟨_, _, rfl, SqL.of hD1, ?_⟩
      rw [List.length_map, List.take_length]
      have s5 := s12.trans s4
      generalize hb : (((aboves b.nm).map fun q => inV (.str (kdAt t.ats q)) [.str "absent", .str "directory"]).all id) = bb
      refine ⟨bb, rfl, ?_⟩
      cases bb with
      | false => exact iT rfl (k "parent" _ (fun z => absurd z (by decide +kernel)) s5)
      | true =>
        refine iF rfl ?_
        have hab : ∀ q ∈ aboves b.nm, kdAt t.ats q = "absent" ∨ kdAt t.ats q = "directory" := fun q hq => by
          rw [List.all_eq_true] at hb
          have := hb _ (List.mem_map_of_mem hq)
          exact inV2' this
        refine ⟨_, rfl, _, rfl, x, _, 1, _, rfl, rfl, SqT.of (s5 _ _ hxH), at1 _ _ _, F, v, t, b.nm, rfl, fh.trans s5, hT, fun H6 s6 => ?_⟩
        have s7 := s5.trans s6
        have hx7 := s7 _ _ hxH
        refine ⟨_, rfl, x, _, 0, _, rfl, rfl, SqT.of hx7, at0 _ _, rfl, _, rfl, ?_⟩
        have other : b.kd ≠ "directory" → (kdAt t.ats b.nm ≠ "directory" → FitK (kdAt t.ats b.nm) b) → (∀ n m t g, b = .lnk n m t g → False) → ∀ H8, Same H H8 → Q (.str "") H8 ∨ True := fun _ _ _ _ _ => .inr True.intro
        cases b with
        | dir n m ti =>
          refine iT (vstr_eq rfl) ?_
          refine ⟨_, rfl, (by show 2 ≤ sizeLine; decide), fun c hc => ⟨c, _, rfl, .inr (SqT.of upd_same), rfl, rfl, ?_⟩⟩
          refine ⟨_, rfl, ?_⟩
          by_cases hin : inV (.str (kdAt t.ats n)) [.str "file", .str "symlink"] = true
          · exact iT hin (k "occupied" _ (fun z => absurd z (by decide +kernel)) (s7.trans (sameUpd hc)))
          · refine iF (Bool.eq_false_iff.mpr hin) (k "" _ (fun _ => ⟨⟨hab, ?_⟩, fun _ _ _ _ z => nomatch z⟩) (s7.trans (sameUpd hc)))
            exact ⟨fun z => hin (inV2 (.inl z)), fun z => hin (inV2 (.inr z))⟩
        | file n m ti ns =>
          refine iF (vstr_ne (by decide +kernel : ("file" : Str) ≠ "directory")) ⟨_, rfl, rfl, _, rfl, ?_⟩
          by_cases hd : kdAt t.ats n = "directory"
          · exact iT (vstr_eq hd) (k "directory" _ (fun z => absurd z (by decide +kernel)) s7)
          · refine iF (vstr_ne hd) ⟨_, rfl, x, _, 0, _, rfl, rfl, SqT.of hx7, at0 _ _, rfl, _, rfl, iF (vstr_ne (by decide +kernel : ("file" : Str) ≠ "link")) (iF rfl (k "" _ (fun _ => ⟨⟨hab, hd⟩, fun _ _ _ _ z => nomatch z⟩) s7))⟩
        | sym n m ti g =>
          refine iF (vstr_ne (by decide +kernel : ("symlink" : Str) ≠ "directory")) ⟨_, rfl, rfl, _, rfl, ?_⟩
          by_cases hd : kdAt t.ats n = "directory"
          · exact iT (vstr_eq hd) (k "directory" _ (fun z => absurd z (by decide +kernel)) s7)
          · refine iF (vstr_ne hd) ⟨_, rfl, x, _, 0, _, rfl, rfl, SqT.of hx7, at0 _ _, rfl, _, rfl, iF (vstr_ne (by decide +kernel : ("symlink" : Str) ≠ "link")) (iF rfl (k "" _ (fun _ => ⟨⟨hab, hd⟩, fun _ _ _ _ z => nomatch z⟩) s7))⟩
        | spa n m ti z ps =>
          refine iF (vstr_ne (by decide +kernel : ("sparse" : Str) ≠ "directory")) ⟨_, rfl, rfl, _, rfl, ?_⟩
          by_cases hd : kdAt t.ats n = "directory"
          · exact iT (vstr_eq hd) (k "directory" _ (fun z => absurd z (by decide +kernel)) s7)
          · refine iF (vstr_ne hd) ⟨_, rfl, x, _, 0, _, rfl, rfl, SqT.of hx7, at0 _ _, rfl, _, rfl, iF (vstr_ne (by decide +kernel : ("sparse" : Str) ≠ "link")) (iF rfl (k "" _ (fun _ => ⟨⟨hab, hd⟩, fun _ _ _ _ z => nomatch z⟩) s7))⟩
        | lnk n m ti g =>
          obtain rfl : more = [.str g] := hm
          refine iF (vstr_ne (by decide +kernel : ("link" : Str) ≠ "directory")) ⟨_, rfl, rfl, _, rfl, ?_⟩
          by_cases hd : kdAt t.ats n = "directory"
          · exact iT (vstr_eq hd) (k "directory" _ (fun z => absurd z (by decide +kernel)) s7)
          · refine iF (vstr_ne hd) ⟨_, rfl, x, _, 0, _, rfl, rfl, SqT.of hx7, at0 _ _, rfl, _, rfl, iT (vstr_eq rfl) ?_⟩
            refine ⟨_, rfl, _, rfl, x, _, 4, _, rfl, rfl, SqT.of hx7, at4 _ _ _ _ _ _, F, v, t, g, rfl, fh.trans s7, hT, fun H8 s8 => ⟨rfl, _, rfl, ?_⟩⟩
            by_cases ht : kdAt t.ats g = "file"
            · exact iF (by rw [vstr_eq ht]; rfl) (k "" _ (fun _ => ⟨⟨hab, hd⟩, fun _ _ _ _ z => by cases z; exact ht⟩) (s7.trans s8))
            · exact iT (by rw [vstr_ne ht]; rfl) (k "target" _ (fun z => absurd z (by decide +kernel)) (s7.trans s8))
end
end L2.K88

end
/-! K88L8 -/
section
set_option Elab.async false
set_option linter.all false
set_option maxRecDepth 100000
set_option maxHeartbeats 4000000
namespace L2.K88
open PySem PySem.Spec PyProof.Rows
abbrev sLStepped : Stmt := top 68
/-- what a step makes of a tree -/
def StepR (t : Tr) (b : Mb) (t' : Tr) : Prop := match b with
  | .lnk n m ti g => ∃ th, lk (upT t.ats (aboves n)) g = some th ∧ t' = ⟨pt (upT t.ats (aboves n)) n th, t.fls⟩
  | .dir n m ti => t' = ⟨pt (upT t.ats (aboves n)) n (.dir m ti), t.fls⟩
  | .sym n m ti g => t' = ⟨pt (upT t.ats (aboves n)) n (.sym g m ti), t.fls⟩
  | .file n m ti _ => ∃ ns, B8 ns ∧ ns.length ≤ 4096 ∧ t' = ⟨pt (upT t.ats (aboves n)) n (.fil t.fls.length), t.fls ++ [(ns, m, ti)]⟩
  | .spa n m ti _ _ => ∃ ns, B8 ns ∧ ns.length ≤ 4096 ∧ t' = ⟨pt (upT t.ats (aboves n)) n (.fil t.fls.length), t.fls ++ [(ns, m, ti)]⟩
def spLStepped (K : PySem.W.Frag) : Sp := fun vs H Q _ => ∃ (F : Hp) (v u : V) (t : Tr) (b : Mb), vs = [v, u] ∧ Same F H ∧ RTr K F v t ∧ RSp F u b ∧ MbOk b ∧ FitsL t.ats b ∧ (ky t.ats).Nodup ∧ t.ats.length + 300 < 100000 ∧ t.fls.length < 100000 ∧ ∀ v' t' F' H', RTr K F' v' t' → StepR t b t' → Gr [] F H F' H' → Q v' H'
/-- a tree that is being changed -/
structure TrM (K : PySem.W.Frag) (F H : Hp) (p da df : Addr) (t : Tr) : Prop where
  at_ : TrAt K F H p da df t
  fp : F p = none
  fa : F da = none
  ff : F df = none
  npa : p ≠ da
  npf : p ≠ df
  naf : da ≠ df
  nd : (ky t.ats).Nodup
theorem TrM.grow {K : PySem.W.Frag} {F H F' H' : Hp} {p da df : Addr} {t : Tr} (M : TrM K F H p da df t) (g : Gr [] F H F' H') : TrM K F' H' p da df t := by
  obtain ⟨⟨h1, ⟨kvs, h2, h3⟩, us, h4, h5⟩, fp, fa, ff, npa, npf, naf, nd⟩ := M
  exact ⟨⟨g.same _ _ h1, ⟨kvs, g.same _ _ h2, mon_RAt g.ff h3⟩, us, g.same _ _ h4, mon_RFl.paired g.ff h5⟩, g.notF fp h1, g.notF fa h2, g.notF ff h4, npa, npf, naf, nd⟩
theorem TrM.put {K : PySem.W.Frag} {F H : Hp} {p da df : Addr} {t : Tr} {kvs : List (Key × V)} (M : TrM K F H p da df t) (h2 : H da = some (.dK kvs)) (h3 : RAt K F kvs t.ats) {z : Str} {v : V} {th : Th} (hv : RTh K F v th) :
    TrM K F (upd H da (.dK (putK kvs (Sum.inr z) v))) p da df ⟨pt t.ats z th, t.fls⟩ := by
  obtain ⟨⟨h1, _, us, h4, h5⟩, fp, fa, ff, npa, npf, naf, nd⟩ := M
  exact ⟨⟨by rw [upd_ne npa]; exact h1, ⟨_, upd_same, rk_put (R := RTh K F) hv nd h3⟩, us, by rw [upd_ne naf.symm]; exact h4, h5⟩, fp, fa, ff, npa, npf, naf, nd_pt nd⟩
theorem upT_nd : ∀ (qs : List Str) (a : At), (ky a).Nodup → (ky (upT a qs)).Nodup
  | [], _, h => h
  | q :: qs, a, h => by
    show (ky (upT (match lk a q with | some _ => a | none => pt a q (.dir 493 0)) qs)).Nodup
    cases lk a q with
    | some th => exact upT_nd qs a h
    | none => exact upT_nd qs _ (nd_pt h)
theorem upT_len : ∀ (qs : List Str) (a : At), (upT a qs).length ≤ a.length + qs.length
  | [], _ => Nat.le_refl _
  | q :: qs, a => by
    show (upT (match lk a q with | some _ => a | none => pt a q (.dir 493 0)) qs).length ≤ a.length + (qs.length + 1)
    cases lk a q with
    | some th => have h1 := upT_len qs a; show (upT a qs).length ≤ _; omega
    | none =>
      have h1 := upT_len qs (pt a q (.dir 493 0))
      have h2 := len_pt q (Th.dir 493 0) a
      show (upT (pt a q (.dir 493 0)) qs).length ≤ _
      omega
theorem upT_old : ∀ (qs : List Str) (a : At) (q : Str) (th : Th), lk a q = some th → lk (upT a qs) q = some th
  | [], _, _, _, h => h
  | r :: qs, a, q, th, h => by
    show lk (upT (match lk a r with | some _ => a | none => pt a r (.dir 493 0)) qs) q = some th
    cases e : lk a r with
    | some x => exact upT_old qs a q th h
    | none =>
      refine upT_old qs _ q th ?_
      rw [lk_pt, if_neg (fun z => by rw [z, e] at h; cases h)]
      exact h
section
variable {P : Program} {w : World} {K : PySem.W.Frag} {mg : Str → Option Value} {base : Heap}
theorem scLContent : FnScope ["_law_spec_here", "_law_found", "_law_offset", "_law_numbers_here"] ["_law_spec_here"] (defScope sLContent) := ⟨rfl, rfl, rfl, by decide +kernel, rfl, by decide +kernel, by decide +kernel⟩
theorem rep0 (k : Nat) : (List.replicate k [V.int 0]).flatten = (List.replicate k (0 : Int)).map V.int := by
  induction k with
  | zero => rfl
  | succ k ih => rw [List.replicate_succ, List.replicate_succ, List.flatten_cons, ih]; rfl
theorem c_lcontent (D : DefX K mg "_law_content" sLContent ["_law_spec_here"]) (B : Bl mg) : C8.Cal P w K mg base 1 "_law_content" spLContent [] := by
  refine D.cal scLContent (fun vs H Q E h => ?_) (fun f cdv A outer s H vs Q E hr h => ?_)
  · obtain ⟨F, u, b, rfl, _⟩ := h; rfl
  · obtain ⟨F, u, b, rfl, fh, ⟨x, more, rfl, hx, hm⟩, ho, hk, k⟩ := h
    refine ⟨_, pss_cons (ps_if (pt_cmpR op_eq (pe_ix ix_tup (pv 0) pe_int (fun _ _ => rfl)) pe_str (nomark _)) (pss_one (ps_ret (pe_ix ix_tup (pv 0) pe_int (fun _ _ => rfl)))) pss_nil)
      (pss_cons (ps_set (i := 1) scLContent.nd rfl (Or.inl rfl) (pe_op op_rep (pe_lst (pa_cons pe_int pa_nil)) (pe_ix ix_tup (pe_ix ix_tup (pv 0) pe_int (fun _ _ => rfl)) pe_int (fun _ _ => rfl))))
      (pss_cons (ps_for PassesOwn.never rfl (pi_list (pe_ix ix_tup (pe_ix ix_tup (pv 0) pe_int (fun _ _ => rfl)) pe_int (fun _ _ => rfl))) (pg_tup (by rfl) (pgs_cons (pg_name (i := 2) scLContent.nd rfl (Or.inl rfl)) (pgs_cons (pg_name (i := 3) scLContent.nd rfl (Or.inl rfl)) pgs_nil)))
        (pss_one (ps_asg (pv 3) (pg_slice (pv 1) (po_some (pv 2)) (po_some (pe_op op_add (pv 2) (pe_callB call_len (by rfl) B.len_ boot_len (pa_cons (pv 3) pa_nil))))))))
      (pss_one (ps_ret (pv 1))))), ?_⟩
    have hxH := fh _ _ hx
    refine ⟨_, rfl, x, _, 0, _, rfl, rfl, SqT.of hxH, at0 _ _, rfl, _, rfl, ?_⟩
    cases b with
    | dir n m t => exact absurd hk (by show ¬ (("directory" : Str) = "file" ∨ ("directory" : Str) = "sparse"); decide +kernel)
    | sym n m t g => exact absurd hk (by show ¬ (("symlink" : Str) = "file" ∨ ("symlink" : Str) = "sparse"); decide +kernel)
    | lnk n m t g => exact absurd hk (by show ¬ (("link" : Str) = "file" ∨ ("link" : Str) = "sparse"); decide +kernel)
    | file n m t ns =>
      obtain ⟨u, rfl, hu⟩ := hm
      refine iT (vstr_eq rfl) ⟨_, rfl, x, _, 4, _, rfl, rfl, SqT.of hxH, at4 _ _ _ _ _ _, ?_⟩
      exact k u ns F H hu ho.2.2.1 ho.2.2.2 (Gr.refl fh)
    | spa n m t z ps =>
      obtain ⟨q, u, rfl, hq, pl, us, rfl, hpl, hus⟩ := hm
      obtain ⟨_, _, z0, z1, ⟨hs, _, _⟩, h8, _⟩ := ho
      rw [sps_eq] at hs
      refine iF (vstr_ne (by decide +kernel : ("sparse" : Str) ≠ "file")) ?_
      refine ⟨(by show 1 ≤ sizeLine; decide), fun l1 hl1 => ?_⟩
      have g1 := (Gr.refl (S := []) fh).raw (o := .lst [.int 0]) hl1
      refine ⟨_, rfl, x, _, 4, _, rfl, rfl, SqT.of (g1.fh _ _ hx), at4 _ _ _ _ _ _, q, _, 0, _, rfl, rfl, SqT.of (g1.fh _ _ hq), at0 _ _, l1, z, _, rfl, rfl, upd_same, by omega, by omega, ?_, fun D hD => ?_⟩
      · show 1 * z.toNat ≤ sizeLine
        exact Nat.le_trans (show 1 * z.toNat ≤ 4096 by omega) (by decide)
      rw [rep0]
      have g2 := g1.raw (o := .lst ((List.replicate z.toNat (0 : Int)).map V.int)) hD
      have hD0 : H D = none := g1.dom _ hD
      have fD : F D = none := fh.free hD0
      refine ⟨_, rfl, x, _, 4, _, rfl, rfl, SqT.of (g2.fh _ _ hx), at4 _ _ _ _ _ _, q, _, 1, _, rfl, rfl, SqT.of (g2.fh _ _ hq), at1 _ _ _, pl, rfl, ⟨_, SqL.of (g2.fh _ _ hpl)⟩, ?_⟩
      refine for_it (walk_list (xs := us)) (fun i σ H' => ∃ (zs : List Int) (e : Int) (v2 v3 : Option V), σ = [some (.ref x), some (.ref D), v2, v3] ∧ Gr [] F H F H' ∧ H' D = some (.lst (zs.map V.int)) ∧ B8 zs ∧ (zs.length : Int) = z ∧ -1 ≤ e ∧ SpOk e (spsL (ps.drop i)) z) ?_ (fun i σ H' _ h => by obtain ⟨zs, e, v2, v3, _, g, _⟩ := h; exact SqL.of (g.fh _ _ hpl)) ?_ ?_
      · refine ⟨List.replicate z.toNat 0, -1, none, none, rfl, g2, upd_same, fun y hy => ?_, ?_, Int.le_refl _, hs⟩
        · rw [(List.mem_replicate.mp hy).2]; exact ⟨by decide, by decide⟩
        · rw [List.length_replicate]; omega
      · rintro i y σ H3 H4 hi ⟨zs, e, v2, v3, rfl, g, a1, a2, a3, a4, a5⟩ ⟨rfl, hy⟩
        obtain ⟨⟨o, ms⟩, hb, a, u', rfl, ha, w', rfl, hml⟩ := Pget hus hy
        have hd : ps.drop i = (o, ms) :: ps.drop (i + 1) := by
          rw [List.drop_eq_getElem?_toList_append, hb]; rfl
        rw [hd] at a5
        obtain ⟨b1, b2, b3⟩ : e < o ∧ 1 ≤ (ms.length : Int) ∧ SpOk (o + (ms.length : Int)) (spsL (ps.drop (i + 1))) z := a5
        have b4 := spOk_le b3
        have hmlH := g.fh _ _ hml
        refine ⟨a, _, rfl, SqT.of (g.fh _ _ ha), rfl, _, _, rfl, _, _, rfl, rfl, ?_⟩
        have hne : D ≠ w' := fun z => by rw [← z, fD] at hml; cases hml
        refine ⟨_, rfl, _, rfl, _, rfl, _, rfl, _, rfl, _, rfl, _, _, rfl, .inl ⟨_, SqL.of hmlH, rfl⟩, _, _, rfl, rfl, _, rfl, D, w', _, _, o, o + ((ms.map V.int).length : Int), rfl, rfl, rfl, rfl, a1, hmlH, hne, by omega, ?_, ?_, ?_, ?_⟩
        · rw [List.length_map]; omega
        · rw [List.length_map, List.length_map]; omega
        · rw [List.length_map, List.length_map]
          exact Nat.le_trans (show zs.length + ms.length ≤ 8192 by omega) (by decide)
        · refine ⟨zs.take o.toNat ++ ms ++ zs.drop (o + (ms.length : Int)).toNat, o + (ms.length : Int), _, _, rfl, g.mut (.inl hD0) fD, ?_, ?_, ?_, by omega, b3⟩
          · rw [upd_same, List.length_map, ← List.map_take, ← List.map_drop, ← List.map_append, ← List.map_append]
          · intro y hy'
            rcases List.mem_append.mp hy' with h | h
            · rcases List.mem_append.mp h with h | h
              · exact a2 y (List.mem_of_mem_take h)
              · exact h8 (o, ms) (List.mem_of_getElem? hb) y h
            · exact a2 y (List.mem_of_mem_drop h)
          · simp only [List.length_append, List.length_take, List.length_drop]
            omega
      · rintro σ H3 ⟨zs, e, v2, v3, rfl, g, a1, a2, a3, a4, a5⟩
        refine ⟨_, rfl, ?_⟩
        exact k (.ref D) zs _ H3 ⟨D, rfl, upd_same⟩ a2 (by omega) (g.seal hD0 fD a1)
end
end L2.K88

end
/-! K88L9 -/
section
set_option Elab.async false
set_option linter.all false
set_option maxRecDepth 100000
set_option maxHeartbeats 4000000
namespace L2.K88
open PySem PySem.Spec PyProof.Rows
section
variable {P : Program} {w : World} {K : PySem.W.Frag} {mg : Str → Option Value} {base : Heap}
theorem TrM.seal {F0 H0 F H : Hp} {p da df : Addr} {t : Tr} (M : TrM K F H p da df t) (g : Gr [] F0 H0 F H) (p0 : H0 p = none) (a0 : H0 da = none) (f0 : H0 df = none) : ∃ F', Gr [] F0 H0 F' H ∧ RTr K F' (.ref p) t := by
  obtain ⟨⟨h1, ⟨kvs, h2, h3⟩, us, h4, h5⟩, fp, fa, ff, npa, npf, naf, nd⟩ := M
  have g1 := g.seal p0 fp h1
  have fa1 : upd F p (.dK [(Sum.inr "at", .ref da), (Sum.inr "files", .ref df)]) da = none := by rw [upd_ne npa.symm]; exact fa
  have g2 := g1.seal a0 fa1 h2
  have ff1 : upd (upd F p (.dK [(Sum.inr "at", .ref da), (Sum.inr "files", .ref df)])) da (.dK kvs) df = none := by rw [upd_ne naf.symm, upd_ne npf.symm]; exact ff
  have g3 := g2.seal f0 ff1 h4
  have sm := (sameUpd (o := .dK [(Sum.inr "at", .ref da), (Sum.inr "files", .ref df)]) fp).trans ((sameUpd (o := .dK kvs) fa1).trans (sameUpd (o := .lst us) ff1))
  refine ⟨_, g3, p, da, df, rfl, ⟨by rw [upd_ne npf, upd_ne npa]; exact upd_same, ⟨kvs, by rw [upd_ne naf]; exact upd_same, mon_RAt sm h3⟩, us, upd_same, mon_RFl.paired sm h5⟩⟩
theorem scLStepped : FnScope ["_law_tree_here", "_law_spec_here", "_law_at", "_law_one", "_law_files"] ["_law_tree_here", "_law_spec_here"] (defScope sLStepped) := ⟨rfl, rfl, rfl, by decide +kernel, rfl, by decide +kernel, by decide +kernel⟩
theorem c_lstepped (D : DefX K mg "_law_stepped" sLStepped ["_law_tree_here", "_law_spec_here"]) (B : Bl mg) (cC : C8.Cal P w K mg base 1 "_law_copied" (spLCopied K) []) (cA : C8.Cal P w K mg base 1 "_law_above" spAbove []) (cX : C8.Cal P w K mg base 1 "_law_content" spLContent []) : C8.Cal P w K mg base 2 "_law_stepped" (spLStepped K) [] := by
  refine D.cal scLStepped (fun vs H Q E h => ?_) (fun f cdv A outer s H vs Q E hr h => ?_)
  · obtain ⟨F, v, u, t, b, rfl, _⟩ := h; rfl
  · obtain ⟨F, v, u, t, b, rfl, fh, hT, ⟨x, more, rfl, hx, hm⟩, ho, hfit, hnd, hz1, hz2, k⟩ := h
    have hu := hu_of hr
    refine ⟨_, pss_cons (ps_set (i := 0) scLStepped.nd rfl (Or.inl rfl) (C8.pe_c cC hr (by decide) (by rfl) (pa_cons (pv 0) pa_nil)))
      (pss_cons (ps_set (i := 2) scLStepped.nd rfl (Or.inl rfl) (pe_dget hu (pv 0) pe_str (fun _ _ => rfl)))
      (pss_cons (ps_for PassesOwn.never rfl (pi_list (C8.pe_c cA hr (by decide) (by rfl) (pa_cons (pe_ix ix_tup (pv 1) pe_int (fun _ _ => rfl)) pa_nil))) (pg_name (i := 3) scLStepped.nd rfl (Or.inl rfl))
        (pss_one (ps_expr (pe_dsetd (pv 2) (pv 3) (pe_tup (pa_cons pe_str (pa_cons pe_int (pa_cons pe_int pa_nil)))) ⟨rfl, rfl, rfl, rfl⟩))))
      (C8.pss_cut (ps_if (pt_cmpR op_eq (pe_ix ix_tup (pv 1) pe_int (fun _ _ => rfl)) pe_str (nomark _))
          (pss_one (ps_dput hu (pv 2) (pe_ix ix_tup (pv 1) pe_int (fun _ _ => rfl)) (pe_dget hu (pv 2) (pe_ix ix_tup (pv 1) pe_int (fun _ _ => rfl)) (fun _ _ => rfl)) rfl))
          (pss_one (ps_if (pt_cmpR op_eq (pe_ix ix_tup (pv 1) pe_int (fun _ _ => rfl)) pe_str (nomark _))
            (pss_one (ps_dput hu (pv 2) (pe_ix ix_tup (pv 1) pe_int (fun _ _ => rfl)) (pe_tup (pa_cons pe_str (pa_cons (pe_ix ix_tup (pv 1) pe_int (fun _ _ => rfl)) (pa_cons (pe_ix ix_tup (pv 1) pe_int (fun _ _ => rfl)) pa_nil)))) rfl))
            (pss_one (ps_if (pt_cmpR op_eq (pe_ix ix_tup (pv 1) pe_int (fun _ _ => rfl)) pe_str (nomark _))
              (pss_one (ps_dput hu (pv 2) (pe_ix ix_tup (pv 1) pe_int (fun _ _ => rfl)) (pe_tup (pa_cons pe_str (pa_cons (pe_ix ix_tup (pv 1) pe_int (fun _ _ => rfl)) (pa_cons (pe_ix ix_tup (pv 1) pe_int (fun _ _ => rfl)) (pa_cons (pe_ix ix_tup (pv 1) pe_int (fun _ _ => rfl)) pa_nil))))) rfl))
              (pss_cons (ps_set (i := 4) scLStepped.nd rfl (Or.inl rfl) (pe_dget hu (pv 0) pe_str (fun _ _ => rfl)))
                (pss_cons (ps_expr (pe_bm PySem.F.plainAttrs_list PySem.F.slot_list_append PySem.F.type_list_append mt_append (pv 4) (pa_cons (pe_tup (pa_cons pe_str (pa_cons (C8.pe_c cX hr (by decide) (by rfl) (pa_cons (pv 1) pa_nil)) (pa_cons (pe_ix ix_tup (pv 1) pe_int (fun _ _ => rfl)) (pa_cons (pe_ix ix_tup (pv 1) pe_int (fun _ _ => rfl)) pa_nil))))) pa_nil)))
                (pss_one (ps_dput hu (pv 2) (pe_ix ix_tup (pv 1) pe_int (fun _ _ => rfl)) (pe_tup (pa_cons pe_str (pa_cons (pe_op op_sub (pe_callB call_len (by rfl) B.len_ boot_len (pa_cons (pv 4) pa_nil)) pe_int) pa_nil))) rfl)))))))))
      (pss_one (ps_ret (pv 0)))))), ?_⟩
    refine ⟨_, rfl, F, v, t, rfl, fh, hT, by omega, fun H1 p da df g1 T1 p0 a0 f0 npa npf naf => ?_⟩
    have M1 : TrM K F H1 p da df t := ⟨T1, fh.free p0, fh.free a0, fh.free f0, npa, npf, naf, hnd⟩
    refine ⟨_, rfl, p, .ref da, rfl, get_at T1.hp, ?_⟩
    have hbz := ho.nm.1.2.1
    refine ⟨_, rfl, x, _, 1, _, rfl, rfl, SqT.of (g1.fh _ _ (g1.ff _ _ hx)), at1 _ _ _, b.nm, rfl, hbz, fun H2 l s2 hl0 hl => ?_⟩
    have g2 : Gr [] F H1 F H2 := ⟨Same.refl _, g1.fh.trans s2, fun b o _ e => s2 _ _ e, fun b e => s2.free e, fun b e _ => e⟩
    have g12 := g1.trans g2
    have M2 := M1.grow g2
    have nlp : l ≠ p := fun z => by rw [z, T1.hp] at hl0; cases hl0
    have nla : l ≠ da := fun z => by obtain ⟨kvs, h2, _⟩ := T1.ha; rw [z, h2] at hl0; cases hl0
    refine ⟨l, rfl, ⟨_, SqL.of hl⟩, ?_⟩
    refine for_it (walk_list (xs := (aboves b.nm).map V.str)) (fun i σ H' => ∃ F1 v3, σ = [some (.ref p), some (.ref x), some (.ref da), v3, none] ∧ Gr [] F H F1 H' ∧ TrM K F1 H' p da df ⟨upT t.ats ((aboves b.nm).take i), t.fls⟩ ∧ H' l = some (.lst ((aboves b.nm).map V.str))) ?_ (fun i σ H' _ h => by obtain ⟨F1, v3, _, _, _, h⟩ := h; exact SqL.of h) ?_ ?_
    · exact ⟨F, none, rfl, g12, M2, hl⟩
    · rintro i y σ H3 H4 hi ⟨F1, v3, rfl, g, M, hl3⟩ ⟨rfl, hy⟩
      rw [List.getElem?_map] at hy
      cases e : (aboves b.nm)[i]? with
      | none => rw [e] at hy; cases hy
      | some n =>
        rw [e] at hy
        obtain rfl : V.str n = y := Option.some.inj hy
        rw [List.length_map] at hi
        obtain ⟨kvs, h2, h3⟩ := M.at_.ha
        have hlen := upT_len ((aboves b.nm).take i) t.ats
        have hti : ((aboves b.nm).take i).length ≤ 250 := by
          rw [List.length_take]
          have := ab_len b.nm
          omega
        have hstep : upT t.ats ((aboves b.nm).take (i + 1)) = match lk (upT t.ats ((aboves b.nm).take i)) n with | some _ => upT t.ats ((aboves b.nm).take i) | none => pt (upT t.ats ((aboves b.nm).take i)) n (.dir 493 0) := by
          unfold upT
          rw [List.take_succ, e, List.foldl_append]; rfl
        refine ⟨_, rfl, da, rfl, .inl ⟨kvs, .inl h2⟩, _, rfl, (by show 3 ≤ sizeLine; decide), fun c hc => ?_⟩
        have gc := (Gr.refl (S := []) g.fh).new (o := .tup [.str "directory", .int 493, .int 0]) hc
        have Mc := M.grow gc
        obtain ⟨kvs', h2', h3'⟩ := Mc.at_.ha
        have ek : kvs' = kvs := by
          have := gc.same _ _ h2
          rw [h2'] at this
          cases this
          rfl
        subst ek
        have nlc : l ≠ c := ne_of_none hl3 hc
        refine ⟨kvs', Sum.inr n, h2', rfl, ?_, fun v' hv => ?_, fun hv => ?_⟩
        · rw [rk_len h3']
          exact Nat.lt_of_le_of_lt (show _ ≤ 99999 by show (upT t.ats ((aboves b.nm).take i)).length ≤ 99999; omega) (by decide)
        · rcases rk_val (k := n) h3' with ⟨e1, e2⟩ | ⟨th, v2, e1, e2, e3⟩
          · rw [hv] at e2; cases e2
          · have e1 : lk (upT t.ats ((aboves b.nm).take i)) n = some th := e1
            refine ⟨_, _, rfl, g.trans gc, ?_, by rw [upd_ne nlc]; exact hl3⟩
            rw [hstep, e1]
            exact Mc
        · rcases rk_val (k := n) h3' with ⟨e1, e2⟩ | ⟨th, v2, e1, e2, e3⟩
          · have e1 : lk (upT t.ats ((aboves b.nm).take i)) n = none := e1
            refine ⟨_, _, rfl, (g.trans gc).mut (.inl a0) Mc.fa, ?_, by rw [upd_ne nla, upd_ne nlc]; exact hl3⟩
            rw [hstep, e1]
            exact Mc.put h2' h3' ⟨c, rfl, SqT.of upd_same⟩
          · rw [hv] at e2; cases e2
    · rintro σ H3 ⟨F1, v3, rfl, g, M, hl3⟩
      rw [List.length_map, List.take_length] at M
      refine ⟨fun σ' H' => ∃ F2 t' v3 v4, σ' = [some (.ref p), some (.ref x), some (.ref da), v3, v4] ∧ Gr [] F H F2 H' ∧ TrM K F2 H' p da df t' ∧ StepR t b t', ?_, ?_⟩
      · have hx3 := g.fh _ _ (g.ff _ _ hx)
        obtain ⟨kvs, h2, h3⟩ := M.at_.ha
        have hlen := upT_len (aboves b.nm) t.ats
        have hal := ab_len b.nm
        have hk : kvs.length < sizeLine := by
          rw [rk_len h3]
          exact Nat.lt_of_le_of_lt (show _ ≤ 99999 by show (upT t.ats (aboves b.nm)).length ≤ 99999; omega) (by decide)
        refine ⟨_, rfl, x, _, 0, _, rfl, rfl, SqT.of hx3, at0 _ _, rfl, _, rfl, ?_⟩
        cases b with
        | lnk n m ti tg =>
          obtain rfl : more = [.str tg] := hm
          have hkt := hfit.2 n m ti tg rfl
          have hlk : ∃ th, lk t.ats tg = some th := by
            unfold kdAt at hkt
            cases e : lk t.ats tg with
            | none => rw [e] at hkt; exact absurd hkt (by decide +kernel)
            | some th => exact ⟨th, rfl⟩
          obtain ⟨th, hth⟩ := hlk
          have hth2 : lk (upT t.ats (aboves n)) tg = some th := upT_old _ _ _ _ hth
          rcases rk_val (k := tg) h3 with ⟨e1, e2⟩ | ⟨th', v2, e1, e2, e3⟩
          · have e1 : lk (upT t.ats (aboves n)) tg = none := e1
            rw [hth2] at e1; cases e1
          · have e1 : lk (upT t.ats (aboves n)) tg = some th' := e1
            rw [hth2] at e1
            cases e1
            refine iT (vstr_eq rfl) ?_
            refine ⟨_, rfl, _, rfl, x, _, 4, _, rfl, rfl, SqT.of hx3, at4 _ _ _ _ _ _, da, v2, rfl, by rw [← e2]; exact DGet.k (k := Sum.inr tg) h2, _, rfl, _, rfl, x, _, 1, _, rfl, rfl, SqT.of hx3, at1 _ _ _, da, _, rfl, DPut.k (k := Sum.inr n) h2 hk, ?_⟩
            exact ⟨F1, _, _, _, rfl, g.mut (.inl a0) M.fa, M.put h2 h3 e3, th, hth2, rfl⟩
        | dir n m ti =>
          refine iF (vstr_ne (by decide +kernel : ("directory" : Str) ≠ "link")) ?_
          refine ⟨_, rfl, x, _, 0, _, rfl, rfl, SqT.of hx3, at0 _ _, rfl, _, rfl, iT (vstr_eq rfl) ?_⟩
          refine ⟨_, rfl, x, _, 2, _, rfl, rfl, SqT.of hx3, at2 _ _ _ _, _, rfl, x, _, 3, _, rfl, rfl, SqT.of hx3, at3 _ _ _ _ _, (by show 3 ≤ sizeLine; decide), fun c hc => ?_⟩
          have gc := (Gr.refl (S := []) g.fh).new (o := .tup (Th.dir m ti).vs) hc
          have Mc := M.grow gc
          refine ⟨_, rfl, _, rfl, x, _, 1, _, rfl, rfl, SqT.of (gc.same _ _ hx3), at1 _ _ _, da, _, rfl, DPut.k (k := Sum.inr n) (gc.same _ _ h2) hk, ?_⟩
          exact ⟨_, _, _, _, rfl, (g.trans gc).mut (.inl a0) Mc.fa, Mc.put (gc.same _ _ h2) (mon_RAt gc.ff h3) (th := .dir m ti) ⟨c, rfl, SqT.of upd_same⟩, rfl⟩
        | sym n m ti tg =>
          obtain rfl : more = [.str tg] := hm
          refine iF (vstr_ne (by decide +kernel : ("symlink" : Str) ≠ "link")) ?_
          refine ⟨_, rfl, x, _, 0, _, rfl, rfl, SqT.of hx3, at0 _ _, rfl, _, rfl, iF (vstr_ne (by decide +kernel : ("symlink" : Str) ≠ "directory")) ?_⟩
          refine ⟨_, rfl, x, _, 0, _, rfl, rfl, SqT.of hx3, at0 _ _, rfl, _, rfl, iT (vstr_eq rfl) ?_⟩
          refine ⟨_, rfl, x, _, 4, _, rfl, rfl, SqT.of hx3, at4 _ _ _ _ _ _, _, rfl, x, _, 2, _, rfl, rfl, SqT.of hx3, at2 _ _ _ _, _, rfl, x, _, 3, _, rfl, rfl, SqT.of hx3, at3 _ _ _ _ _, (by show 4 ≤ sizeLine; decide), fun c hc => ?_⟩
          have gc := (Gr.refl (S := []) g.fh).new (o := .tup (Th.sym tg m ti).vs) hc
          have Mc := M.grow gc
          refine ⟨_, rfl, _, rfl, x, _, 1, _, rfl, rfl, SqT.of (gc.same _ _ hx3), at1 _ _ _, da, _, rfl, DPut.k (k := Sum.inr n) (gc.same _ _ h2) hk, ?_⟩
          exact ⟨_, _, _, _, rfl, (g.trans gc).mut (.inl a0) Mc.fa, Mc.put (gc.same _ _ h2) (mon_RAt gc.ff h3) (th := .sym tg m ti) ⟨c, rfl, SqT.of upd_same⟩, rfl⟩
        | file n m ti ns0 =>
          refine iF (vstr_ne (by decide +kernel : ("file" : Str) ≠ "link")) ?_
          refine ⟨_, rfl, x, _, 0, _, rfl, rfl, SqT.of hx3, at0 _ _, rfl, _, rfl, iF (vstr_ne (by decide +kernel : ("file" : Str) ≠ "directory")) ?_⟩
          refine ⟨_, rfl, x, _, 0, _, rfl, rfl, SqT.of hx3, at0 _ _, rfl, _, rfl, iF (vstr_ne (by decide +kernel : ("file" : Str) ≠ "symlink")) ?_⟩
          refine ⟨_, rfl, p, .ref df, rfl, get_fl M.at_.hp, ?_⟩
          obtain ⟨us, h4, h5⟩ := M.at_.hf
          refine ⟨_, rfl, .inl ⟨rfl, _, SqL.of h4⟩, _, rfl, F1, .ref x, .file n m ti ns0, rfl, g.fh, ⟨x, more, rfl, g.ff _ _ hx, mon_RMore g.ff hm⟩, ho, .inl rfl, fun cv ns F4 H4 hcv h8 hln g4 => ?_⟩
          have hx4 := g4.same _ _ hx3
          refine ⟨_, rfl, x, _, 2, _, rfl, rfl, SqT.of hx4, at2 _ _ _ _, _, rfl, x, _, 3, _, rfl, rfl, SqT.of hx4, at3 _ _ _ _ _, (by show 4 ≤ sizeLine; decide), fun c hc => ?_⟩
          have gc := g4.new (o := .tup [.str "file", cv, .int m, .int ti]) hc
          have Mc := M.grow gc
          have gg := g.trans gc
          have h4c := gc.same _ _ h4
          refine ⟨df, us, _, rfl, rfl, h4c, ?_, ?_⟩
          · rw [Plen h5]; exact Nat.lt_of_lt_of_le hz2 (by decide)
          have gd := gg.mut (p := df) (o := .lst (us ++ [.ref c])) (.inl f0) Mc.ff
          have hfl : Paired (RFl (upd F4 c (.tup [.str "file", cv, .int m, .int ti]))) (us ++ [.ref c]) (t.fls ++ [(ns, m, ti)]) := Psnoc (mon_RFl.paired gc.ff h5) ⟨c, cv, rfl, upd_same, mon_RNs _ _ _ _ (sameUpd (g4.fh.free hc)) hcv⟩
          have Md : TrM K (upd F4 c (.tup [.str "file", cv, .int m, .int ti])) (upd (upd H4 c (.tup [.str "file", cv, .int m, .int ti])) df (.lst (us ++ [.ref c]))) p da df ⟨upT t.ats (aboves n), t.fls ++ [(ns, m, ti)]⟩ :=
            ⟨⟨by rw [upd_ne npf]; exact Mc.at_.hp, ⟨kvs, by rw [upd_ne naf]; exact gc.same _ _ h2, mon_RAt gc.ff h3⟩, _, upd_same, hfl⟩, Mc.fp, Mc.fa, Mc.ff, npa, npf, naf, M.nd⟩
          refine ⟨_, rfl, _, _, rfl, .inl ⟨_, SqL.of upd_same, rfl⟩, _, _, rfl, rfl, (by show 2 ≤ sizeLine; decide), fun c2 hc2 => ?_⟩
          have g2 := (Gr.refl (S := []) gd.fh).new (o := .tup [.str "file", .int (((us ++ [V.ref c]).length : Int) - 1)]) hc2
          have M2 := Md.grow g2
          have eix : (((us ++ [V.ref c]).length : Int) - 1) = ((t.fls.length : Nat) : Int) := by
            rw [List.length_append, Plen h5]; simp
          have hx5 : upd (upd H4 c (.tup [.str "file", cv, .int m, .int ti])) df (.lst (us ++ [.ref c])) x = some _ := gd.fh _ _ (gd.ff _ _ hx)
          have hd5 : upd (upd H4 c (.tup [.str "file", cv, .int m, .int ti])) df (.lst (us ++ [.ref c])) da = some (.dK kvs) := by rw [upd_ne naf]; exact gc.same _ _ h2
          refine ⟨_, rfl, _, rfl, x, _, 1, _, rfl, rfl, SqT.of (g2.same _ _ hx5), at1 _ _ _, da, _, rfl, DPut.k (k := Sum.inr n) (g2.same _ _ hd5) hk, ?_⟩
          refine ⟨_, _, _, _, rfl, (gd.trans g2).mut (.inl a0) M2.fa, M2.put (g2.same _ _ hd5) (mon_RAt (gc.ff.trans g2.ff) h3) (th := .fil t.fls.length) ⟨c2, rfl, SqT.of (by rw [upd_same, eix]; rfl)⟩, ns, h8, hln, rfl⟩
        | spa n m ti z0 ps0 =>
          refine iF (vstr_ne (by decide +kernel : ("sparse" : Str) ≠ "link")) ?_
          refine ⟨_, rfl, x, _, 0, _, rfl, rfl, SqT.of hx3, at0 _ _, rfl, _, rfl, iF (vstr_ne (by decide +kernel : ("sparse" : Str) ≠ "directory")) ?_⟩
          refine ⟨_, rfl, x, _, 0, _, rfl, rfl, SqT.of hx3, at0 _ _, rfl, _, rfl, iF (vstr_ne (by decide +kernel : ("sparse" : Str) ≠ "symlink")) ?_⟩
          refine ⟨_, rfl, p, .ref df, rfl, get_fl M.at_.hp, ?_⟩
          obtain ⟨us, h4, h5⟩ := M.at_.hf
          refine ⟨_, rfl, .inl ⟨rfl, _, SqL.of h4⟩, _, rfl, F1, .ref x, .spa n m ti z0 ps0, rfl, g.fh, ⟨x, more, rfl, g.ff _ _ hx, mon_RMore g.ff hm⟩, ho, .inr rfl, fun cv ns F4 H4 hcv h8 hln g4 => ?_⟩
          have hx4 := g4.same _ _ hx3
          refine ⟨_, rfl, x, _, 2, _, rfl, rfl, SqT.of hx4, at2 _ _ _ _, _, rfl, x, _, 3, _, rfl, rfl, SqT.of hx4, at3 _ _ _ _ _, (by show 4 ≤ sizeLine; decide), fun c hc => ?_⟩
          have gc := g4.new (o := .tup [.str "file", cv, .int m, .int ti]) hc
          have Mc := M.grow gc
          have gg := g.trans gc
          have h4c := gc.same _ _ h4
          refine ⟨df, us, _, rfl, rfl, h4c, ?_, ?_⟩
          · rw [Plen h5]; exact Nat.lt_of_lt_of_le hz2 (by decide)
          have gd := gg.mut (p := df) (o := .lst (us ++ [.ref c])) (.inl f0) Mc.ff
          have hfl : Paired (RFl (upd F4 c (.tup [.str "file", cv, .int m, .int ti]))) (us ++ [.ref c]) (t.fls ++ [(ns, m, ti)]) := Psnoc (mon_RFl.paired gc.ff h5) ⟨c, cv, rfl, upd_same, mon_RNs _ _ _ _ (sameUpd (g4.fh.free hc)) hcv⟩
          have Md : TrM K (upd F4 c (.tup [.str "file", cv, .int m, .int ti])) (upd (upd H4 c (.tup [.str "file", cv, .int m, .int ti])) df (.lst (us ++ [.ref c]))) p da df ⟨upT t.ats (aboves n), t.fls ++ [(ns, m, ti)]⟩ :=
            ⟨⟨by rw [upd_ne npf]; exact Mc.at_.hp, ⟨kvs, by rw [upd_ne naf]; exact gc.same _ _ h2, mon_RAt gc.ff h3⟩, _, upd_same, hfl⟩, Mc.fp, Mc.fa, Mc.ff, npa, npf, naf, M.nd⟩
          refine ⟨_, rfl, _, _, rfl, .inl ⟨_, SqL.of upd_same, rfl⟩, _, _, rfl, rfl, (by show 2 ≤ sizeLine; decide), fun c2 hc2 => ?_⟩
          have g2 := (Gr.refl (S := []) gd.fh).new (o := .tup [.str "file", .int (((us ++ [V.ref c]).length : Int) - 1)]) hc2
          have M2 := Md.grow g2
          have eix : (((us ++ [V.ref c]).length : Int) - 1) = ((t.fls.length : Nat) : Int) := by
            rw [List.length_append, Plen h5]; simp
          have hx5 : upd (upd H4 c (.tup [.str "file", cv, .int m, .int ti])) df (.lst (us ++ [.ref c])) x = some _ := gd.fh _ _ (gd.ff _ _ hx)
          have hd5 : upd (upd H4 c (.tup [.str "file", cv, .int m, .int ti])) df (.lst (us ++ [.ref c])) da = some (.dK kvs) := by rw [upd_ne naf]; exact gc.same _ _ h2
          refine ⟨_, rfl, _, rfl, x, _, 1, _, rfl, rfl, SqT.of (g2.same _ _ hx5), at1 _ _ _, da, _, rfl, DPut.k (k := Sum.inr n) (g2.same _ _ hd5) hk, ?_⟩
          refine ⟨_, _, _, _, rfl, (gd.trans g2).mut (.inl a0) M2.fa, M2.put (g2.same _ _ hd5) (mon_RAt (gc.ff.trans g2.ff) h3) (th := .fil t.fls.length) ⟨c2, rfl, SqT.of (by rw [upd_same, eix]; rfl)⟩, ns, h8, hln, rfl⟩
      · rintro σ' H' ⟨F2, t', v3, v4, rfl, g', M', hst⟩
        obtain ⟨F3, g3, hT3⟩ := M'.seal g' p0 a0 f0
        exact ⟨_, rfl, k (.ref p) t' F3 H' hT3 hst g3⟩
end
end L2.K88

end
/-! K88L4 -/
section
set_option Elab.async false
set_option linter.all false
set_option maxRecDepth 100000
set_option maxHeartbeats 4000000
namespace L2.K88
open PySem PySem.Spec PyProof.Rows
abbrev sLSpec : Stmt := top 58
abbrev sSpecs : Stmt := top 60
def kinds : List Str := ["file", "file", "directory", "symlink", "link", "link", "sparse"]
def xx : Str := Txt.mul "x" 120
def tgts : List Str := ["a", "../b", "/", xx, "a//."]
instance (z : Str) : Decidable (NameOk z) := by unfold NameOk; infer_instance
theorem tgts_ok : ∀ z ∈ tgts, NameOk z := by decide +kernel
def spLSpec : Sp := fun vs H Q _ => ∃ (src : Addr) (n : Nat) (F : Hp) (z : Str) (l : Addr) (zs : List Str), vs = [.ref src, .str z, .ref l] ∧ Ok src (n + 700) F H ∧ F l = some (.lst (zs.map V.str)) ∧ PathOk z ∧ (∀ y ∈ zs, PathOk y) ∧ zs ≠ [] ∧ zs.length ≤ 100 ∧
  ∀ v b F' H', RSp F' v b → MbOk b → Gr [src] F H F' H' → Src H' src n → Q v H'
def spSpecs : Sp := fun vs H Q _ => ∃ (src : Addr) (n : Nat) (F : Hp) (most : Int), vs = [.ref src, .int most] ∧ 0 ≤ most ∧ most ≤ 12 ∧ Ok src (n + 10000) F H ∧ ∀ v ms F' H', RL RSp F' v ms → (∀ b ∈ ms, MbOk b) → ms.length ≤ 12 → Gr [src] F H F' H' → Src H' src n → Q v H'
section
variable {P : Program} {w : World} {K : PySem.W.Frag} {mg : Str → Option Value} {base : Heap}
theorem srcU {H : Hp} {src q : Addr} {n : Nat} {o : HO} (s : Src H src n) (hq : H q = none) : Src (upd H q o) src n := s.keep fun u e => by rw [upd_ne (ne_of_none e hq)]; exact e
theorem scLSpec : FnScope ["_law_source_here", "_law_name", "_law_names", "_law_bits", "_law_time_here", "_law_kind_here"] ["_law_source_here", "_law_name", "_law_names"] (defScope sLSpec) := ⟨rfl, rfl, rfl, by decide +kernel, rfl, by decide +kernel, by decide +kernel⟩
theorem c_lspec (D : DefX K mg "_law_spec" sLSpec ["_law_source_here", "_law_name", "_law_names"]) (B : Bl mg) (cD : C8.Cal P w K mg base 1 "_law_draw" spDraw []) (cS : C8.Cal P w K mg base 2 "_law_stamps" spLStamps []) (cN : C8.Cal P w K mg base 2 "_law_numbers" spNums []) (cP : C8.Cal P w K mg base 2 "_law_pieces" spLPieces []) :
    C8.Cal P w K mg base 3 "_law_spec" spLSpec [] := by
  refine D.cal scLSpec (fun vs H Q E h => ?_) (fun f cdv A outer s H vs Q E hr h => ?_)
  · obtain ⟨src, n, F, z, l, zs, rfl, _⟩ := h; rfl
  · obtain ⟨src, n, F, z, l, zs, rfl, O, hl, hz, hzs, hne, hlen, k⟩ := h
    refine ⟨_, pss_cons (ps_asg (C8.pe_c cS hr (by decide) (by rfl) (pa_cons (pv 0) pa_nil)) (pg_tup (by rfl) (pgs_cons (pg_name (i := 3) scLSpec.nd rfl (Or.inl rfl)) (pgs_cons (pg_name (i := 4) scLSpec.nd rfl (Or.inl rfl)) pgs_nil))))
      (pss_cons (ps_set (i := 5) scLSpec.nd rfl (Or.inl rfl) (pe_ix ix_list (pe_lst (pa_cons pe_str (pa_cons pe_str (pa_cons pe_str (pa_cons pe_str (pa_cons pe_str (pa_cons pe_str (pa_cons pe_str pa_nil)))))))) (C8.pe_c cD hr (by decide) (by rfl) (pa_cons (pv 0) (pa_cons pe_int pa_nil))) (fun _ _ => rfl)))
      (pss_cons (ps_if (pt_cmpR op_eq (pv 5) pe_str (nomark _)) (pss_one (ps_ret (pe_tup (pa_cons (pv 5) (pa_cons (pv 1) (pa_cons (pv 3) (pa_cons (pv 4) (pa_cons (C8.pe_c cN hr (by decide) (by rfl) (pa_cons (pv 0) pa_nil)) pa_nil)))))))) pss_nil)
      (pss_cons (ps_if (pt_cmpR op_eq (pv 5) pe_str (nomark _)) (pss_one (ps_ret (pe_tup (pa_cons (pv 5) (pa_cons (pv 1) (pa_cons (pv 3) (pa_cons (pv 4) pa_nil))))))) pss_nil)
      (pss_cons (ps_if (pt_cmpR op_eq (pv 5) pe_str (nomark _)) (pss_one (ps_ret (pe_tup (pa_cons (pv 5) (pa_cons (pv 1) (pa_cons (pv 3) (pa_cons (pv 4) (pa_cons (C8.pe_c cP hr (by decide) (by rfl) (pa_cons (pv 0) pa_nil)) pa_nil)))))))) pss_nil)
      (pss_cons (ps_if (pt_cmpR op_eq (pv 5) pe_str (nomark _)) (pss_one (ps_ret (pe_tup (pa_cons (pv 5) (pa_cons (pv 1) (pa_cons (pv 3) (pa_cons (pv 4) (pa_cons (pe_ix ix_list (pe_lst (pa_cons pe_str (pa_cons pe_str (pa_cons pe_str (pa_cons (pe_op op_mulStr pe_str pe_int) (pa_cons pe_str pa_nil)))))) (C8.pe_c cD hr (by decide) (by rfl) (pa_cons (pv 0) (pa_cons pe_int pa_nil))) (fun _ _ => rfl)) pa_nil)))))))) pss_nil)
      (pss_one (ps_ret (pe_tup (pa_cons (pv 5) (pa_cons (pv 1) (pa_cons (pv 3) (pa_cons (pv 4) (pa_cons (pe_ix ix_list (pv 2) (C8.pe_c cD hr (by decide) (by rfl) (pa_cons (pv 0) (pa_cons (pe_callB call_len (by rfl) B.len_ boot_len (pa_cons (pv 2) pa_nil)) pa_nil))) (fun _ _ => rfl)) pa_nil))))))))))))), ?_⟩
    refine ⟨_, rfl, src, n + 698, F, rfl, O, fun p m t H1 hp hp0 hmt g1 s1 => ?_⟩
    refine ⟨p, _, rfl, SqT.of hp, rfl, _, _, rfl, _, _, rfl, rfl, ?_⟩
    refine ⟨(by show 7 ≤ sizeLine; decide), fun l1 hl1 => ?_⟩
    have hsl : src ≠ l1 := by
      obtain ⟨o, e⟩ := s1.obj
      exact ne_of_none e hl1
    have g2 := g1.raw (o := .lst (kinds.map V.str)) hl1
    refine ⟨_, rfl, src, n + 697, 7, F, rfl, O.next g2 (srcU s1 hl1), by decide, by decide, fun d H2 d0 d1 g3 s3 => ?_⟩
    obtain ⟨kd, hkd, hat⟩ := atI_map V.str (xs := kinds) d0 d1
    refine ⟨l1, _, _, _, rfl, rfl, SqL.of (g3.keep (by simp [hsl.symm]) upd_same), hat, ?_⟩
    have g4 := g2.trans g3
    have O4 := O.next g4 s3
    have hk : kd = "file" ∨ kd = "directory" ∨ kd = "sparse" ∨ kd = "symlink" ∨ kd = "link" := by
      have : kd ∈ kinds := hkd
      simp only [kinds, List.mem_cons, List.mem_nil_iff, or_false] at this
      rcases this with h | h | h | h | h | h | h <;> simp [h]
    have no : ∀ {a b : Str}, a ≠ b → decide (V.str a = V.str b) = false := fun h => decide_eq_false fun z => h (V.str.inj z)
    have yes : ∀ {a : Str}, decide (V.str a = V.str a) = true := decide_eq_true rfl
    rcases hk with rfl | rfl | rfl | rfl | rfl
    · refine ⟨_, rfl, rfl, _, rfl, iT yes ?_⟩
      refine ⟨_, rfl, _, rfl, _, rfl, _, rfl, _, rfl, src, n, F, rfl, O4.le (by omega), fun v ns F' H' hv h8 hln g5 s5 => ?_⟩
      refine ⟨(by show 5 ≤ sizeLine; decide), fun q hq => ?_⟩
      have g6 := (g4.trans g5).new (o := .tup [.str "file", .str z, .int m, .int t, v]) hq
      exact k (.ref q) (.file z m t ns) _ _ ⟨q, [v], rfl, upd_same, v, rfl, mon_RNs _ _ _ _ (sameUpd ((g4.trans g5).fh.free hq)) hv⟩ ⟨hz, hmt, h8, Nat.le_trans hln (by decide)⟩ g6 (srcU s5 hq)
    · refine ⟨_, rfl, rfl, _, rfl, iF (no (by decide +kernel)) ?_⟩
      refine ⟨_, rfl, rfl, _, rfl, iT yes ?_⟩
      refine ⟨_, rfl, _, rfl, _, rfl, _, rfl, (by show 4 ≤ sizeLine; decide), fun q hq => ?_⟩
      have g6 := g4.new (o := .tup [.str "directory", .str z, .int m, .int t]) hq
      exact k (.ref q) (.dir z m t) _ _ ⟨q, [], rfl, upd_same, rfl⟩ ⟨hz, hmt⟩ g6 (srcU (s3.le (by omega)) hq)
    · refine ⟨_, rfl, rfl, _, rfl, iF (no (by decide +kernel)) ?_⟩
      refine ⟨_, rfl, rfl, _, rfl, iF (no (by decide +kernel)) ?_⟩
      refine ⟨_, rfl, rfl, _, rfl, iT yes ?_⟩
      refine ⟨_, rfl, _, rfl, _, rfl, _, rfl, _, rfl, src, n, F, rfl, O4.le (by omega), fun p2 z2 u ps F' H' hp2 hu hok g5 s5 => ?_⟩
      refine ⟨(by show 5 ≤ sizeLine; decide), fun q hq => ?_⟩
      have g6 := (g4.trans g5).new (o := .tup [.str "sparse", .str z, .int m, .int t, .ref p2]) hq
      have sm := sameUpd (o := .tup [.str "sparse", .str z, .int m, .int t, .ref p2]) ((g4.trans g5).fh.free hq)
      exact k (.ref q) (.spa z m t z2 ps) _ _ ⟨q, [.ref p2], rfl, upd_same, p2, u, rfl, sm _ _ hp2, mon_RL mon_RPc _ _ _ _ sm hu⟩ ⟨hz, hmt, hok.1, hok.2.1, hok.2.2.1, hok.2.2.2.1, hok.2.2.2.2⟩ g6 (srcU s5 hq)
    · refine ⟨_, rfl, rfl, _, rfl, iF (no (by decide +kernel)) ?_⟩
      refine ⟨_, rfl, rfl, _, rfl, iF (no (by decide +kernel)) ?_⟩
      refine ⟨_, rfl, rfl, _, rfl, iF (no (by decide +kernel)) ?_⟩
      refine ⟨_, rfl, rfl, _, rfl, iT yes ?_⟩
      refine ⟨_, rfl, _, rfl, _, rfl, _, rfl, "x", 120, rfl, rfl, mulOk_of 1 120 (by decide +kernel) (by decide) (by decide) (by decide) (by decide), (by show 5 ≤ sizeLine; decide), fun l2 hl2 => ?_⟩
      have hsl2 : src ≠ l2 := by
        obtain ⟨o, e⟩ := s3.obj
        exact ne_of_none e hl2
      have g5 := g4.raw (o := .lst (tgts.map V.str)) hl2
      refine ⟨_, rfl, src, n, 5, F, rfl, (O.next g5 (srcU s3 hl2)).le (by omega), by decide, by decide, fun d' H3 e0 e1 g6 s6 => ?_⟩
      obtain ⟨g, hg, hat2⟩ := atI_map V.str (xs := tgts) e0 e1
      refine ⟨l2, _, _, _, rfl, rfl, SqL.of (g6.keep (by simp [hsl2.symm]) upd_same), hat2, (by show 5 ≤ sizeLine; decide), fun q hq => ?_⟩
      have g7 := (g5.trans g6).new (o := .tup [.str "symlink", .str z, .int m, .int t, .str g]) hq
      exact k (.ref q) (.sym z m t g) _ _ ⟨q, [.str g], rfl, upd_same, rfl⟩ ⟨hz, hmt, tgts_ok g hg⟩ g7 (srcU s6 hq)
    · refine ⟨_, rfl, rfl, _, rfl, iF (no (by decide +kernel)) ?_⟩
      refine ⟨_, rfl, rfl, _, rfl, iF (no (by decide +kernel)) ?_⟩
      refine ⟨_, rfl, rfl, _, rfl, iF (no (by decide +kernel)) ?_⟩
      refine ⟨_, rfl, rfl, _, rfl, iF (no (by decide +kernel)) ?_⟩
      have hlH := g4.fh _ _ (g4.ff _ _ hl)
      have hpos : 1 ≤ zs.length := List.length_pos_iff.mpr hne
      refine ⟨_, rfl, _, rfl, _, rfl, _, rfl, _, rfl, _, rfl, _, rfl, _, _, rfl, .inl ⟨_, SqL.of hlH, rfl⟩, src, n, _, F, rfl, O4.le (by omega), ?_, ?_, fun d' H3 e0 e1 g6 s6 => ?_⟩
      · rw [List.length_map]; omega
      · rw [List.length_map]; omega
      · rw [List.length_map] at e1
        obtain ⟨g, hg, hat2⟩ := atI_map V.str (xs := zs) e0 e1
        refine ⟨l, _, _, _, rfl, rfl, SqL.of (g6.fh _ _ hl), hat2, (by show 5 ≤ sizeLine; decide), fun q hq => ?_⟩
        have g7 := (g4.trans g6).new (o := .tup [.str "link", .str z, .int m, .int t, .str g]) hq
        exact k (.ref q) (.lnk z m t g) _ _ ⟨q, [.str g], rfl, upd_same, rfl⟩ ⟨hz, hmt, hzs g hg⟩ g7 (srcU s6 hq)
end
end L2.K88

end
/-! K88L5 -/
section
set_option Elab.async false
set_option linter.all false
set_option maxRecDepth 100000
set_option maxHeartbeats 4000000
namespace L2.K88
open PySem PySem.Spec PyProof.Rows
theorem head_split (z : Str) : ∃ p, p ∈ pz z ∧ atI ((Txt.split z slash).map V.str) 0 = some (.str (SX.S p)) := by
  rw [split_eq]
  cases e : pz z with
  | nil => exact absurd e (pz_ne z)
  | cons p r => exact ⟨p, by simp, atI_nat (j := 0) (by simp)⟩
section
variable {P : Program} {w : World} {K : PySem.W.Frag} {mg : Str → Option Value} {base : Heap}
theorem scSpecs : FnScope ["_law_source_here", "_law_most", "_law_turn", "_law_names", "_law_found", "_law_name"] ["_law_source_here", "_law_most"] (defScope sSpecs) := ⟨rfl, rfl, rfl, by decide +kernel, rfl, by decide +kernel, by decide +kernel⟩
theorem c_specs (D : DefX K mg "_law_specs" sSpecs ["_law_source_here", "_law_most"]) (B : Bl mg) (cD : C8.Cal P w K mg base 1 "_law_draw" spDraw []) (cP : C8.Cal P w K mg base 2 "_law_path" spPath []) (cS : C8.Cal P w K mg base 3 "_law_spec" spLSpec []) : C8.Cal P w K mg base 4 "_law_specs" spSpecs [] := by
  refine D.cal scSpecs (fun vs H Q E h => ?_) (fun f cdv A outer s H vs Q E hr h => ?_)
  · obtain ⟨src, n, F, most, rfl, _⟩ := h; rfl
  · obtain ⟨src, n, F, most, rfl, m0, m1, O, k⟩ := h
    refine ⟨_, pss_cons (ps_setLc (i := 3) (own := [("_law_turn", 2)]) (g := gName 2) (tt := tYes) rfl scSpecs.nd rfl rfl (sw_true rfl rfl rfl (by decide +kernel)) (pi_range1 (by rfl) B.range_ (pa_cons (pe_op op_add pe_int (C8.pe_c cD hr (by decide) (by rfl) (pa_cons (pv 0) (pa_cons pe_int pa_nil)))) pa_nil)) (blkOk_by (N := ["_law_source_here", "_law_most", "_law_turn", "_law_names", "_law_found", "_law_name"]) (sc := defScope sSpecs) (by decide +kernel)) (fun _ _ _ _ _ => pg_name (i := 2) scSpecs.nd rfl (Or.inl rfl)) (fun _ _ _ _ _ => pts_nil)
        (fun _ _ _ _ _ => C8.pe_c cP hr (by decide) (by rfl) (pa_cons (pv 0) pa_nil)))
      (pss_cons (ps_par (i := 3) (j := 4) (by rfl) scSpecs.nd rfl rfl (by decide) rfl rfl (pa_cons (pe_op op_cat (pv 3) (pe_lc (own := [("_law_name", 5)]) (g := gName 5) (tt := tYes) rfl scSpecs.nd (pi_list (pv 3)) (blkOk_by (N := ["_law_source_here", "_law_most", "_law_turn", "_law_names", "_law_found", "_law_name"]) (sc := defScope sSpecs) (by decide +kernel)) (fun _ _ _ _ _ => pg_name (i := 5) scSpecs.nd rfl (Or.inl rfl)) (fun _ _ _ _ _ => pts_nil)
          (fun _ _ _ _ _ => pe_ix (ix_list : IxR _ (rIxL K)) (pe_split (pv 5) pe_str) pe_int (fun _ _ => rfl)))) (pa_cons (pe_lst pa_nil) pa_nil)) (by rfl))
      (pss_cons (ps_for PassesOwn.never rfl (pi_range1 (by rfl) B.range_ (pa_cons (C8.pe_c cD hr (by decide) (by rfl) (pa_cons (pv 0) (pa_cons (pe_op op_add (pv 1) pe_int) pa_nil))) pa_nil)) (pg_name (i := 2) scSpecs.nd rfl (Or.inl rfl))
        (pss_one (ps_expr (pe_bm PySem.F.plainAttrs_list PySem.F.slot_list_append PySem.F.type_list_append mt_append (pv 4) (pa_cons (C8.pe_c cS hr (by decide) (by rfl) (pa_cons (pv 0) (pa_cons (pe_ix ix_list (pv 3) (C8.pe_c cD hr (by decide) (by rfl) (pa_cons (pv 0) (pa_cons (pe_callB call_len (by rfl) B.len_ boot_len (pa_cons (pv 3) pa_nil)) pa_nil))) (fun _ _ => rfl)) (pa_cons (pv 3) pa_nil)))) pa_nil)))))
      (pss_one (ps_ret (pv 4))))), ?_⟩
    refine ⟨_, rfl, src, n + 9999, 5, F, rfl, O, by decide, by decide, fun d H1 d0 d1 g1 s1 => ?_⟩
    have O1 := O.next g1 s1
    refine ⟨_, _, rfl, rfl, 1 + d, rfl, by omega, by omega, fun D hD => ?_⟩
    have hDs : src ≠ D := by
      obtain ⟨o, e⟩ := s1.obj
      exact ne_of_none e hD
    have hD0 : H D = none := g1.dom _ hD
    have fD : F D = none := O.fh.free hD0
    refine lc_it (walk_range (lo := 0) (n := (1 + d).toNat)) (fun i H' => ∃ zs : List Str, Gr [src] F H F H' ∧ Src H' src (n + 9900 + 5 * (5 - i)) ∧ H' D = some (.lst (zs.map V.str)) ∧ (∀ z ∈ zs, PathOk z) ∧ zs.length = i) ?_ (fun i H' _ h => True.intro) ?_ ?_
    · exact ⟨[], g1.raw hD, (srcU s1 hD).le (by omega), upd_same, fun z hz => by simp at hz, rfl⟩
    · rintro i x H2 H3 hi ⟨zs, g2, s2, hD2, hz, hln⟩ ⟨rfl, rfl⟩
      have hi5 : i < 5 := by omega
      refine ⟨rfl, _, rfl, src, n + 9900 + 5 * (5 - (i + 1)), F, rfl, (O.next g2 s2).le (by omega), fun z H4 hzo g4 s4 => ?_⟩
      refine ⟨_, g4.keep (by simp [hDs.symm]) hD2, ?_, zs ++ [z], (g2.trans g4).mut (.inl hD0) fD, s4.keep fun o e => by rw [upd_ne hDs]; exact e, ?_, ?_, ?_⟩
      · rw [List.length_map, hln]; exact Nat.lt_of_lt_of_le hi5 (by decide)
      · rw [upd_same, List.map_append]; rfl
      · intro y hy
        rcases List.mem_append.mp hy with h | h
        · exact hz y h
        · rw [List.mem_singleton] at h; rw [h]; exact hzo
      · rw [List.length_append, hln]; rfl
    · rintro H2 ⟨zs, g2, s2, hD2, hz, hln⟩
      have hzl : zs.length ≤ 5 := by omega
      have hz1 : 1 ≤ zs.length := by omega
      refine ⟨_, rfl, _, rfl, D, rfl, ⟨_, SqL.of hD2⟩, fun D2 hE => ?_⟩
      have hEs : src ≠ D2 := by
        obtain ⟨o, e⟩ := s2.obj
        exact ne_of_none e hE
      have hE0 : H D2 = none := g2.dom _ hE
      have fE : F D2 = none := O.fh.free hE0
      have nDE : D ≠ D2 := ne_of_none hD2 hE
      refine lc_it (walk_list (xs := zs.map V.str)) (fun i H' => ∃ ys : List Str, Gr [src] F H F H' ∧ Src H' src (n + 9900) ∧ H' D = some (.lst (zs.map V.str)) ∧ H' D2 = some (.lst (ys.map V.str)) ∧ (∀ z ∈ ys, PathOk z) ∧ ys.length = i) ?_ (fun i H' _ h => by obtain ⟨ys, _, _, h, _⟩ := h; exact SqL.of h) ?_ ?_
      · exact ⟨[], g2.raw hE, (srcU s2 hE).le (by omega), by rw [upd_ne nDE]; exact hD2, upd_same, fun z hz => by simp at hz, rfl⟩
      · rintro i x H3 H4 hi ⟨ys, g3, s3, hD3, hE3, hy, hyl⟩ ⟨rfl, hx⟩
        rw [List.getElem?_map] at hx
        cases e : zs[i]? with
        | none => rw [e] at hx; cases hx
        | some z =>
          rw [e] at hx
          obtain rfl : V.str z = x := Option.some.inj hx
          rw [List.length_map] at hi
          have hzo := hz z (List.mem_of_getElem? e)
          refine ⟨rfl, _, rfl, ⟨_, rfl⟩, z, slash, rfl, rfl, (by decide +kernel), Nat.le_trans (Nat.add_le_add_right hzo.1.2.1 2) (by decide), fun q hq => ?_⟩
          obtain ⟨p, hp, hat⟩ := head_split z
          have nq1 : D ≠ q := ne_of_none hD3 hq
          have nq2 : D2 ≠ q := ne_of_none hE3 hq
          refine ⟨q, _, 0, _, rfl, rfl, SqL.of upd_same, hat, ?_⟩
          refine ⟨_, by rw [upd_ne nq2]; exact hE3, ?_, ys ++ [SX.S p], (g3.raw hq).mut (.inl hE0) fE, ?_, ?_, ?_, ?_, ?_⟩
          · rw [List.length_map, hyl]; exact Nat.lt_of_lt_of_le (show i < 6 by omega) (by decide)
          · exact (srcU s3 hq).keep fun o e => by rw [upd_ne hEs]; exact e
          · rw [upd_ne nDE, upd_ne nq1]; exact hD3
          · rw [upd_same, List.map_append]; rfl
          · intro y hy'
            rcases List.mem_append.mp hy' with h | h
            · exact hy y h
            · rw [List.mem_singleton] at h; rw [h]; exact head_ok hzo hp
          · rw [List.length_append, hyl]; rfl
      · rintro H3 ⟨ys, g3, s3, hD3, hE3, hy, hyl⟩
        rw [List.length_map] at hyl
        refine ⟨D, D2, _, _, rfl, rfl, hD3, hE3, ?_, fun l hl => ?_⟩
        · rw [List.length_map, List.length_map]; exact Nat.le_trans (show zs.length + ys.length ≤ 10 by omega) (by decide)
        rw [← List.map_append]
        have g4 := g3.new (o := .lst ((zs ++ ys).map V.str)) hl
        refine ⟨(by show 0 ≤ sizeLine; decide), fun fnd hf => ?_⟩
        have nlf : l ≠ fnd := ne_of_none upd_same hf
        have hf0 : H fnd = none := g4.dom _ hf
        have g5 := g4.raw (o := .lst []) hf
        have s5 := srcU (o := .lst []) (srcU (o := .lst ((zs ++ ys).map V.str)) s3 hl) hf
        have hfs : src ≠ fnd := fun e => by obtain ⟨o, e2⟩ := O.sr.obj; rw [e, hf0] at e2; cases e2
        have hall : ∀ y ∈ zs ++ ys, PathOk y := fun y h => by
          rcases List.mem_append.mp h with h | h
          · exact hz y h
          · exact hy y h
        have hnl : (zs ++ ys).length ≤ 100 := by rw [List.length_append]; omega
        have hn1 : 1 ≤ (zs ++ ys).length := by rw [List.length_append]; omega
        refine ⟨_, _, rfl, ?_⟩
        refine ⟨_, rfl, _, rfl, _, _, rfl, rfl, src, n + 9899, most + 1, _, rfl, O.next g5 s5, by omega, by omega, fun d' H5 e0 e1 g6 s6 => ?_⟩
        have g56 := g5.trans g6
        refine ⟨d', rfl, by omega, by omega, ?_⟩
        have hff : upd F l (.lst ((zs ++ ys).map V.str)) fnd = none := by rw [upd_ne nlf.symm]; exact O.fh.free hf0
        refine for_it (walk_range (lo := 0) (n := d'.toNat)) (fun i σ H' => ∃ F1 acc ms v2, σ = [some (.ref src), some (.int most), v2, some (.ref l), some (.ref fnd), none] ∧ Gr [src] F H F1 H' ∧ F1 fnd = none ∧ F1 l = some (.lst ((zs ++ ys).map V.str)) ∧ H' fnd = some (.lst acc) ∧ Paired (RSp F1) acc ms ∧ (∀ b ∈ ms, MbOk b) ∧ ms.length = i ∧ Src H' src (n + 701 * (12 - i))) ?_ (fun i σ H' _ h => True.intro) ?_ ?_
        · exact ⟨_, [], [], none, rfl, g56, hff, upd_same, g6.keep (by simp [hfs.symm]) upd_same, .nil, fun b hb => by simp at hb, rfl, s6.le (by omega)⟩
        · rintro i x σ H6 H7 hi ⟨F1, acc, ms, v2, rfl, g, f1, f2, a1, a2, a3, a4, s⟩ ⟨rfl, rfl⟩
          have hi12 : i < 12 := by omega
          have O7 := O.next g s
          have hlH := g.fh _ _ f2
          refine ⟨_, rfl, .inl ⟨rfl, _, SqL.of a1⟩, ?_⟩
          refine ⟨_, rfl, _, rfl, _, rfl, _, rfl, _, _, rfl, .inl ⟨_, SqL.of hlH, rfl⟩, src, n + 701 * (12 - (i + 1)) + 700, _, F1, rfl, O7.le (by omega), ?_, ?_, fun d2 H8 b0 b1 g8 s8 => ?_⟩
          · rw [List.length_map]; omega
          · rw [List.length_map]; omega
          rw [List.length_map] at b1
          obtain ⟨z, hzm, hat⟩ := atI_map V.str (xs := zs ++ ys) b0 b1
          have O8 := O7.next g8 s8
          refine ⟨l, _, _, _, rfl, rfl, SqL.of (g8.fh _ _ f2), hat, ?_⟩
          refine ⟨_, rfl, src, n + 701 * (12 - (i + 1)), F1, z, l, zs ++ ys, rfl, O8.le (by omega), f2, hall z hzm, hall, (by intro e; rw [e] at hn1; simp at hn1), hnl, fun v b F9 H9 hv hb g9 s9 => ?_⟩
          have hf8 : H8 fnd = some (.lst acc) := g8.keep (by simp [hfs.symm]) a1
          have hf9 : H9 fnd = some (.lst acc) := g9.keep (by simp [hfs.symm]) hf8
          have g89 := (g.trans g8).trans g9
          have ff9 : F9 fnd = none := g9.notF f1 hf8
          refine ⟨fnd, _, _, rfl, rfl, hf9, ?_, F9, acc ++ [v], ms ++ [b], _, rfl, g89.mut (.inl hf0) ff9, ff9, g9.ff _ _ f2, upd_same, Psnoc (mon_RSp.paired g9.ff a2) hv, ?_, ?_, s9.keep fun o e => by rw [upd_ne hfs]; exact e⟩
          · rw [Plen a2, a4]; exact Nat.lt_of_lt_of_le hi12 (by decide)
          · intro y hy'
            rcases List.mem_append.mp hy' with h | h
            · exact a3 y h
            · rw [List.mem_singleton] at h; rw [h]; exact hb
          · rw [List.length_append, a4]; rfl
        · rintro σ H6 ⟨F1, acc, ms, v2, rfl, g, f1, f2, a1, a2, a3, a4, s⟩
          refine ⟨_, rfl, ?_⟩
          exact k (.ref fnd) ms _ H6 ⟨fnd, acc, rfl, upd_same, mon_RSp.paired (sameUpd f1) a2⟩ a3 (by omega) (g.seal hf0 f1 a1) (s.le (by omega))
end
end L2.K88

end
/-! K88M2 -/
section
set_option Elab.async false
set_option linter.all false
set_option maxRecDepth 100000
set_option maxHeartbeats 4000000
/-! trees, kinds, entries: plain -/
namespace L2.K88
open PySem PySem.Spec PyProof.Rows
def ThOk (fls : List Fl) : Th → Prop
  | .fil i => i < fls.length
  | .dir m t => MtOk m t
  | .sym g m t => NameOk g ∧ MtOk m t
structure TrOk (t : Tr) : Prop where
  nd : (ky t.ats).Nodup
  ok : ∀ z th, lk t.ats z = some th → PathOk z ∧ ThOk t.fls th
  ab : ∀ z th, lk t.ats z = some th → ∀ q ∈ aboves z, ∃ m ti, lk t.ats q = some (.dir m ti)
  fl : ∀ f ∈ t.fls, B8 f.1 ∧ f.1.length ≤ 4096 ∧ MtOk f.2.1 f.2.2
def okd : Mb → Str
  | .dir .. => "directory"
  | .sym .. => "symlink"
  | _ => "file"
def kdPut (k : Str → Str) (b : Mb) (q : Str) : Str := if q = b.nm then okd b else if k q = "absent" ∧ q ∈ aboves b.nm then ("directory" : Str) else k q
theorem lk_upT : ∀ (qs : List Str) (a : At) (q : Str), lk (upT a qs) q = match lk a q with
    | some th => some th
    | none => if q ∈ qs then some (.dir 493 0) else none
  | [], a, q => by cases h : lk a q <;> simp [upT, h]
  | r :: qs, a, q => by
    show lk (upT (match lk a r with | some _ => a | none => pt a r (.dir 493 0)) qs) q = _
    cases e : lk a r with
    | some x =>
      show lk (upT a qs) q = _
      rw [lk_upT qs a q]
      cases h : lk a q with
      | some th => rfl
      | none =>
        have hne : q ≠ r := fun z => by rw [z, e] at h; cases h
        simp [hne]
    | none =>
      show lk (upT (pt a r (.dir 493 0)) qs) q = _
      rw [lk_upT qs _ q, lk_pt]
      by_cases z : q = r
      · rw [if_pos z, z, e]; simp
      · rw [if_neg z]
        cases h : lk a q with
        | some th => rfl
        | none => simp [z]
theorem th_na : ∀ th : Th, th.kd ≠ "absent"
  | .fil _ => (by decide +kernel : ("file" : Str) ≠ "absent")
  | .dir _ _ => (by decide +kernel : ("directory" : Str) ≠ "absent")
  | .sym _ _ _ => (by decide +kernel : ("symlink" : Str) ≠ "absent")
theorem kd_upT (qs : List Str) (a : At) (q : Str) : kdAt (upT a qs) q = if kdAt a q = "absent" ∧ q ∈ qs then ("directory" : Str) else kdAt a q := by
  unfold kdAt
  rw [lk_upT]
  cases h : lk a q with
  | some th =>
    have : ¬ (th.kd = "absent" ∧ q ∈ qs) := fun z => th_na th z.1
    simp only
    rw [if_neg this]
  | none =>
    by_cases hq : q ∈ qs
    · simp [hq]; rfl
    · simp [hq]
theorem kd_upAb : ∀ (qs : List Str) (h : Hs) (q : Str), kdAt (upAb h qs).ats q = if kdAt h.ats q = "absent" ∧ q ∈ qs then ("directory" : Str) else kdAt h.ats q
  | [], h, q => by simp [upAb]
  | r :: qs, h, q => by
    show kdAt (upAb (if kdAt h.ats r = "absent" then setT h r (.dir 493 0) else h) qs).ats q = _
    rw [kd_upAb qs _ q]
    by_cases e : kdAt h.ats r = "absent"
    · rw [if_pos e, kd_set]
      by_cases z : q = r
      · have c : q = r ∧ isLnk (Rw.dir 493 0) = false := ⟨z, rfl⟩
        have hd : ¬ (Rw.kd (.dir 493 0) = "absent" ∧ q ∈ qs) := fun y => absurd y.1 (show ¬ (("directory" : Str) = "absent") by decide +kernel)
        have c2 : kdAt h.ats q = "absent" ∧ q ∈ r :: qs := ⟨by rw [z]; exact e, by rw [z]; simp⟩
        simp only [if_pos c, if_neg hd, if_pos c2]
        rfl
      · have c : ¬ (q = r ∧ isLnk (Rw.dir 493 0) = false) := fun y => z y.1
        simp only [if_neg c]
        simp only [List.mem_cons, z, false_or]
    · rw [if_neg e]
      have : (q ∈ r :: qs ∧ kdAt h.ats q = "absent") ↔ (q ∈ qs ∧ kdAt h.ats q = "absent") := by
        constructor
        · rintro ⟨h1, h2⟩
          rcases List.mem_cons.mp h1 with z | z
          · rw [z] at h2; exact absurd h2 e
          · exact ⟨z, h2⟩
        · rintro ⟨h1, h2⟩; exact ⟨List.mem_cons_of_mem _ h1, h2⟩
      by_cases c : kdAt h.ats q = "absent" ∧ q ∈ qs
      · rw [if_pos c, if_pos ⟨c.1, List.mem_cons_of_mem _ c.2⟩]
      · rw [if_neg c, if_neg fun y => c ⟨y.1, (this.mp ⟨y.2, y.1⟩).1⟩]
theorem rwMb_kd {b : Mb} (h : b.kd ≠ "link") : isLnk (rwMb b) = false ∧ (rwMb b).kd = okd b := by
  cases b with
  | lnk n m t g => exact absurd rfl h
  | file n m t ns => exact ⟨rfl, rfl⟩
  | dir n m t => exact ⟨rfl, rfl⟩
  | sym n m t g => exact ⟨rfl, rfl⟩
  | spa n m t z ps => exact ⟨rfl, rfl⟩
theorem kd_putH {h : Hs} {b : Mb} (hn : b.kd ≠ "link") : kdAt (putH h b).ats = kdPut (kdAt h.ats) b := by
  funext q
  have hr := rwMb_kd hn
  unfold putH
  rw [kd_set, kd_upAb]
  unfold kdPut
  by_cases z : q = b.nm
  · rw [if_pos ⟨z, hr.1⟩, if_pos z]; exact hr.2
  · rw [if_neg (fun y => z y.1), if_neg z]
theorem kd_pt (a : At) (n q : Str) (th : Th) : kdAt (pt a n th) q = if q = n then th.kd else kdAt a q := by
  unfold kdAt
  rw [lk_pt]
  by_cases z : q = n
  · rw [if_pos z, if_pos z]
  · rw [if_neg z, if_neg z]
theorem step_th {t t' : Tr} {b : Mb} (h : StepR t b t') : ∃ th, t'.ats = pt (upT t.ats (aboves b.nm)) b.nm th ∧ ((∀ n m ti g, b ≠ .lnk n m ti g) → th.kd = okd b) ∧ (∀ n m ti g, b = .lnk n m ti g → lk (upT t.ats (aboves n)) g = some th) := by
  cases b with
  | lnk n m ti g => obtain ⟨th, h1, rfl⟩ := h; exact ⟨th, rfl, fun z => absurd rfl (z _ _ _ _), fun _ _ _ _ e => by cases e; exact h1⟩
  | dir n m ti => obtain rfl : t' = _ := h; exact ⟨_, rfl, fun _ => rfl, fun _ _ _ _ e => nomatch e⟩
  | sym n m ti g => obtain rfl : t' = _ := h; exact ⟨_, rfl, fun _ => rfl, fun _ _ _ _ e => nomatch e⟩
  | file n m ti ns => obtain ⟨ns', _, _, rfl⟩ := h; exact ⟨_, rfl, fun _ => rfl, fun _ _ _ _ e => nomatch e⟩
  | spa n m ti z ps => obtain ⟨ns', _, _, rfl⟩ := h; exact ⟨_, rfl, fun _ => rfl, fun _ _ _ _ e => nomatch e⟩
theorem kd_step {t t' : Tr} {b : Mb} (h : StepR t b t') (hn : b.kd ≠ "link") : kdAt t'.ats = kdPut (kdAt t.ats) b := by
  obtain ⟨th, e, h1, _⟩ := step_th h
  have h2 := h1 fun n m ti g z => hn (by rw [z]; rfl)
  funext q
  rw [e, kd_pt, kd_upT]
  unfold kdPut
  by_cases z : q = b.nm
  · rw [if_pos z, if_pos z]; exact h2
  · rw [if_neg z, if_neg z]
theorem kd_dir {a : At} {q : Str} (h : kdAt a q = "directory") : ∃ m t, lk a q = some (.dir m t) := by
  unfold kdAt at h
  cases e : lk a q with
  | none => rw [e] at h; exact absurd h (by decide +kernel)
  | some th =>
    rw [e] at h
    cases th with
    | dir m t => exact ⟨m, t, rfl⟩
    | fil i => exact absurd h (show ¬ (("file" : Str) = "directory") by decide +kernel)
    | sym g m t => exact absurd h (show ¬ (("symlink" : Str) = "directory") by decide +kernel)
theorem dir_kd {a : At} {q : Str} {m t : Int} (h : lk a q = some (.dir m t)) : kdAt a q = "directory" := by unfold kdAt; rw [h]; rfl
theorem step_len {t t' : Tr} {b : Mb} (ho : MbOk b) (h : StepR t b t') : t'.ats.length ≤ t.ats.length + 251 ∧ t'.fls.length ≤ t.fls.length + 1 := by
  obtain ⟨th, e, _⟩ := step_th h
  have h1 := upT_len (aboves b.nm) t.ats
  have h2 := ab_len b.nm
  have h3 := ho.nm.1.2.1
  have h4 := len_pt b.nm th (upT t.ats (aboves b.nm))
  refine ⟨by rw [e]; omega, ?_⟩
  cases b with
  | lnk n m ti g => obtain ⟨th, _, rfl⟩ := h; exact Nat.le_succ _
  | dir n m ti => obtain rfl : t' = _ := h; exact Nat.le_succ _
  | sym n m ti g => obtain rfl : t' = _ := h; exact Nat.le_succ _
  | file n m ti ns => obtain ⟨ns', _, _, rfl⟩ := h; simp
  | spa n m ti z ps => obtain ⟨ns', _, _, rfl⟩ := h; simp
theorem step_fls {t t' : Tr} {b : Mb} (h : StepR t b t') (hm : MtOk b.mo b.ti) : t'.fls = t.fls ∨ ∃ ns, B8 ns ∧ ns.length ≤ 4096 ∧ ∃ m ti, MtOk m ti ∧ t'.fls = t.fls ++ [(ns, m, ti)] := by
  cases b with
  | lnk n m ti g => obtain ⟨th, _, rfl⟩ := h; exact .inl rfl
  | dir n m ti => obtain rfl : t' = _ := h; exact .inl rfl
  | sym n m ti g => obtain rfl : t' = _ := h; exact .inl rfl
  | file n m ti ns => obtain ⟨ns', h1, h2, rfl⟩ := h; exact .inr ⟨ns', h1, h2, m, ti, hm, rfl⟩
  | spa n m ti z ps => obtain ⟨ns', h1, h2, rfl⟩ := h; exact .inr ⟨ns', h1, h2, m, ti, hm, rfl⟩
theorem thOk_up {f g : List Fl} {th : Th} (h : ThOk f th) (hl : f.length ≤ g.length) : ThOk g th := by
  cases th with
  | fil i => exact Nat.lt_of_lt_of_le h hl
  | dir m t => exact h
  | sym g m t => exact h
theorem step_ok {t t' : Tr} {b : Mb} (T : TrOk t) (ho : MbOk b) (hf : FitsL t.ats b) (h : StepR t b t') : TrOk t' := by
  obtain ⟨th, e, h1, h2⟩ := step_th h
  have hfl := step_fls h ho.mt
  have hle : t.fls.length ≤ t'.fls.length := by
    rcases hfl with e | ⟨ns, _, _, m, ti, _, e⟩ <;> rw [e] <;> simp
  have hab : ∀ q ∈ aboves b.nm, ∃ m ti, lk (upT t.ats (aboves b.nm)) q = some (.dir m ti) := fun q hq => by
    rw [lk_upT]
    rcases hf.1.1 q hq with k | k
    · cases c : lk t.ats q with
      | none => exact ⟨493, 0, by simp [hq]⟩
      | some x =>
        unfold kdAt at k
        rw [c] at k
        exact absurd k (th_na x)
    · obtain ⟨m, ti, c⟩ := kd_dir k
      exact ⟨m, ti, by rw [c]⟩
  have hlk : ∀ z, lk t'.ats z = if z = b.nm then some th else lk (upT t.ats (aboves b.nm)) z := fun z => by rw [e, lk_pt]
  have hnm : lk t'.ats b.nm = some th := by rw [hlk, if_pos rfl]
  have hth : ThOk t'.fls th := by
    cases b with
    | lnk n m ti g =>
      have h3 := h2 n m ti g rfl
      rw [lk_upT] at h3
      cases c : lk t.ats g with
      | some x => rw [c] at h3; cases h3; exact thOk_up (T.ok g _ c).2 hle
      | none =>
        have hk := hf.2 n m ti g rfl
        unfold kdAt at hk
        rw [c] at hk
        exact absurd hk (by decide +kernel)
    | dir n m ti =>
      obtain rfl : t' = _ := h
      have h3 : lk (pt _ n _) n = some th := hnm
      rw [lk_pt, if_pos rfl] at h3
      cases h3
      exact ho.2
    | sym n m ti g =>
      obtain rfl : t' = _ := h
      have h3 : lk (pt _ n _) n = some th := hnm
      rw [lk_pt, if_pos rfl] at h3
      cases h3
      exact ⟨ho.2.2, ho.2.1⟩
    | file n m ti ns =>
      obtain ⟨ns', _, _, rfl⟩ := h
      have h3 : lk (pt _ n _) n = some th := hnm
      rw [lk_pt, if_pos rfl] at h3
      cases h3
      show t.fls.length < (t.fls ++ _).length
      simp
    | spa n m ti z ps =>
      obtain ⟨ns', _, _, rfl⟩ := h
      have h3 : lk (pt _ n _) n = some th := hnm
      rw [lk_pt, if_pos rfl] at h3
      cases h3
      show t.fls.length < (t.fls ++ _).length
      simp
  -- what stood as a directory stands as one
  have old : ∀ q m ti, lk t.ats q = some (.dir m ti) → ∃ m ti, lk t'.ats q = some (.dir m ti) := fun q m ti c => by
    rw [hlk]
    by_cases z : q = b.nm
    · rw [if_pos z]
      have hk := dir_kd c
      rw [z] at hk
      have hfk := hf.1.2
      rw [hk] at hfk
      cases b with
      | dir n m2 ti2 =>
        obtain rfl : t' = _ := h
        have h3 : lk (pt _ n _) n = some th := hnm
        rw [lk_pt, if_pos rfl] at h3
        exact ⟨m2, ti2, h3.symm⟩
      | lnk n m ti g => exact absurd rfl hfk
      | sym n m ti g => exact absurd rfl hfk
      | file n m ti ns => exact absurd rfl hfk
      | spa n m ti z ps => exact absurd rfl hfk
    · rw [if_neg z, lk_upT, c]
      exact ⟨m, ti, rfl⟩
  refine ⟨?_, fun z x hx => ?_, fun z x hx q hq => ?_, fun f hff => ?_⟩
  · rw [e]; exact nd_pt (upT_nd _ _ T.nd)
  · rw [hlk] at hx
    by_cases c : z = b.nm
    · rw [if_pos c] at hx
      cases hx
      exact ⟨by rw [c]; exact ho.nm, hth⟩
    · rw [if_neg c, lk_upT] at hx
      cases d : lk t.ats z with
      | some y => rw [d] at hx; cases hx; exact ⟨(T.ok z _ d).1, thOk_up (T.ok z _ d).2 hle⟩
      | none =>
        rw [d] at hx
        by_cases hz : z ∈ aboves b.nm
        · simp only [hz, if_true] at hx
          cases hx
          exact ⟨above_ok ho.nm hz, by decide, by decide, by decide, by decide⟩
        · simp [hz] at hx
  · rw [hlk] at hx
    by_cases c : z = b.nm
    · rw [c] at hq
      obtain ⟨m, ti, d⟩ := hab q hq
      exact ⟨m, ti, by rw [hlk, if_neg (above_ne hq)]; exact d⟩
    · rw [if_neg c, lk_upT] at hx
      cases d : lk t.ats z with
      | some y =>
        obtain ⟨m, ti, f⟩ := T.ab z _ d q hq
        exact old q m ti f
      | none =>
        rw [d] at hx
        by_cases hz : z ∈ aboves b.nm
        · have hq2 := above_trans hz hq
          obtain ⟨m, ti, d⟩ := hab q hq2
          exact ⟨m, ti, by rw [hlk, if_neg (above_ne hq2)]; exact d⟩
        · simp [hz] at hx
  · rcases hfl with e | ⟨ns, a1, a2, m, ti, a3, e⟩
    · rw [e] at hff; exact T.fl f hff
    · rw [e] at hff
      rcases List.mem_append.mp hff with y | y
      · exact T.fl f y
      · rw [List.mem_singleton] at y; rw [y]; exact ⟨a1, a2, a3⟩
theorem ok0 : TrOk ⟨[], []⟩ := ⟨List.nodup_nil, fun z th h => by simp [lk] at h, fun z th h => by simp [lk] at h, fun f h => by simp at h⟩
/-! ### entries -/
def fbT (fls : List Fl) (i : Nat) : Rw := match fls[i]? with
  | some (ns, m, t) => .fil (byteArr ns) m t
  | none => .dir 0 0
theorem rws_ky (a : At) (fb : Nat → Rw) : ∀ (ks : List Str) (fs : List (Nat × Str)), (∀ z ∈ ks, z ∈ ky a) → ky (rws a fb ks fs) = ks
  | [], _, _ => rfl
  | z :: r, fs, h => by
    have hz := h z (by simp)
    have hr := fun y hy => h y (List.mem_cons_of_mem _ hy)
    rw [rws]
    cases e : lk a z with
    | none => exact absurd hz (lk_none.mp e)
    | some th =>
      cases th with
      | dir m t => exact congrArg (z :: ·) (rws_ky a fb r fs hr)
      | sym g m t => exact congrArg (z :: ·) (rws_ky a fb r fs hr)
      | fil i =>
        simp only
        cases n : nk fs i with
        | some u => exact congrArg (z :: ·) (rws_ky a fb r fs hr)
        | none => exact congrArg (z :: ·) (rws_ky a fb r _ hr)
theorem nk_snoc {fs : List (Nat × Str)} {i j : Nat} {z u : Str} (h : nk (fs ++ [(i, z)]) j = some u) : nk fs j = some u ∨ (j = i ∧ u = z) := by
  unfold nk at h ⊢
  rw [List.find?_append] at h
  cases e : fs.find? (fun p => decide (p.1 = j)) with
  | some p => rw [e] at h; exact .inl h
  | none =>
    rw [e] at h
    simp only [Option.none_or, List.find?_cons, List.find?_nil] at h
    by_cases c : i = j
    · simp [c] at h; exact .inr ⟨c.symm, h.symm⟩
    · simp [c] at h
theorem rws_mem (a : At) (fb : Nat → Rw) : ∀ (ks : List Str) (fs : List (Nat × Str)) (z : Str) (r : Rw), (z, r) ∈ rws a fb ks fs →
    (∃ m t, lk a z = some (.dir m t) ∧ r = .dir m t) ∨ (∃ g m t, lk a z = some (.sym g m t) ∧ r = .sym g m t) ∨ ∃ i, lk a z = some (.fil i) ∧ (r = fb i ∨ ∃ u, r = .lnk u ∧ (nk fs i = some u ∨ (u, fb i) ∈ rws a fb ks fs))
  | [], _, z, r, h => by simp [rws] at h
  | y :: ks, fs, z, r, h => by
    rw [rws] at h ⊢
    cases e : lk a y with
    | none =>
      rw [e] at h
      exact rws_mem a fb ks fs z r h
    | some th =>
      rw [e] at h
      cases th with
      | dir m t =>
        rcases List.mem_cons.mp h with c | c
        · cases c; exact .inl ⟨m, t, e, rfl⟩
        · rcases rws_mem a fb ks fs z r c with d | d | ⟨i, d1, d2⟩
          · exact .inl d
          · exact .inr (.inl d)
          · exact .inr (.inr ⟨i, d1, d2.imp id fun ⟨u, e1, e2⟩ => ⟨u, e1, e2.imp id (List.mem_cons_of_mem _)⟩⟩)
      | sym g m t =>
        rcases List.mem_cons.mp h with c | c
        · cases c; exact .inr (.inl ⟨g, m, t, e, rfl⟩)
        · rcases rws_mem a fb ks fs z r c with d | d | ⟨i, d1, d2⟩
          · exact .inl d
          · exact .inr (.inl d)
          · exact .inr (.inr ⟨i, d1, d2.imp id fun ⟨u, e1, e2⟩ => ⟨u, e1, e2.imp id (List.mem_cons_of_mem _)⟩⟩)
      | fil j =>
        simp only at h ⊢
        cases n : nk fs j with
        | some v =>
          rw [n] at h
          rcases List.mem_cons.mp h with c | c
          · cases c; exact .inr (.inr ⟨j, e, .inr ⟨v, rfl, .inl n⟩⟩)
          · rcases rws_mem a fb ks fs z r c with d | d | ⟨i, d1, d2⟩
            · exact .inl d
            · exact .inr (.inl d)
            · exact .inr (.inr ⟨i, d1, d2.imp id fun ⟨u, e1, e2⟩ => ⟨u, e1, e2.imp id (List.mem_cons_of_mem _)⟩⟩)
        | none =>
          rw [n] at h
          rcases List.mem_cons.mp h with c | c
          · cases c; exact .inr (.inr ⟨j, e, .inl rfl⟩)
          · rcases rws_mem a fb ks _ z r c with d | d | ⟨i, d1, d2⟩
            · exact .inl d
            · exact .inr (.inl d)
            · refine .inr (.inr ⟨i, d1, d2.imp id fun ⟨u, e1, e2⟩ => ⟨u, e1, ?_⟩⟩)
              rcases e2 with e2 | e2
              · rcases nk_snoc e2 with e3 | ⟨rfl, rfl⟩
                · exact .inl e3
                · exact .inr (by simp)
              · exact .inr (List.mem_cons_of_mem _ e2)
theorem fbT_ok {t : Tr} (T : TrOk t) {z : Str} {i : Nat} (h : lk t.ats z = some (.fil i)) : ∃ ns m ti, fbT t.fls i = .fil (byteArr ns) m ti ∧ B8 ns ∧ ns.length ≤ 4096 ∧ MtOk m ti := by
  have hi : i < t.fls.length := (T.ok z _ h).2
  have e := List.getElem?_eq_getElem hi
  have hf := T.fl _ (List.getElem_mem hi)
  obtain ⟨ns, m, ti⟩ : Fl := t.fls[i]
  refine ⟨t.fls[i].1, t.fls[i].2.1, t.fls[i].2.2, ?_, hf.1, hf.2.1, hf.2.2⟩
  unfold fbT
  rw [e]
theorem ens_ok {t : Tr} (T : TrOk t) {ks : List Str} (hp : ks.Perm (ky t.ats)) : EnsOk (rws t.ats (fbT t.fls) ks []) ∧ ∀ z, kdEn (rws t.ats (fbT t.fls) ks []) z = kdAt t.ats z := by
  have hk : ky (rws t.ats (fbT t.fls) ks []) = ks := rws_ky _ _ _ _ fun z hz => hp.mem_iff.mp hz
  have nd : (ky (rws t.ats (fbT t.fls) ks [])).Nodup := by rw [hk]; exact hp.nodup_iff.mpr T.nd
  have dirAt : ∀ q m ti, lk t.ats q = some (.dir m ti) → lk (rws t.ats (fbT t.fls) ks []) q = some (.dir m ti) := fun q m ti h => by
    have hq : q ∈ ky (rws t.ats (fbT t.fls) ks []) := by rw [hk]; exact hp.mem_iff.mpr (lk_mem.mp (by rw [h]; rfl))
    cases e : lk (rws t.ats (fbT t.fls) ks []) q with
    | none => exact absurd hq (lk_none.mp e)
    | some r =>
      rcases rws_mem _ _ _ _ q r (lk_in e) with ⟨m', t', c, rfl⟩ | ⟨g, m', t', c, rfl⟩ | ⟨i, c, _⟩
      · rw [h] at c; cases c; rfl
      · rw [h] at c; cases c
      · rw [h] at c; cases c
  have lnkAt : ∀ z u, (z, Rw.lnk u) ∈ rws t.ats (fbT t.fls) ks [] → (∃ i, lk t.ats z = some (.fil i)) ∧ ∃ b m ti, lk (rws t.ats (fbT t.fls) ks []) u = some (.fil b m ti) := fun z u h => by
    rcases rws_mem _ _ _ _ z _ h with ⟨m', t', c, d⟩ | ⟨g, m', t', c, d⟩ | ⟨i, c, d⟩
    · cases d
    · cases d
    · obtain ⟨ns, m, ti, f, _⟩ := fbT_ok T c
      rcases d with d | ⟨u', d, n | n⟩
      · rw [f] at d; cases d
      · cases n
      · cases d
        rw [f] at n
        exact ⟨⟨i, c⟩, _, _, _, in_lk nd n⟩
  refine ⟨⟨nd, fun e he => ?_, fun e he q hq => ?_, fun e he z hz => ?_⟩, fun z => ?_⟩
  · obtain ⟨z, r⟩ := e
    rcases rws_mem _ _ _ _ z r he with ⟨m', t', c, rfl⟩ | ⟨g, m', t', c, rfl⟩ | ⟨i, c, d⟩
    · exact T.ok z _ c
    · exact T.ok z _ c
    · obtain ⟨ns, m, ti, f, f1, f2, f3⟩ := fbT_ok T c
      refine ⟨(T.ok z _ c).1, ?_⟩
      rcases d with rfl | ⟨u', rfl, n | n⟩
      · show RwOk (fbT t.fls i)
        rw [f]
        exact ⟨by rw [byteArr_size]; exact f2, f3⟩
      · cases n
      · have hu : u' ∈ ky (rws t.ats (fbT t.fls) ks []) := List.mem_map.mpr ⟨_, n, rfl⟩
        rw [hk] at hu
        have := hp.mem_iff.mp hu
        cases c2 : lk t.ats u' with
        | none => exact absurd this (lk_none.mp c2)
        | some x => exact (T.ok u' _ c2).1
  · have hz : e.1 ∈ ky (rws t.ats (fbT t.fls) ks []) := List.mem_map.mpr ⟨_, he, rfl⟩
    rw [hk] at hz
    have := hp.mem_iff.mp hz
    cases c2 : lk t.ats e.1 with
    | none => exact absurd this (lk_none.mp c2)
    | some x =>
      obtain ⟨m, ti, c3⟩ := T.ab _ _ c2 q hq
      exact ⟨m, ti, dirAt q m ti c3⟩
  · obtain ⟨y, r⟩ := e
    have hz : r = .lnk z := hz
    rw [hz] at he
    exact (lnkAt y z he).2
  · unfold kdEn
    cases c : lk (rws t.ats (fbT t.fls) ks []) z with
    | none =>
      have : z ∉ ky t.ats := fun y => lk_none.mp c (by rw [hk]; exact hp.mem_iff.mpr y)
      unfold kdAt
      rw [lk_none.mpr this]
    | some r =>
      rcases rws_mem _ _ _ _ z r (lk_in c) with ⟨m', t', d, rfl⟩ | ⟨g, m', t', d, rfl⟩ | ⟨i, d, f⟩
      · unfold kdAt; rw [d]; rfl
      · unfold kdAt; rw [d]; rfl
      · unfold kdAt
        rw [d]
        obtain ⟨ns, m, ti, f1, _⟩ := fbT_ok T d
        rcases f with rfl | ⟨u', rfl, _⟩
        · rw [f1]; rfl
        · rfl
theorem rws_len (a : At) (fb : Nat → Rw) : ∀ (ks : List Str) (fs : List (Nat × Str)), (rws a fb ks fs).length ≤ ks.length
  | [], _ => Nat.le_refl _
  | z :: r, fs => by
    rw [rws]
    cases lk a z with
    | none => exact Nat.le_succ_of_le (rws_len a fb r fs)
    | some th =>
      cases th with
      | dir m t => exact Nat.succ_le_succ (rws_len a fb r fs)
      | sym g m t => exact Nat.succ_le_succ (rws_len a fb r fs)
      | fil i =>
        simp only
        cases nk fs i with
        | some u => exact Nat.succ_le_succ (rws_len a fb r fs)
        | none => exact Nat.succ_le_succ (rws_len a fb r _)
end L2.K88

end
/-! K88L10 -/
section
set_option Elab.async false
set_option linter.all false
set_option maxRecDepth 100000
set_option maxHeartbeats 4000000
namespace L2.K88
open PySem PySem.Spec PyProof.Rows
abbrev sLEntries : Stmt := top 70
def spLEntries (K : PySem.W.Frag) : Sp := fun vs H Q _ => ∃ (F : Hp) (v : V) (t : Tr), vs = [v] ∧ Same F H ∧ RTr K F v t ∧ TrOk t ∧ t.ats.length < 100000 ∧ ∀ v' es F' H', RL (REn K) F' v' es → EnsOk es → (∀ z, kdEn es z = kdAt t.ats z) → es.length ≤ t.ats.length → Gr [] F H F' H' → Q v' H'
section
variable {P : Program} {w : World} {K : PySem.W.Frag} {mg : Str → Option Value} {base : Heap}
theorem scLEntries : FnScope ["_law_tree_here", "_law_found", "_law_first", "_law_name", "_law_thing", "_law_word_here", "_law_numbers_here", "_law_bits", "_law_time_here"] ["_law_tree_here"] (defScope sLEntries) := ⟨rfl, rfl, rfl, by decide +kernel, rfl, by decide +kernel, by decide +kernel⟩
theorem c_lentries (D : DefX K mg "_law_entries" sLEntries ["_law_tree_here"]) (B : Bl mg) (cB : C8.Cal P w K mg base 3 "blob" spBlob []) : C8.Cal P w K mg base 4 "_law_entries" (spLEntries K) [] := by
  refine D.cal scLEntries (fun vs H Q E h => ?_) (fun f cdv A outer s H vs Q E hr h => ?_)
  · obtain ⟨F, v, t, rfl, _⟩ := h; rfl
  · obtain ⟨F, v, t, rfl, fh, hT, hO, hz, k⟩ := h
    have hu := hu_of hr
    refine ⟨_, pss_cons (ps_par (i := 1) (j := 2) (by rfl) scLEntries.nd rfl rfl (by decide) rfl rfl (pa_cons (pe_lst pa_nil) (pa_cons pe_dnewK pa_nil)) (by rfl))
      (pss_cons (ps_for PassesOwn.never rfl (pi_list (pe_callB (call_sortedDS rfl) (by rfl) B.sorted_ boot_sorted (pa_cons (pe_dget hu (pv 0) pe_str (fun _ _ => rfl)) pa_nil))) (pg_name (i := 3) scLEntries.nd rfl (Or.inl rfl))
        (pss_cons (ps_set (i := 4) scLEntries.nd rfl (Or.inl rfl) (pe_dget hu (pe_dget hu (pv 0) pe_str (fun _ _ => rfl)) (pv 3) (fun _ _ => rfl)))
        (pss_one (ps_if (pt_cmpR op_ne (pe_ix ix_tup (pv 4) pe_int (fun _ _ => rfl)) pe_str (nomark _))
          (pss_one (ps_expr (pe_bm PySem.F.plainAttrs_list PySem.F.slot_list_append PySem.F.type_list_append mt_append (pv 1) (pa_cons (pe_tup (pa_cons (pv 3) (pa_cons (pv 4) pa_nil))) pa_nil))))
          (pss_one (ps_if (pt_cmp (pc_din hu (pe_ix ix_tup (pv 4) pe_int (fun _ _ => rfl)) (pv 2)))
            (pss_one (ps_expr (pe_bm PySem.F.plainAttrs_list PySem.F.slot_list_append PySem.F.type_list_append mt_append (pv 1) (pa_cons (pe_tup (pa_cons (pv 3) (pa_cons (pe_tup (pa_cons pe_str (pa_cons (pe_dget hu (pv 2) (pe_ix ix_tup (pv 4) pe_int (fun _ _ => rfl)) (fun _ _ => rfl)) pa_nil))) pa_nil))) pa_nil))))
            (pss_cons (ps_dput hu (pv 2) (pe_ix ix_tup (pv 4) pe_int (fun _ _ => rfl)) (pv 3) rfl)
            (pss_cons (ps_asg (pe_ix ix_list (pe_dget hu (pv 0) pe_str (fun _ _ => rfl)) (pe_ix ix_tup (pv 4) pe_int (fun _ _ => rfl)) (fun _ _ => rfl)) (pg_tup (by rfl) (pgs_cons (pg_name (i := 5) scLEntries.nd rfl (Or.inl rfl)) (pgs_cons (pg_name (i := 6) scLEntries.nd rfl (Or.inl rfl)) (pgs_cons (pg_name (i := 7) scLEntries.nd rfl (Or.inl rfl)) (pgs_cons (pg_name (i := 8) scLEntries.nd rfl (Or.inl rfl)) pgs_nil))))))
              (pss_one (ps_expr (pe_bm PySem.F.plainAttrs_list PySem.F.slot_list_append PySem.F.type_list_append mt_append (pv 1) (pa_cons (pe_tup (pa_cons (pv 3) (pa_cons (pe_tup (pa_cons (pv 5) (pa_cons (C8.pe_c cB hr (by decide) (by rfl) (pa_cons (pv 6) pa_nil)) (pa_cons (pv 7) (pa_cons (pv 8) pa_nil))))) pa_nil))) pa_nil))))))))))))
      (pss_one (ps_ret (pv 1)))), ?_⟩
    obtain ⟨p0, da0, df0, rfl, e1, ⟨kvs, e2, e3⟩, us, e4, e5⟩ := id hT
    refine ⟨Nat.zero_le _, fun l hl => ?_⟩
    intro d hd
    refine ⟨_, _, rfl, ?_⟩
    have nld : l ≠ d := ne_of_none upd_same hd
    have g0 : Gr [] F H F (upd (upd H l (.lst [])) d (.dK [])) := ((Gr.refl fh).raw hl).raw hd
    have hd0 : H d = none := by rw [upd_ne nld.symm] at hd; exact hd
    refine ⟨_, rfl, p0, .ref da0, rfl, get_at (g0.fh _ _ e1), da0, kvs, ky t.ats, rfl, .inl (g0.fh _ _ e2), rk_keys e3, fun ks q hperm hsort hq => ?_⟩
    have g1 := g0.raw (o := .lst (ks.map V.str)) hq
    have nlq : l ≠ q := ne_of_none (o := .lst []) (by rw [upd_ne nld]; exact upd_same) hq
    have ndq : d ≠ q := ne_of_none upd_same hq
    have hlen : ks.length = t.ats.length := by rw [hperm.length_eq]; simp [ky]
    refine ⟨q, rfl, ⟨_, SqL.of upd_same⟩, ?_⟩
    refine for_it (walk_list (xs := ks.map V.str)) (fun i σ H' => ∃ F1 acc fs done v3 v4 v5 v6 v7 v8, σ = [some (.ref p0), some (.ref l), some (.ref d), v3, v4, v5, v6, v7, v8] ∧ Gr [] F H F1 H' ∧ F1 l = none ∧ F1 d = none ∧ H' l = some (.lst acc) ∧ H' d = some (.dK (kvF fs)) ∧ Paired (REn K F1) acc done ∧
      rws t.ats (fbT t.fls) ks [] = done ++ rws t.ats (fbT t.fls) (ks.drop i) fs ∧ H' q = some (.lst (ks.map V.str)) ∧ done.length ≤ i ∧ fs.length ≤ i) ?_ (fun i σ H' _ h => by obtain ⟨F1, acc, fs, done, v3, v4, v5, v6, v7, v8, _, _, _, _, _, _, _, _, h, _⟩ := h; exact SqL.of h) ?_ ?_
    · exact ⟨F, [], [], [], none, none, none, none, none, none, rfl, g1, fh.free hl, fh.free hd0, by rw [upd_ne nlq, upd_ne nld]; exact upd_same, by rw [upd_ne ndq]; exact upd_same, .nil, rfl, upd_same, Nat.le_refl _, Nat.le_refl _⟩
    · rintro i x σ H1 H2 hi ⟨F1, acc, fs, done, v3, v4, v5, v6, v7, v8, rfl, g, fl, fd1, hl1, hd1, hacc, hfull, hq1, hz1, hz2⟩ ⟨rfl, hx⟩
      rw [List.length_map] at hi
      have hks : ks[i]? = some ks[i] := List.getElem?_eq_getElem hi
      rw [List.getElem?_map, hks] at hx
      obtain rfl : V.str ks[i] = x := Option.some.inj hx
      have hdrop : ks.drop i = ks[i] :: ks.drop (i + 1) := List.drop_eq_getElem_cons hi
      generalize hzz : ks[i] = z at *
      have hin : z ∈ ky t.ats := hperm.mem_iff.mp (by rw [← hzz]; exact List.getElem_mem hi)
      have hzl : acc.length < sizeLine := by
        rw [Plen hacc]
        exact Nat.lt_of_le_of_lt hz1 (Nat.lt_trans (show i < 100000 by omega) (by decide))
      have hr1 := g.fh _ _ (g.ff _ _ e1)
      have hr2 := g.fh _ _ (g.ff _ _ e2)
      have hr4 := g.fh _ _ (g.ff _ _ e4)
      rcases rk_val (k := z) e3 with ⟨h1, _⟩ | ⟨th, v, h1, h2, a, rfl, h3⟩
      · exact absurd hin (lk_none.mp h1)
      · have ha := sqs (fh.trans g.same) h3
        -- a row is added
        have add : ∀ (F2 H2 : Hp) (fs2 : List (Nat × Str)) (u : V) (r : Rw) (v4 v5 v6 v7 v8 : Option V), Gr [] F H F2 H2 → F2 l = none → F2 d = none → H2 l = some (.lst acc) → H2 d = some (.dK (kvF fs2)) → Paired (REn K F2) acc done → H2 q = some (.lst (ks.map V.str)) → RRw K F2 u r → fs2.length ≤ i + 1 →
            rws t.ats (fbT t.fls) (ks.drop i) fs = (z, r) :: rws t.ats (fbT t.fls) (ks.drop (i + 1)) fs2 → ∀ c, H2 c = none →
            ∃ l0 xs0 y0, V.ref l = V.ref l0 ∧ [V.ref c] = [y0] ∧ upd H2 c (.tup [.str z, u]) l0 = some (.lst xs0) ∧ xs0.length < sizeLine ∧ ∃ F1 acc' fs' done' v3' v4' v5' v6' v7' v8', [some (V.ref p0), some (V.ref l), some (V.ref d), some (V.str z), v4, v5, v6, v7, v8] = [some (.ref p0), some (.ref l), some (.ref d), v3', v4', v5', v6', v7', v8'] ∧ Gr [] F H F1 (upd (upd H2 c (.tup [.str z, u])) l0 (.lst (xs0 ++ [y0]))) ∧ F1 l = none ∧ F1 d = none ∧
              upd (upd H2 c (.tup [.str z, u])) l0 (.lst (xs0 ++ [y0])) l = some (.lst acc') ∧ upd (upd H2 c (.tup [.str z, u])) l0 (.lst (xs0 ++ [y0])) d = some (.dK (kvF fs')) ∧ Paired (REn K F1) acc' done' ∧ rws t.ats (fbT t.fls) ks [] = done' ++ rws t.ats (fbT t.fls) (ks.drop (i + 1)) fs' ∧
              upd (upd H2 c (.tup [.str z, u])) l0 (.lst (xs0 ++ [y0])) q = some (.lst (ks.map V.str)) ∧ done'.length ≤ i + 1 ∧ fs'.length ≤ i + 1 := by
          intro F2 H2 fs2 u r v4 v5 v6 v7 v8 g2 f1 f2 a1 a2 a3 a4 a5 a6 a7 c ht
          have ntl : l ≠ c := ne_of_none a1 ht
          have ntd : d ≠ c := ne_of_none a2 ht
          have ntq : q ≠ c := ne_of_none a4 ht
          have g3 := g2.new (o := .tup [.str z, u]) ht
          have fl3 : upd F2 c (.tup [.str z, u]) l = none := by rw [upd_ne ntl]; exact f1
          have fd3 : upd F2 c (.tup [.str z, u]) d = none := by rw [upd_ne ntd]; exact f2
          refine ⟨l, acc, .ref c, rfl, rfl, by rw [upd_ne ntl]; exact a1, hzl, _, acc ++ [.ref c], fs2, done ++ [(z, r)], _, _, _, _, _, _, rfl, g3.mut (.inl hl) fl3, fl3, fd3, upd_same, by rw [upd_ne nld.symm, upd_ne ntd]; exact a2, ?_, ?_, ?_, ?_, a6⟩
          · exact Psnoc (mon_REn.paired (sameUpd (g2.fh.free ht)) a3) ⟨c, u, rfl, upd_same, mon_RRw _ _ _ _ (sameUpd (g2.fh.free ht)) a5⟩
          · rw [hfull, a7, List.append_assoc]; rfl
          · rw [upd_ne nlq.symm, upd_ne ntq]; exact a4
          · rw [List.length_append]; exact Nat.succ_le_succ hz1
        refine ⟨_, rfl, p0, .ref da0, rfl, get_at hr1, _, rfl, da0, .ref a, rfl, by rw [← h2]; exact DGet.k (k := Sum.inr z) hr2, ?_⟩
        refine ⟨_, rfl, a, _, 0, _, rfl, rfl, ha, th_kd th, rfl, _, rfl, ?_⟩
        cases th with
        | dir m ti =>
          refine iT (show (!decide (V.str "directory" = V.str "file")) = true by decide +kernel) ?_
          refine ⟨_, rfl, .inl ⟨rfl, _, SqL.of hl1⟩, _, rfl, _, rfl, (by show 2 ≤ sizeLine; decide), fun t2 ht2 => ?_⟩
          exact add F1 H2 fs (.ref a) (.dir m ti) _ _ _ _ _ g fl fd1 hl1 hd1 hacc hq1 ⟨a, rfl, sqs g.ff h3⟩ (by omega) (by rw [hdrop, rws, h1]) t2 ht2
        | sym s m ti =>
          refine iT (show (!decide (V.str "symlink" = V.str "file")) = true by decide +kernel) ?_
          refine ⟨_, rfl, .inl ⟨rfl, _, SqL.of hl1⟩, _, rfl, _, rfl, (by show 2 ≤ sizeLine; decide), fun t2 ht2 => ?_⟩
          exact add F1 H2 fs (.ref a) (.sym s m ti) _ _ _ _ _ g fl fd1 hl1 hd1 hacc hq1 ⟨a, rfl, sqs g.ff h3⟩ (by omega) (by rw [hdrop, rws, h1]) t2 ht2
        | fil n =>
          refine iF (show (!decide (V.str "file" = V.str "file")) = false by decide +kernel) ?_
          refine ⟨_, rfl, a, _, 1, _, rfl, rfl, ha, rfl, _, rfl, d, _, rfl, DGet.k (k := Sum.inl (n : Int)) hd1, _, rfl, ?_⟩
          rw [kvF_val]
          cases hn : nk fs n with
          | some u =>
            refine iT rfl ?_
            refine ⟨_, rfl, .inl ⟨rfl, _, SqL.of hl1⟩, _, rfl, _, rfl, _, rfl, a, _, 1, _, rfl, rfl, ha, rfl, d, .str u, rfl, ?_, (by show 2 ≤ sizeLine; decide), fun t1 ht1 => ⟨(by show 2 ≤ sizeLine; decide), fun t2 ht2 => ?_⟩⟩
            · have := DGet.k (k := Sum.inl (n : Int)) hd1
              rw [kvF_val, hn] at this
              exact this
            · have g2 := g.new (o := .tup [.str "link", .str u]) ht1
              have n1 : l ≠ t1 := ne_of_none hl1 ht1
              have n2 : d ≠ t1 := ne_of_none hd1 ht1
              have n3 : q ≠ t1 := ne_of_none hq1 ht1
              exact add _ _ fs (.ref t1) (.lnk u) _ _ _ _ _ g2 (by rw [upd_ne n1]; exact fl) (by rw [upd_ne n2]; exact fd1) (by rw [upd_ne n1]; exact hl1) (by rw [upd_ne n2]; exact hd1) (mon_REn.paired (sameUpd (g.fh.free ht1)) hacc) (by rw [upd_ne n3]; exact hq1)
                ⟨t1, rfl, SqT.of upd_same⟩ (by omega) (by rw [hdrop, rws, h1]; simp only [hn]) t2 ht2
          | none =>
            refine iF rfl ?_
            have hkl : (kvF fs).length < sizeLine := by
              rw [show (kvF fs).length = fs.length by simp [kvF]]
              exact Nat.lt_of_le_of_lt hz2 (Nat.lt_trans (show i < 100000 by omega) (by decide))
            refine ⟨_, rfl, _, rfl, _, rfl, a, _, 1, _, rfl, rfl, ha, rfl, d, _, rfl, DPut.k (k := Sum.inl (n : Int)) hd1 hkl, ?_⟩
            rw [kvF_put hn]
            have gM := g.mut (p := d) (o := .dK (kvF (fs ++ [(n, z)]))) (.inl hd0) fd1
            have hfl := (hO.ok z _ h1).2
            have hfl : n < t.fls.length := hfl
            obtain ⟨ns, m, ti⟩ : Fl := t.fls[n]
            obtain ⟨⟨ns, m, ti⟩, hb⟩ : ∃ x, t.fls[n]? = some x := ⟨_, List.getElem?_eq_getElem hfl⟩
            obtain ⟨v, hv, c, w', rfl, hc, cl, rfl, hcl⟩ := Pget' e5 hb
            have hfo := hO.fl _ (List.mem_of_getElem? hb)
            have hnq : q ≠ d := ndq.symm
            refine ⟨_, rfl, p0, .ref df0, rfl, get_fl (gM.fh _ _ (gM.ff _ _ e1)), _, rfl, a, _, 1, _, rfl, rfl, sqs (fh.trans gM.same) h3, rfl, df0, _, _, .ref c, rfl, rfl, SqL.of (gM.fh _ _ (gM.ff _ _ e4)), atI_nat hv, ?_⟩
            refine ⟨c, _, rfl, SqT.of (gM.fh _ _ (gM.ff _ _ hc)), rfl, _, _, rfl, _, _, rfl, _, _, rfl, _, _, rfl, rfl, ?_⟩
            refine ⟨_, rfl, .inl ⟨rfl, _, SqL.of (by rw [upd_ne nld]; exact hl1)⟩, _, rfl, _, rfl, _, rfl, cl, ns, rfl, gM.fh _ _ (gM.ff _ _ hcl), hfo.1, Nat.lt_of_le_of_lt hfo.2.1 (by decide), fun H5 s5 => ?_⟩
            have g5 : Gr [] F H F1 H5 := ⟨gM.ff, gM.fh.trans s5, fun b o n e => s5 _ _ (gM.ex b o n e), fun b e => gM.dom b (s5.free e), gM.nw⟩
            refine ⟨_, rfl, _, rfl, (by show 4 ≤ sizeLine; decide), fun t1 ht1 => ⟨(by show 2 ≤ sizeLine; decide), fun t2 ht2 => ?_⟩⟩
            have g6 := g5.new (o := .tup (Rw.fil (byteArr ns) m ti).vs) ht1
            have hl5 : H5 l = some (.lst acc) := s5 _ _ (by rw [upd_ne nld]; exact hl1)
            have hd5 : H5 d = some (.dK (kvF (fs ++ [(n, z)]))) := s5 _ _ upd_same
            have hq5 : H5 q = some (.lst (ks.map V.str)) := s5 _ _ (by rw [upd_ne hnq]; exact hq1)
            have n1 : l ≠ t1 := ne_of_none hl5 ht1
            have n2 : d ≠ t1 := ne_of_none hd5 ht1
            have n3 : q ≠ t1 := ne_of_none hq5 ht1
            exact add _ _ (fs ++ [(n, z)]) (.ref t1) (.fil (byteArr ns) m ti) _ _ _ _ _ g6 (by rw [upd_ne n1]; exact fl) (by rw [upd_ne n2]; exact fd1) (by rw [upd_ne n1]; exact hl5) (by rw [upd_ne n2]; exact hd5) (mon_REn.paired (sameUpd (g5.fh.free ht1)) hacc) (by rw [upd_ne n3]; exact hq5) ⟨t1, rfl, SqT.of upd_same⟩ (by rw [List.length_append]; exact Nat.succ_le_succ hz2)
              (by rw [hdrop, rws, h1]; simp only [hn, fbT, hb]) t2 ht2
    · rintro σ H' ⟨F1, acc, fs, done, v3, v4, v5, v6, v7, v8, rfl, g, fl, fd1, hl1, hd1, hacc, hfull, hq1, hz1, hz2⟩
      rw [List.length_map, List.drop_length] at hfull
      have hfull' : rws t.ats (fbT t.fls) ks [] = done := by rw [hfull]; simp [rws]
      obtain ⟨o1, o2⟩ := ens_ok hO hperm
      rw [hfull'] at o1 o2
      refine ⟨_, rfl, k (.ref l) done _ H' ⟨l, acc, rfl, upd_same, mon_REn.paired (sameUpd fl) hacc⟩ o1 o2 ?_ (g.seal hl fl hl1)⟩
      rw [← hfull', ← hlen]
      exact rws_len _ _ _ _
end
end L2.K88

end
/-! K88L11 -/
section
set_option Elab.async false
set_option linter.all false
set_option maxRecDepth 100000
set_option maxHeartbeats 4000000
namespace L2.K88
open PySem PySem.Spec PyProof.Rows
abbrev sTreeOf : Stmt := top 72
abbrev sGood : Stmt := top 73
def FitsF (k : Str → Str) (b : Mb) : Prop := (∀ q ∈ aboves b.nm, k q = "absent" ∨ k q = "directory") ∧ FitK (k b.nm) b
def GoodF : (Str → Str) → List Mb → Prop
  | _, [] => True
  | k, b :: r => b.kd ≠ "link" ∧ FitsF k b ∧ GoodF (kdPut k b) r
def runK (k : Str → Str) (bs : List Mb) : Str → Str := bs.foldl kdPut k
theorem goodF_snoc : ∀ {bs : List Mb} {k : Str → Str} {b : Mb}, GoodF k bs → b.kd ≠ "link" → FitsF (runK k bs) b → GoodF k (bs ++ [b])
  | [], _, _, _, h1, h2 => ⟨h1, h2, True.intro⟩
  | _ :: _, _, _, g, h1, h2 => ⟨g.1, g.2.1, goodF_snoc g.2.2 h1 h2⟩
theorem runK_snoc (k : Str → Str) (bs : List Mb) (b : Mb) : runK k (bs ++ [b]) = kdPut (runK k bs) b := by unfold runK; rw [List.foldl_append]; rfl
def spTreeOf (K : PySem.W.Frag) : Sp := fun vs H Q _ => ∃ (src : Addr) (n : Nat) (F : Hp) (most : Int), vs = [.ref src, .int most] ∧ 0 ≤ most ∧ most ≤ 12 ∧ Ok src (n + 10000) F H ∧ ∀ v t F' H', RTr K F' v t → TrOk t → t.ats.length ≤ 4000 → t.fls.length ≤ 12 → Gr [src] F H F' H' → Src H' src n → Q v H'
def spGood (K : PySem.W.Frag) : Sp := fun vs H Q _ => ∃ (F : Hp) (v : V) (t : Tr) (l : Addr) (us : List V) (ms : List Mb), vs = [v, .ref l] ∧ Same F H ∧ RTr K F v t ∧ TrOk t ∧ F l = some (.lst us) ∧ Paired (RSp F) us ms ∧ (∀ b ∈ ms, MbOk b) ∧ ms.length ≤ 12 ∧ t.ats.length ≤ 4000 ∧ t.fls.length ≤ 12 ∧
  ∀ v' gs F' H', RL RSp F' v' gs → (∀ b ∈ gs, MbOk b) → gs.length ≤ 12 → GoodF (kdAt t.ats) gs → Gr [] F H F' H' → Q v' H'
section
variable {X : Cx} {k j : Nat} {x : Str} {sp : Sp} {dvs : List V} {p pos : Pos}
theorem pe_c0 (c : C8.Cal X.prog X.w X.K X.mg X.base k x sp dvs) (hr : Room j X.A) (hk : k ≤ j) (hg : Gl X x) (hdb : (x == ("__debug__" : Str)) = false := by decide) : PE X (.Call (.Name x p) [] [] pos) (tCall sp dvs C8.E0 tNil) := by
  obtain ⟨f, fd, ps, ds, F, hm, kp, b, d⟩ := c.ex
  exact pe_call0 F (hr.mono hk) hg hm kp b d C8.pass0 hdb
end
section
variable {P : Program} {w : World} {K : PySem.W.Frag} {mg : Str → Option Value} {base : Heap}
theorem scTreeOf : FnScope ["_law_source_here", "_law_most", "_law_tree_here", "_law_spec_here"] ["_law_source_here", "_law_most"] (defScope sTreeOf) := ⟨rfl, rfl, rfl, by decide +kernel, rfl, by decide +kernel, by decide +kernel⟩
theorem c_tree_of (D : DefX K mg "_law_tree_of" sTreeOf ["_law_source_here", "_law_most"]) (cT : C8.Cal P w K mg base 1 "_law_tree" (spTree K) []) (cS : C8.Cal P w K mg base 4 "_law_specs" spSpecs []) (cW : C8.Cal P w K mg base 2 "_law_word" (spLWord K) []) (cX : C8.Cal P w K mg base 2 "_law_stepped" (spLStepped K) []) : C8.Cal P w K mg base 5 "_law_tree_of" (spTreeOf K) [] := by
  refine D.cal scTreeOf (fun vs H Q E h => ?_) (fun f cdv A outer s H vs Q E hr h => ?_)
  · obtain ⟨src, n, F, most, rfl, _⟩ := h; rfl
  · obtain ⟨src, n, F, most, rfl, m0, m1, O, k⟩ := h
    refine ⟨_, pss_cons (ps_set (i := 2) scTreeOf.nd rfl (Or.inl rfl) (pe_c0 cT hr (by decide) (by rfl)))
      (pss_cons (ps_for PassesOwn.never rfl (pi_list (C8.pe_c cS hr (by decide) (by rfl) (pa_cons (pv 0) (pa_cons (pv 1) pa_nil)))) (pg_name (i := 3) scTreeOf.nd rfl (Or.inl rfl))
        (pss_one (ps_set (i := 2) scTreeOf.nd rfl (Or.inl rfl) (pe_ifExp (pt_cmpR op_eq (C8.pe_c cW hr (by decide) (by rfl) (pa_cons (pv 2) (pa_cons (pv 3) pa_nil))) pe_str (nomark _)) (C8.pe_c cX hr (by decide) (by rfl) (pa_cons (pv 2) (pa_cons (pv 3) pa_nil))) (pv 2)))))
      (pss_one (ps_ret (pv 2)))), ?_⟩
    refine ⟨F, rfl, O.fh, fun tv F1 H1 hT g1 => ?_⟩
    have O1 := O.grow g1
    refine ⟨_, rfl, _, rfl, src, n, F1, most, rfl, m0, m1, O1, fun v ms F2 H2 hms hok hln g2 s2 => ?_⟩
    obtain ⟨l, us, rfl, hl, hus⟩ := hms
    have O2 := O1.next g2 s2
    refine ⟨l, rfl, ⟨_, SqL.of (g2.fh _ _ hl)⟩, ?_⟩
    refine for_it (walk_list (xs := us)) (fun i σ H' => ∃ F3 tv t v3, σ = [some (.ref src), some (.int most), some tv, v3] ∧ Gr [] F2 H2 F3 H' ∧ RTr K F3 tv t ∧ TrOk t ∧ t.ats.length ≤ 251 * i ∧ t.fls.length ≤ i) ?_ (fun i σ H' _ h => by obtain ⟨F3, tv, t, v3, _, g, _⟩ := h; exact SqL.of (g.fh _ _ (g.ff _ _ hl))) ?_ ?_
    · exact ⟨F2, tv, _, none, rfl, Gr.refl g2.fh, mon_RTr _ _ _ _ g2.ff hT, ok0, Nat.le_refl _, Nat.le_refl _⟩
    · rintro i y σ H3 H4 hi ⟨F3, tv, t, v3, rfl, g, hT3, hO3, hz1, hz2⟩ ⟨rfl, hy⟩
      obtain ⟨b, hb, hR⟩ := Pget hus hy
      have hm : b ∈ ms := List.mem_of_getElem? hb
      have hi12 : i < 12 := by rw [Plen hus] at hi; omega
      have hR3 := mon_RSp _ _ _ _ g.ff hR
      refine ⟨_, rfl, _, rfl, F3, tv, y, t, b, rfl, g.fh, hT3, hR3, hok b hm, fun z H5 hz s5 => ?_⟩
      have g5 : Gr [] F2 H2 F3 H5 := ⟨g.ff, g.fh.trans s5, fun b o n e => s5 _ _ (g.ex b o n e), fun b e => g.dom b (s5.free e), g.nw⟩
      refine ⟨rfl, _, rfl, ite2 (fun hd => ?_) (fun hd => ?_)⟩
      · have hfit := hz (V.str.inj (of_decide_eq_true hd))
        refine ⟨_, rfl, _, rfl, F3, tv, y, t, b, rfl, g5.fh, hT3, hR3, hok b hm, hfit, hO3.nd, by omega, by omega, fun v' t' F6 H6 hT6 hst g6 => ?_⟩
        have hsl := step_len (hok b hm) hst
        exact ⟨F6, v', t', _, rfl, g5.trans g6, hT6, step_ok hO3 (hok b hm) hfit hst, by omega, by omega⟩
      · exact ⟨_, rfl, F3, tv, t, _, rfl, g5, hT3, hO3, by omega, by omega⟩
    · rintro σ H3 ⟨F3, tv, t, v3, rfl, g, hT3, hO3, hz1, hz2⟩
      have hul : us.length ≤ 12 := by rw [Plen hus]; exact hln
      refine ⟨_, rfl, k tv t F3 H3 hT3 hO3 (by omega) (by omega) ((g1.up.trans g2).trans g.up) ?_⟩
      exact (O2.grow g).sr
theorem scGood : FnScope ["_law_tree_here", "_law_specs_here", "_law_found", "_law_spec_here"] ["_law_tree_here", "_law_specs_here"] (defScope sGood) := ⟨rfl, rfl, rfl, by decide +kernel, rfl, by decide +kernel, by decide +kernel⟩
theorem c_good (D : DefX K mg "_law_good" sGood ["_law_tree_here", "_law_specs_here"]) (cW : C8.Cal P w K mg base 2 "_law_word" (spLWord K) []) (cX : C8.Cal P w K mg base 2 "_law_stepped" (spLStepped K) []) : C8.Cal P w K mg base 3 "_law_good" (spGood K) [] := by
  refine D.cal scGood (fun vs H Q E h => ?_) (fun f cdv A outer s H vs Q E hr h => ?_)
  · obtain ⟨F, v, t, l, us, ms, rfl, _⟩ := h; rfl
  · obtain ⟨F, v, t, l, us, ms, rfl, fh, hT, hO, hl, hus, hok, hln, hz1, hz2, k⟩ := h
    refine ⟨_, pss_cons (ps_set (i := 2) scGood.nd rfl (Or.inl rfl) (pe_lst pa_nil))
      (pss_cons (ps_for PassesOwn.never rfl (pi_list (pv 1)) (pg_name (i := 3) scGood.nd rfl (Or.inl rfl))
        (pss_one (ps_if (PW.pt (pw_and (pt_cmpR op_ne (pe_ix ix_tup (pv 3) pe_int (fun _ _ => rfl)) pe_str (nomark _)) (pw_and1 (pt_cmpR op_eq (C8.pe_c cW hr (by decide) (by rfl) (pa_cons (pv 0) (pa_cons (pv 3) pa_nil))) pe_str (nomark _)))))
          (pss_cons (ps_expr (pe_bm PySem.F.plainAttrs_list PySem.F.slot_list_append PySem.F.type_list_append mt_append (pv 2) (pa_cons (pv 3) pa_nil)))
          (pss_one (ps_set (i := 0) scGood.nd rfl (Or.inl rfl) (C8.pe_c cX hr (by decide) (by rfl) (pa_cons (pv 0) (pa_cons (pv 3) pa_nil)))))) pss_nil)))
      (pss_one (ps_ret (pv 2)))), ?_⟩
    refine ⟨Nat.zero_le _, fun D hD => ?_⟩
    have g1 := (Gr.refl (S := []) fh).raw (o := .lst []) hD
    have nlD : l ≠ D := ne_of_none (fh _ _ hl) hD
    refine ⟨_, rfl, l, rfl, ⟨_, SqL.of (g1.fh _ _ hl)⟩, ?_⟩
    refine for_it (walk_list (xs := us)) (fun i σ H' => ∃ F1 tv t' acc gs v3, σ = [some tv, some (.ref l), some (.ref D), v3] ∧ Gr [] F H F1 H' ∧ F1 D = none ∧ H' D = some (.lst acc) ∧ Paired (RSp F1) acc gs ∧ RTr K F1 tv t' ∧ TrOk t' ∧ t'.ats.length ≤ 4000 + 251 * i ∧ t'.fls.length ≤ 12 + i ∧ (∀ b ∈ gs, MbOk b) ∧ gs.length ≤ i ∧ GoodF (kdAt t.ats) gs ∧ kdAt t'.ats = runK (kdAt t.ats) gs) ?_ (fun i σ H' _ h => by obtain ⟨F1, tv, t', acc, gs, v3, _, g, _⟩ := h; exact SqL.of (g.fh _ _ (g.ff _ _ hl))) ?_ ?_
    · exact ⟨F, v, t, [], [], none, rfl, g1, fh.free hD, upd_same, .nil, hT, hO, hz1, hz2, fun b hb => by simp at hb, Nat.le_refl _, True.intro, rfl⟩
    · rintro i y σ H3 H4 hi ⟨F1, tv, t', acc, gs, v3, rfl, g, f1, a1, a2, hT1, hO1, b1, b2, b3, b4, b5, b6⟩ ⟨rfl, hy⟩
      obtain ⟨b, hb, hR⟩ := Pget hus hy
      have hm : b ∈ ms := List.mem_of_getElem? hb
      have hi12 : i < 12 := by rw [Plen hus] at hi; omega
      have hR1 := mon_RSp _ _ _ _ g.ff hR
      obtain ⟨x, more, rfl, hx, hmo⟩ := id hR1
      refine ⟨_, rfl, x, _, 0, _, rfl, rfl, SqT.of (g.fh _ _ hx), at0 _ _, rfl, _, rfl, ?_⟩
      by_cases hk : b.kd = "link"
      · exact iF (by rw [vstr_eq hk]; rfl) (iF rfl ⟨F1, tv, t', acc, gs, _, rfl, g, f1, a1, a2, hT1, hO1, by omega, by omega, b3, by omega, b5, b6⟩)
      · refine iT (by rw [vstr_ne hk]; rfl) ?_
        refine ⟨_, rfl, _, rfl, F1, tv, .ref x, t', b, rfl, g.fh, hT1, hR1, hok b hm, fun z H5 hz s5 => ?_⟩
        have g5 : Gr [] F H F1 H5 := ⟨g.ff, g.fh.trans s5, fun b o n e => s5 _ _ (g.ex b o n e), fun b e => g.dom b (s5.free e), g.nw⟩
        refine ⟨rfl, _, rfl, ?_⟩
        by_cases hd : z = ""
        · refine iT (vstr_eq hd) ?_
          have hfit := hz hd
          refine ⟨_, rfl, .inl ⟨rfl, _, SqL.of (s5 _ _ a1)⟩, _, rfl, D, acc, _, rfl, rfl, s5 _ _ a1, ?_, ?_⟩
          · rw [Plen a2]; exact Nat.lt_of_le_of_lt b4 (Nat.lt_of_lt_of_le hi12 (by decide))
          have g6 := g5.mut (p := D) (o := .lst (acc ++ [.ref x])) (.inl hD) f1
          refine ⟨_, rfl, _, rfl, F1, tv, .ref x, t', b, rfl, g6.fh, hT1, hR1, hok b hm, hfit, hO1.nd, by omega, by omega, fun v' t2 F7 H7 hT7 hst g7 => ?_⟩
          have hsl := step_len (hok b hm) hst
          have hD7 := g7.same _ _ (show upd H5 D (.lst (acc ++ [.ref x])) D = _ from upd_same)
          have fD7 := g7.notF f1 (show upd H5 D (.lst (acc ++ [.ref x])) D = _ from upd_same)
          have hfF : FitsF (runK (kdAt t.ats) gs) b := by rw [← b6]; exact hfit.1
          refine ⟨F7, v', t2, acc ++ [.ref x], gs ++ [b], _, rfl, g6.trans g7, fD7, hD7, mon_RSp.paired g7.ff (Psnoc a2 hR1), hT7, step_ok hO1 (hok b hm) hfit hst, by omega, by omega, ?_, ?_, goodF_snoc b5 hk hfF, ?_⟩
          · intro y hy'
            rcases List.mem_append.mp hy' with h | h
            · exact b3 y h
            · rw [List.mem_singleton] at h; rw [h]; exact hok b hm
          · rw [List.length_append]; exact Nat.succ_le_succ b4
          · rw [runK_snoc, ← b6]; exact kd_step hst hk
        · exact iF (vstr_ne hd) ⟨F1, tv, t', acc, gs, _, rfl, g5, f1, s5 _ _ a1, a2, hT1, hO1, by omega, by omega, b3, by omega, b5, b6⟩
    · rintro σ H3 ⟨F1, tv, t', acc, gs, v3, rfl, g, f1, a1, a2, hT1, hO1, b1, b2, b3, b4, b5, b6⟩
      have hul : us.length ≤ 12 := by rw [Plen hus]; exact hln
      exact ⟨_, rfl, k (.ref D) gs _ H3 ⟨D, acc, rfl, upd_same, mon_RSp.paired (sameUpd f1) a2⟩ b3 (by omega) b5 (g.seal hD f1 a1)⟩
end
end L2.K88

end
/-! K88L12 -/
section
set_option Elab.async false
set_option linter.all false
set_option maxRecDepth 100000
set_option maxHeartbeats 4000000
namespace L2.K88
open PySem PySem.Spec PyProof.Rows
abbrev sMade : Stmt := top 59
def spMade (Z : Ad) : Sp := fun vs H Q _ => ∃ (F : Hp) (v : V) (b : Mb), vs = [v] ∧ Same F H ∧ RSp F v b ∧ MbOk b ∧ b.kd ≠ "link" ∧ ∀ v' F' H', RMb Z F' v' b → Gr [] F H F' H' → Q v' H'
theorem gr_made {F H H' : Hp} {x dx C : Addr} {o : HO} (fh : Same F H) (nx : H x = none) (nd : H dx = none) (hb : But x (upd (upd H dx (.own x)) x (.ins C dx [])) H') (hx : H' x = some o) : Gr [] F H (upd F x o) H' := by
  have s : Same H H' := fun b u e => by
    have n1 : b ≠ x := ne_of_none e nx
    have n2 : b ≠ dx := ne_of_none e nd
    exact hb b u n1 (by rw [upd_ne n1, upd_ne n2]; exact e)
  have fx : F x = none := fh.free nx
  refine ⟨sameUpd fx, fun b u e => ?_, fun b u _ e => s _ _ e, fun b e => s.free e, fun b e n => ?_⟩
  · by_cases z : b = x
    · rw [z, upd_same] at e; rw [z, ← e]; exact hx
    · rw [upd_ne z] at e; exact s _ _ (fh _ _ e)
  · have z : b ≠ x := fun z => n (by rw [z]; exact nx)
    rw [upd_ne z]; exact e
/-- a class that may be made with mode and time -/
structure MkC (P : Program) (w : World) (K : PySem.W.Frag) (mg : Str → Option Value) (base : Heap) (x : Str) (C : Addr) (sp : SpC) : Prop where
  ex : ∃ f, Mk K C f ∧ mg x = some (.ref C) ∧ InitC P w K mg base 4 f ["mode", "time"] sp
section
variable {P : Program} {w : World} {K : PySem.W.Frag} {mg : Str → Option Value} {base : Heap} {Z : Ad}
theorem scMade : FnScope ["_law_spec_here", "_law_size", "_law_pieces_here", "_law_some", "_law_offset", "_law_numbers_here"] ["_law_spec_here"] (defScope sMade) := ⟨rfl, rfl, rfl, by decide +kernel, rfl, by decide +kernel, by decide +kernel⟩
theorem c_made (D : DefX K mg "_law_made" sMade ["_law_spec_here"]) (B : Bl mg) (cB : C8.Cal P w K mg base 3 "blob" spBlob []) (mF_ : MkC P w K mg base "File" Z.fi (spFileI Z.fi)) (mD_ : MkC P w K mg base "Directory" Z.di (spDirI Z.di)) (mS_ : MkC P w K mg base "Symlink" Z.sy (spSymI Z.sy)) (mP_ : MkC P w K mg base "Sparse" Z.sp (spSpaR Z.sp)) :
    C8.Cal P w K mg base 6 "_law_made" (spMade Z) [] := by
  refine D.cal scMade (fun vs H Q E h => ?_) (fun f cdv A outer s H vs Q E hr h => ?_)
  · obtain ⟨F, v, b, rfl, _⟩ := h; rfl
  · obtain ⟨F, v, b, rfl, fh, ⟨x, more, rfl, hx, hm⟩, ho, hk, k⟩ := h
    have hu := hu_of hr
    obtain ⟨f1, k1, g1, i1⟩ := mF_.ex
    obtain ⟨f2, k2, g2, i2⟩ := mD_.ex
    obtain ⟨f3, k3, g3, i3⟩ := mS_.ex
    obtain ⟨f4, k4, g4, i4⟩ := mP_.ex
    refine ⟨_, pss_cons (ps_if (pt_cmpR op_eq (pe_ix ix_tup (pv 0) pe_int (fun _ _ => rfl)) pe_str (nomark _)) (pss_one (ps_ret (pe_makeC k1 i1 hr (by decide) (by rfl) g1 (pa_cons (pe_ix ix_tup (pv 0) pe_int (fun _ _ => rfl)) (pa_cons (C8.pe_c cB hr (by decide) (by rfl) (pa_cons (pe_ix ix_tup (pv 0) pe_int (fun _ _ => rfl)) pa_nil)) pa_nil)) (pk_cons (pe_ix ix_tup (pv 0) pe_int (fun _ _ => rfl)) (pk_cons (pe_ix ix_tup (pv 0) pe_int (fun _ _ => rfl)) pk_nil))))) pss_nil)
      (pss_cons (ps_if (pt_cmpR op_eq (pe_ix ix_tup (pv 0) pe_int (fun _ _ => rfl)) pe_str (nomark _)) (pss_one (ps_ret (pe_makeC k2 i2 hr (by decide) (by rfl) g2 (pa_cons (pe_ix ix_tup (pv 0) pe_int (fun _ _ => rfl)) pa_nil) (pk_cons (pe_ix ix_tup (pv 0) pe_int (fun _ _ => rfl)) (pk_cons (pe_ix ix_tup (pv 0) pe_int (fun _ _ => rfl)) pk_nil))))) pss_nil)
      (pss_cons (ps_if (pt_cmpR op_eq (pe_ix ix_tup (pv 0) pe_int (fun _ _ => rfl)) pe_str (nomark _)) (pss_one (ps_ret (pe_makeC k3 i3 hr (by decide) (by rfl) g3 (pa_cons (pe_ix ix_tup (pv 0) pe_int (fun _ _ => rfl)) (pa_cons (pe_ix ix_tup (pv 0) pe_int (fun _ _ => rfl)) pa_nil)) (pk_cons (pe_ix ix_tup (pv 0) pe_int (fun _ _ => rfl)) (pk_cons (pe_ix ix_tup (pv 0) pe_int (fun _ _ => rfl)) pk_nil))))) pss_nil)
      (pss_cons (ps_if (pt_cmpR op_eq (pe_ix ix_tup (pv 0) pe_int (fun _ _ => rfl)) pe_str (nomark _)) pss_never pss_nil)
      (pss_cons (ps_asg (pe_ix ix_tup (pv 0) pe_int (fun _ _ => rfl)) (pg_tup (by rfl) (pgs_cons (pg_name (i := 1) scMade.nd rfl (Or.inl rfl)) (pgs_cons (pg_name (i := 2) scMade.nd rfl (Or.inl rfl)) pgs_nil))))
      (pss_cons (ps_setLc (i := 3) (own := [("_law_offset", 4), ("_law_numbers_here", 5)]) (g := gTup K 2 (gCons (gName 4) (gCons (gName 5) gNil))) (tt := tYes) rfl scMade.nd rfl rfl (sw_true rfl rfl rfl (by decide +kernel)) (pi_list (pv 2)) (blkOk_by (N := ["_law_spec_here", "_law_size", "_law_pieces_here", "_law_some", "_law_offset", "_law_numbers_here"]) (sc := defScope sMade) (by decide +kernel)) (fun _ _ _ _ _ => pg_tup rfl (pgs_cons (pg_name (i := 4) scMade.nd rfl (Or.inl rfl)) (pgs_cons (pg_name (i := 5) scMade.nd rfl (Or.inl rfl)) pgs_nil))) (fun _ _ _ _ _ => pts_nil)
          (fun _ _ _ _ _ => pe_tup (pa_cons (pv 4) (pa_cons (C8.pe_c cB hr (by decide) (by rfl) (pa_cons (pv 5) pa_nil)) pa_nil))))
      (pss_cons (ps_if (pt_cmpR (op_eqNil hu) (pv 3) (pe_lst pa_nil) (nomark _)) (pss_one (ps_ret (pe_makeC k4 i4 hr (by decide) (by rfl) g4 (pa_cons (pe_ix ix_tup (pv 0) pe_int (fun _ _ => rfl)) (pa_cons (pv 1) pa_nil)) (pk_cons (pe_ix ix_tup (pv 0) pe_int (fun _ _ => rfl)) (pk_cons (pe_ix ix_tup (pv 0) pe_int (fun _ _ => rfl)) pk_nil))))) pss_nil)
      (pss_cons (ps_if (pt_cmpR op_eq (pe_callB call_len (by rfl) B.len_ boot_len (pa_cons (pv 3) pa_nil)) pe_int (nomark _)) (pss_one (ps_ret (pe_makeC k4 i4 hr (by decide) (by rfl) g4 (pa_cons (pe_ix ix_tup (pv 0) pe_int (fun _ _ => rfl)) (pa_cons (pv 1) (pa_cons (pe_ix ix_list (pv 3) pe_int (fun _ _ => rfl)) pa_nil))) (pk_cons (pe_ix ix_tup (pv 0) pe_int (fun _ _ => rfl)) (pk_cons (pe_ix ix_tup (pv 0) pe_int (fun _ _ => rfl)) pk_nil))))) pss_nil)
      (pss_one (ps_ret (pe_makeC k4 i4 hr (by decide) (by rfl) g4 (pa_cons (pe_ix ix_tup (pv 0) pe_int (fun _ _ => rfl)) (pa_cons (pv 1) (pa_cons (pe_ix ix_list (pv 3) pe_int (fun _ _ => rfl)) (pa_cons (pe_ix ix_list (pv 3) pe_int (fun _ _ => rfl)) pa_nil)))) (pk_cons (pe_ix ix_tup (pv 0) pe_int (fun _ _ => rfl)) (pk_cons (pe_ix ix_tup (pv 0) pe_int (fun _ _ => rfl)) pk_nil)))))))))))), ?_⟩
    have hxH := fh _ _ hx
    obtain ⟨m0, m1, t0, t1⟩ := ho.mt
    refine ⟨_, rfl, x, _, 0, _, rfl, rfl, SqT.of hxH, at0 _ _, rfl, _, rfl, ?_⟩
    cases b with
    | lnk n m t g => exact absurd rfl hk
    | file n m t ns =>
      obtain ⟨u, rfl, ul, rfl, hul⟩ := hm
      refine iT (vstr_eq rfl) ?_
      refine ⟨_, rfl, x, _, 1, _, rfl, rfl, SqT.of hxH, at1 _ _ _, _, rfl, x, _, 4, _, rfl, rfl, SqT.of hxH, at4 _ _ _ _ _ _, ul, ns, rfl, fh _ _ hul, ho.2.2.1, Nat.lt_of_le_of_lt ho.2.2.2 (by decide), fun H1 s1 => ?_⟩
      have hx1 := s1 _ _ hxH
      refine ⟨_, rfl, x, _, 2, _, rfl, rfl, SqT.of hx1, at2 _ _ _ _, _, rfl, x, _, 3, _, rfl, rfl, SqT.of hx1, at3 _ _ _ _ _, rfl, fun y dx ny ndx nyd => ?_⟩
      refine ⟨y, dx, n, byteArr ns, m, t, rfl, rfl, upd_same, ho.1.1, by rw [byteArr_size]; exact ho.2.2.2, m0, m1, t0, t1, fun H' kv hb hy => ⟨rfl, ?_⟩⟩
      have g0 : Gr [] F H F H1 := ⟨Same.refl _, fh.trans s1, fun b o _ e => s1 _ _ e, fun b e => s1.free e, fun b e _ => e⟩
      exact k (.ref y) _ H' ⟨y, dx, kv, rfl, upd_same⟩ (g0.trans (gr_made g0.fh ny ndx hb hy))
    | dir n m t =>
      refine iF (vstr_ne (by decide +kernel : ("directory" : Str) ≠ "file")) ?_
      refine ⟨_, rfl, x, _, 0, _, rfl, rfl, SqT.of hxH, at0 _ _, rfl, _, rfl, iT (vstr_eq rfl) ?_⟩
      refine ⟨_, rfl, x, _, 1, _, rfl, rfl, SqT.of hxH, at1 _ _ _, _, rfl, x, _, 2, _, rfl, rfl, SqT.of hxH, at2 _ _ _ _, _, rfl, x, _, 3, _, rfl, rfl, SqT.of hxH, at3 _ _ _ _ _, rfl, fun y dx ny ndx nyd => ?_⟩
      refine ⟨y, dx, n, m, t, rfl, rfl, upd_same, ho.1.1, m0, m1, t0, t1, fun H' kv hb hy => ⟨rfl, ?_⟩⟩
      exact k (.ref y) _ H' ⟨y, dx, kv, rfl, upd_same⟩ (gr_made fh ny ndx hb hy)
    | sym n m t g =>
      obtain rfl : more = [.str g] := hm
      refine iF (vstr_ne (by decide +kernel : ("symlink" : Str) ≠ "file")) ?_
      refine ⟨_, rfl, x, _, 0, _, rfl, rfl, SqT.of hxH, at0 _ _, rfl, _, rfl, iF (vstr_ne (by decide +kernel : ("symlink" : Str) ≠ "directory")) ?_⟩
      refine ⟨_, rfl, x, _, 0, _, rfl, rfl, SqT.of hxH, at0 _ _, rfl, _, rfl, iT (vstr_eq rfl) ?_⟩
      refine ⟨_, rfl, x, _, 1, _, rfl, rfl, SqT.of hxH, at1 _ _ _, _, rfl, x, _, 4, _, rfl, rfl, SqT.of hxH, at4 _ _ _ _ _ _, _, rfl, x, _, 2, _, rfl, rfl, SqT.of hxH, at2 _ _ _ _, _, rfl, x, _, 3, _, rfl, rfl, SqT.of hxH, at3 _ _ _ _ _, rfl, fun y dx ny ndx nyd => ?_⟩
      refine ⟨y, dx, n, g, m, t, rfl, rfl, upd_same, ho.1.1, ho.2.2, m0, m1, t0, t1, fun H' kv hb hy => ⟨rfl, ?_⟩⟩
      exact k (.ref y) _ H' ⟨y, dx, kv, rfl, upd_same⟩ (gr_made fh ny ndx hb hy)
    | spa n m t z ps =>
      obtain ⟨q, u, rfl, hq, pl, us, rfl, hpl, hus⟩ := hm
      obtain ⟨hp1, hmt, z0, z1, hpb, h8, hl2⟩ := ho
      refine iF (vstr_ne (by decide +kernel : ("sparse" : Str) ≠ "file")) ?_
      refine ⟨_, rfl, x, _, 0, _, rfl, rfl, SqT.of hxH, at0 _ _, rfl, _, rfl, iF (vstr_ne (by decide +kernel : ("sparse" : Str) ≠ "directory")) ?_⟩
      refine ⟨_, rfl, x, _, 0, _, rfl, rfl, SqT.of hxH, at0 _ _, rfl, _, rfl, iF (vstr_ne (by decide +kernel : ("sparse" : Str) ≠ "symlink")) ?_⟩
      refine ⟨_, rfl, x, _, 0, _, rfl, rfl, SqT.of hxH, at0 _ _, rfl, _, rfl, iF (vstr_ne (by decide +kernel : ("sparse" : Str) ≠ "link")) ?_⟩
      refine ⟨_, rfl, x, _, 4, _, rfl, rfl, SqT.of hxH, at4 _ _ _ _ _ _, q, _, rfl, SqT.of (fh _ _ hq), rfl, _, _, rfl, _, _, rfl, rfl, ?_⟩
      refine ⟨_, rfl, pl, rfl, ⟨_, SqL.of (fh _ _ hpl)⟩, fun D hD => ?_⟩
      have fD : F D = none := fh.free hD
      have gD := (Gr.refl (S := []) fh).raw (o := .lst []) hD
      -- a sparse file is made
      have mk : ∀ (F1 H1 : Hp) (ws : List V), Gr [] F H F1 H1 → Paired (RPb F1) ws (pbOf ps) → ∀ y dx, H1 y = none → H1 dx = none → dx ≠ y → spSpaR Z.sp (.ref y :: .str n :: .int z :: ws) [.int m, .int t] (upd (upd H1 dx (.own y)) y (.ins Z.sp dx [])) fun v H3 => v = .non ∧ Q (.ref y) H3 := by
        intro F1 H1 ws g hws y dx ny ndx nyd
        refine ⟨[.ref y, .str n, .int z], ws, rfl, rfl, ?_, fun p hp => ?_⟩
        · rw [Plen hws]
          unfold pbOf
          rw [List.length_map]
          exact Nat.le_trans hl2 (by decide)
        have nyp : y ≠ p := ne_of_none upd_same hp
        have sF : Same F1 (upd (upd (upd H1 dx (.own y)) y (.ins Z.sp dx [])) p (.tup ws)) := fun b o e => by
          have e1 := g.fh _ _ e
          have n1 : b ≠ y := ne_of_none e1 ny
          have n2 : b ≠ dx := ne_of_none e1 ndx
          have n3 : b ≠ p := ne_of_none (show upd (upd H1 dx (.own y)) y (.ins Z.sp dx []) b = some o by rw [upd_ne n1, upd_ne n2]; exact e1) hp
          rw [upd_ne n3, upd_ne n1, upd_ne n2]; exact e1
        refine ⟨y, dx, p, n, z, m, t, ws, pbOf ps, rfl, by rw [upd_ne nyp]; exact upd_same, upd_same, mon_RPb.paired sF hws, hpb, z0, z1, hp1.1, m0, m1, t0, t1, fun H' kv hb hy => ⟨rfl, ?_⟩⟩
        have hb2 : But y (upd (upd H1 dx (.own y)) y (.ins Z.sp dx [])) H' := (But.of y (sameUpd hp)).trans hb
        have g5 := g.trans (gr_made g.fh ny ndx hb2 hy)
        have hp1 : H1 p = none := by
          by_cases c1 : p = dx
          · rw [c1]; exact ndx
          · rw [upd_ne nyp.symm, upd_ne c1] at hp; exact hp
        have hpH : H p = none := g.dom _ hp1
        have fp : upd F1 y (.ins Z.sp dx (mF n m t kv ++ xF2 "size" (.int z) "pieces" (.ref p))) p = none := by rw [upd_ne nyp.symm]; exact g.fh.free hp1
        have g6 := g5.seal hpH fp (hb p _ nyp.symm upd_same)
        refine k (.ref y) _ H' ⟨y, dx, kv, rfl, p, ws, by rw [upd_ne nyp]; exact upd_same, upd_same, ?_⟩ g6
        exact mon_RPb.paired ((sameUpd (g.fh.free ny)).trans (sameUpd fp)) hws
      refine lc_it (walk_list (xs := us)) (fun i H' => ∃ F1 ws, Gr [] F H F1 H' ∧ F1 D = none ∧ H' D = some (.lst ws) ∧ Paired (RPb F1) ws (pbOf (ps.take i))) ?_ (fun i H' _ h => by obtain ⟨F1, ws, g, _⟩ := h; exact SqL.of (g.fh _ _ (g.ff _ _ hpl))) ?_ ?_
      · exact ⟨F, [], gD, fD, upd_same, .nil⟩
      · rintro i y H2 H3 hi ⟨F1, ws, g, f1, a1, a2⟩ ⟨rfl, hy⟩
        obtain ⟨⟨o, ms⟩, hb, a, u', rfl, ha, w', rfl, hml⟩ := Pget hus hy
        refine ⟨a, _, rfl, SqT.of (g.fh _ _ (g.ff _ _ ha)), rfl, _, _, rfl, _, _, rfl, rfl, rfl, ?_⟩
        have hmem := List.mem_of_getElem? hb
        have hsz : ms.length ≤ sizeLine := by
          have h := hpb.2.2 (o, byteArr ms) (List.mem_map.mpr ⟨(o, ms), hmem, rfl⟩)
          have h2 := h.2
          rw [byteArr_size] at h2
          exact h2
        have hsz2 : ms.length ≤ 4096 := by
          have h3 : ∀ (l : List (Int × Int)) (e z : Int) (q : Int × Int), q ∈ l → SpOk e l z → -1 ≤ e → q.2 ≤ z := by
            intro l
            induction l with
            | nil => intro e z q hq; simp at hq
            | cons p r ih =>
              intro e z q hq hs he
              obtain ⟨h1, h2, h3⟩ : e < p.1 ∧ 1 ≤ p.2 ∧ SpOk (p.1 + p.2) r z := hs
              rcases List.mem_cons.mp hq with c | c
              · have := spOk_le h3
                rw [c]; omega
              · exact ih _ _ q c h3 (by omega)
          have h4 := hpb.1
          rw [sps_eq] at h4
          have := h3 _ _ _ (o, (ms.length : Int)) (List.mem_map.mpr ⟨(o, ms), hmem, rfl⟩) h4 (Int.le_refl _)
          have h5 : (ms.length : Int) ≤ z := this
          omega
        refine ⟨_, rfl, _, rfl, w', ms, rfl, g.fh _ _ (g.ff _ _ hml), h8 _ hmem, Nat.lt_of_le_of_lt hsz2 (by decide), fun H5 s5 => ⟨(by show 2 ≤ sizeLine; decide), fun c hc => ?_⟩⟩
        have g5 : Gr [] F H F1 H5 := ⟨g.ff, g.fh.trans s5, fun b o n e => s5 _ _ (g.ex b o n e), fun b e => g.dom b (s5.free e), g.nw⟩
        have g6 := g5.new (o := .tup [.int o, .byt (byteArr ms)]) hc
        have nDc : D ≠ c := ne_of_none (s5 _ _ a1) hc
        have fD6 : upd F1 c (.tup [.int o, .byt (byteArr ms)]) D = none := by rw [upd_ne nDc]; exact f1
        refine ⟨ws, by rw [upd_ne nDc]; exact s5 _ _ a1, ?_, _, ws ++ [.ref c], g6.mut (.inl hD) fD6, fD6, upd_same, ?_⟩
        · rw [Plen a2]
          unfold pbOf
          rw [List.length_map, List.length_take]
          exact Nat.lt_of_le_of_lt (show _ ≤ 2 by omega) (by decide)
        · have e1 : pbOf (ps.take (i + 1)) = pbOf (ps.take i) ++ [(o, byteArr ms)] := by
            unfold pbOf
            rw [List.take_succ, hb, List.map_append]; rfl
          rw [e1]
          exact Psnoc (mon_RPb.paired (sameUpd (g5.fh.free hc)) a2) ⟨c, rfl, upd_same⟩
      · rintro H2 ⟨F1, ws, g, f1, a1, a2⟩
        rw [Plen hus, List.take_length] at a2
        have hwl : ws.length = ps.length := by rw [Plen a2]; unfold pbOf; rw [List.length_map]
        refine ⟨_, rfl, Nat.zero_le _, fun e he => ?_⟩
        have nDe : D ≠ e := ne_of_none a1 he
        have g2 := g.raw (o := .lst []) he
        have hD2 : upd H2 e (.lst []) D = some (.lst ws) := by rw [upd_ne nDe]; exact a1
        have hx2 := g2.fh _ _ (g2.ff _ _ hx)
        refine ⟨D, e, ws, rfl, rfl, SqL.of hD2, SqL.of upd_same, _, rfl, ?_⟩
        match ws, hwl, a2, hD2 with
        | [], hwl, a2, hD2 =>
          refine iT rfl ?_
          refine ⟨_, rfl, x, _, 1, _, rfl, rfl, SqT.of hx2, at1 _ _ _, _, rfl, _, rfl, x, _, 2, _, rfl, rfl, SqT.of hx2, at2 _ _ _ _, _, rfl, x, _, 3, _, rfl, rfl, SqT.of hx2, at3 _ _ _ _ _, rfl, ?_⟩
          exact mk F1 _ [] g2 a2
        | [w1], hwl, a2, hD2 =>
          refine iF rfl ?_
          refine ⟨_, rfl, _, 1, rfl, .inl ⟨_, SqL.of hD2, rfl⟩, rfl, _, rfl, iT (by decide) ?_⟩
          refine ⟨_, rfl, x, _, 1, _, rfl, rfl, SqT.of hx2, at1 _ _ _, _, rfl, _, rfl, D, _, 0, _, rfl, rfl, SqL.of hD2, rfl, _, rfl, x, _, 2, _, rfl, rfl, SqT.of hx2, at2 _ _ _ _, _, rfl, x, _, 3, _, rfl, rfl, SqT.of hx2, at3 _ _ _ _ _, rfl, ?_⟩
          exact mk F1 _ [w1] g2 a2
        | [w1, w2], hwl, a2, hD2 =>
          refine iF rfl ?_
          refine ⟨_, rfl, _, 2, rfl, .inl ⟨_, SqL.of hD2, rfl⟩, rfl, _, rfl, iF (by decide) ?_⟩
          refine ⟨_, rfl, x, _, 1, _, rfl, rfl, SqT.of hx2, at1 _ _ _, _, rfl, _, rfl, D, _, 0, _, rfl, rfl, SqL.of hD2, rfl, _, rfl, D, _, 1, _, rfl, rfl, SqL.of hD2, rfl, _, rfl, x, _, 2, _, rfl, rfl, SqT.of hx2, at2 _ _ _ _, _, rfl, x, _, 3, _, rfl, rfl, SqT.of hx2, at3 _ _ _ _ _, rfl, ?_⟩
          exact mk F1 _ [w1, w2] g2 a2
        | w1 :: w2 :: w3 :: r, hwl, a2, hD2 =>
          simp only [List.length_cons] at hwl
          omega
end
end L2.K88

end
/-! K88P13 -/
section
set_option Elab.async false
set_option linter.all false
set_option maxRecDepth 100000
set_option maxHeartbeats 4000000
namespace L2.K88
open PySem PySem.Spec PyProof.Rows
theorem HsR.upG {K : PySem.W.Frag} {C : Addr} {F H F' : Hp} {p : Addr} {a : At} (h : HsR K C F H p a) (s : Same F F') : HsR K C F' H p a := by
  obtain ⟨dx, ds, df, r, kvs, h1, h2, h3⟩ := h
  exact ⟨dx, ds, df, r, kvs, h1, h2, mon_RAt s h3⟩
section
variable {P : Program} {w : World} {K : PySem.W.Frag} {mg : Str → Option Value} {base : Heap} {Z : Ad}
theorem scPutAt : FnScope ["house", "path", "member", "target", "other"] ["house", "path", "member", "target"] (defScope sPutAt) := ⟨rfl, rfl, rfl, by decide +kernel, rfl, by decide +kernel, by decide +kernel⟩
theorem c_put_at (D : DefX K mg "put_at" sPutAt ["house", "path", "member", "target"]) (T : ClZ K Z) (Md : MadeX K mg) (cA : C8.Cal P w K mg base 1 "above" spAbove []) (cK : C8.Met P w K mg base 2 Z.ho "kind_at" (spKind K Z.ho) []) (cT : C8.Met P w K mg base 1 Z.ho "set_thing" (spSet K Z.ho) [])
    (cF : C8.Met P w K mg base 1 Z.fi "content" (spCoF Z.fi) []) (cS : C8.Met P w K mg base 1 Z.sp "content" (spCoS Z.sp) []) (hns : ∀ ds df r, (hF ds df r).lookup ("set_thing" : Str) = none) : C8.Cal P w K mg base 3 "put_at" (spPutAt K Z) [] := by
  refine D.cal scPutAt (fun vs H Q E h => ?_) (fun f cdv A outer s H vs Q E hr h => ?_)
  · obtain ⟨F, p, dx, ds, df, h, v, b, u, rfl, _⟩ := h; rfl
  · obtain ⟨F, p, dx, ds, df, h, v, b, u, rfl, fh, M, hM, ho, hz1, hz2, k⟩ := h
    obtain ⟨am, hmg, hma⟩ := Md.ex
    obtain ⟨x, C, dxm, fs, rfl, V1⟩ := memV T (mon_RMb _ _ _ _ fh hM)
    obtain ⟨u0, hcon⟩ := V1.cl.con
    have nl := notLnk hM
    -- the content's method
    obtain ⟨Cc, sp, cC, hC⟩ : ∃ (Cc : Addr) (sp : Sp), C8.Met P w K mg base 1 Cc "content" sp [] ∧ (b.kd = "file" ∨ b.kd = "sparse" → ∀ (F' H' : Hp) (Qc : VK), Same F F' → Same F' H' → Qc (.byt (conB b)) H' → ∃ dx fs, H' x = some (.ins Cc dx fs) ∧ fs.lookup ("content" : Str) = none ∧ sp [.ref x] H' Qc C8.E0) := by
      obtain ⟨x', dx', kv, ex, hM'⟩ := hM
      cases ex
      cases b with
      | file n m t ns => exact ⟨Z.fi, _, cF, fun _ F' H' Qc s1 s2 q => ⟨_, _, s2 _ _ (s1 _ _ hM'), mF_c1 _ _ _ _ _, x, _, _, _, rfl, s2 _ _ (s1 _ _ hM'), mF_d _ _ _ _ _, q⟩⟩
      | dir n m t => exact ⟨Z.fi, _, cF, fun e => absurd e (by show ¬ (("directory" : Str) = "file" ∨ ("directory" : Str) = "sparse"); decide +kernel)⟩
      | sym n m t g => exact ⟨Z.fi, _, cF, fun e => absurd e (by show ¬ (("symlink" : Str) = "file" ∨ ("symlink" : Str) = "sparse"); decide +kernel)⟩
      | spa n m t z ps =>
        obtain ⟨q, us, h1, h2, h3⟩ := hM'
        exact ⟨Z.sp, _, cS, fun _ F' H' Qc s1 s2 q' => ⟨_, _, s2 _ _ (s1 _ _ h1), mF_c3 _ _ _ _ _ _, x, _, _, q, us, z, pbOf ps, rfl, s2 _ _ (s1 _ _ h1), mF_z _ _ _ _ _ _, mF_p _ _ _ _ _ _, s2 _ _ (s1 _ _ h2), mon_RPb.paired (s1.trans s2) h3, ho.2.2.2.2.1, ho.2.2.1, ho.2.2.2.1, q'⟩⟩
      | lnk n m t g => exact hM'.elim
    refine ⟨_, pss_cons (ps_for PassesOwn.never rfl (pi_list (C8.pe_c cA hr (by decide) (by rfl) (pa_cons (pv 1) pa_nil))) (pg_name (i := 4) scPutAt.nd rfl (Or.inl rfl))
        (pss_one (ps_if (pt_cmpR op_eq (C8.pe_mt cK hr (by decide) (pv 0) (pa_cons (pv 4) pa_nil)) pe_str (nomark _)) (pss_one (ps_expr (C8.pe_mt cT hr (by decide) (pv 0) (pa_cons (pv 4) (pa_cons (pe_glob (v := .ref am) (by rfl) hmg rfl) pa_nil))))) pss_nil)))
      (pss_one (ps_match (pe_con (pv 2) rfl)
        (pmc_cons scPutAt.nd pm_str (pss_one (ps_expr (C8.pe_mt cT hr (by decide) (pv 0) (pa_cons (pv 1) (pa_cons (pe_tup (pa_cons pe_str (pa_cons (pe_fld (pv 2) rfl) (pa_cons (pe_fld (pv 2) rfl) pa_nil)))) pa_nil)))))
        (pmc_cons scPutAt.nd pm_str (pss_one (ps_expr (C8.pe_mt cT hr (by decide) (pv 0) (pa_cons (pv 1) (pa_cons (pe_tup (pa_cons pe_str (pa_cons (pe_fld (pv 2) rfl) (pa_cons (pe_fld (pv 2) rfl) (pa_cons (pe_fld (pv 2) rfl) pa_nil))))) pa_nil)))))
        (pmc_cons scPutAt.nd pm_str pss_never
        (pmc_cons scPutAt.nd pm_any (pss_one (ps_expr (C8.pe_mt cT hr (by decide) (pv 0) (pa_cons (pv 1) (pa_cons (pe_tup (pa_cons pe_str (pa_cons (C8.pe_mt0 cC hr (by decide) (pv 2)) (pa_cons (pe_fld (pv 2) rfl) (pa_cons (pe_fld (pv 2) rfl) pa_nil))))) pa_nil))))) pmc_nil)))))), ?_⟩
    have hbz := ho.nm.1.2.1
    refine ⟨_, rfl, b.nm, rfl, hbz, fun H1 l s1 hl0 hl => ?_⟩
    have g1 : Gr [ds, df] F H F H1 := ⟨Same.refl _, fh.trans s1, fun b o _ e => s1 _ _ e, fun b e => s1.free e, fun b e _ => e⟩
    obtain ⟨⟨ro0, e1⟩, ⟨kvs0, e2, e3⟩, ⟨vs0, e4, e5⟩, ne, fp, fd, ff, nd⟩ := id M
    have npd : p ≠ ds := ne_of e1 e2 (by intro z; cases z)
    have npf : p ≠ df := ne_of e1 e4 (by intro z; cases z)
    have nld : l ≠ ds := fun z => by rw [z, e2] at hl0; cases hl0
    have nlf : l ≠ df := fun z => by rw [z, e4] at hl0; cases hl0
    have M1 : HsM K Z.ho F H1 p dx ds df h := by
      exact ⟨⟨ro0, s1 _ _ e1⟩, ⟨kvs0, s1 _ _ e2, e3⟩, ⟨vs0, s1 _ _ e4, e5⟩, ne, fp, fd, ff, nd⟩
    refine ⟨l, rfl, ⟨_, SqL.of hl⟩, ?_⟩
    refine for_it (walk_list (xs := (aboves b.nm).map V.str)) (fun i σ H' => ∃ F1 v4, σ = [some (.ref p), some (.str b.nm), some (.ref x), some (.str u), v4] ∧ Gr [ds, df] F H F1 H' ∧ HsM K Z.ho F1 H' p dx ds df (upAb h ((aboves b.nm).take i)) ∧ H' l = some (.lst ((aboves b.nm).map V.str)) ∧ (∀ o, H p = some o → H' p = some o)) ?_ (fun i σ H' _ h => by obtain ⟨F1, v4, _, _, _, h, _⟩ := h; exact SqL.of h) ?_ ?_
    · exact ⟨F, none, rfl, g1, M1, hl, fun o e => s1 _ _ e⟩
    · rintro i y σ H2 H3 hi ⟨F1, v4, rfl, g, Mi, hl2, hp2⟩ ⟨rfl, hy⟩
      rw [List.getElem?_map] at hy
      cases e : (aboves b.nm)[i]? with
      | none => rw [e] at hy; cases hy
      | some n =>
        rw [e] at hy
        obtain rfl : V.str n = y := Option.some.inj hy
        rw [List.length_map] at hi
        obtain ⟨ro, hro⟩ := Mi.ex
        have hstep : upAb h ((aboves b.nm).take (i + 1)) = if kdAt (upAb h ((aboves b.nm).take i)).ats n = "absent" then setT (upAb h ((aboves b.nm).take i)) n (.dir 493 0) else upAb h ((aboves b.nm).take i) := by
          unfold upAb
          rw [List.take_succ, e, List.foldl_append]; rfl
        refine ⟨_, rfl, p, dx, _, rfl, hro, hn_kind _ _ _, _, rfl, F1, p, _, n, rfl, g.fh, Mi.r, rfl, _, rfl, ?_⟩
        by_cases ea : kdAt (upAb h ((aboves b.nm).take i)).ats n = "absent"
        · refine iT (vstr_eq ea) ?_
          have hlen := upAb_len ((aboves b.nm).take i) h
          have hti : ((aboves b.nm).take i).length ≤ 250 := by
            rw [List.length_take]
            have := ab_len b.nm
            omega
          refine ⟨_, rfl, p, dx, _, rfl, hro, hns _ _ _, _, rfl, F1, p, dx, ds, df, _, n, .ref am, .dir 493 0, rfl, g.fh, Mi, ⟨am, rfl, hma F1⟩, (fun u z => nomatch z), by omega, by rw [hlen.2]; exact hz2, fun F' H' g' M' hp' => ?_⟩
          refine ⟨F', _, rfl, g.trans g', by rw [hstep, if_pos ea]; exact M', g'.keep (by simp [nld, nlf]) hl2, fun o eo => hp' o (hp2 o eo)⟩
        · refine iF (vstr_ne ea) ?_
          exact ⟨F1, _, rfl, g, by rw [hstep, if_neg ea]; exact Mi, hl2, hp2⟩
    · rintro σ H2 ⟨F1, v4, rfl, g, Mi, hl2, hp2⟩
      rw [List.length_map, List.take_length] at Mi
      obtain ⟨ro, hro⟩ := Mi.ex
      have nxp : x ≠ p := fun z => by
        have q1 := hM
        obtain ⟨x', dx', kv, ex, hM'⟩ := q1
        cases ex
        cases b with
        | file n m t ns => rw [z, fp] at hM'; cases hM'
        | dir n m t => rw [z, fp] at hM'; cases hM'
        | sym n m t g => rw [z, fp] at hM'; cases hM'
        | spa n m t z' ps => obtain ⟨q, us, h1, _⟩ := hM'; rw [z, fp] at h1; cases h1
        | lnk n m t g => exact hM'.elim
      have hM2 : RMb Z H2 (.ref x) b := mon_RMb _ _ _ _ (g.ff.trans g.fh) hM
      obtain ⟨x2, C2, dx2, fs2, ex2, V2⟩ := memV T hM2
      cases ex2
      have hlen := upAb_len (aboves b.nm) h
      have hal := ab_len b.nm
      have fin : ∀ (t : Addr) (Hc : Hp), Hc = H2 → Hc t = none → spSet K Z.ho [.ref p, .str b.nm, .ref t] (upd Hc t (.tup (rwMb b).vs)) (fun _ H' => Q .non H') C8.E0 := by
        rintro t Hc rfl ht
        have g2 := g.new (o := .tup (rwMb b).vs) ht
        have nsp : ∀ q o, Hc q = some o → q ≠ t := fun q o e => ne_of_none e ht
        have M2 := Mi.keep ((Gr.refl g.fh).new (S := []) (o := .tup (rwMb b).vs) ht) (by simp) (by simp) (by simp)
        refine ⟨upd F1 t (.tup (rwMb b).vs), p, dx, ds, df, _, b.nm, .ref t, rwMb b, rfl, g2.fh, M2, ⟨t, rfl, SqT.of upd_same⟩, ?_, by omega, by rw [hlen.2]; exact hz2, fun F' H' g' M' hp' => ?_⟩
        · intro u0 e
          cases b with
          | lnk n m t g => exact nl rfl
          | file n m t ns => cases e
          | dir n m t => cases e
          | sym n m t g => cases e
          | spa n m t z ps => cases e
        · exact k F' H' (g2.trans g') M' fun o eo => hp' o (by rw [upd_ne (nsp _ _ (hp2 o eo))]; exact hp2 o eo)
      obtain ⟨u2, hcon2⟩ := V2.cl.con
      refine ⟨_, rfl, x, C2, dx2, fs2, _, u2, rfl, V2.hp, V2.cl.cl, hcon2, V2.nk, ?_⟩
      cases b with
      | lnk n m t g => exact absurd rfl nl
      | dir n m t =>
        refine ⟨_, rfl, fun _ => ?_, fun e => absurd rfl e⟩
        refine ⟨_, rfl, p, dx, _, rfl, hro, hns _ _ _, _, rfl, _, rfl, x, C2, dx2, fs2, _, rfl, V2.hp, V2.cl.cl, V2.cl.nMode, V2.mo, _, rfl, x, C2, dx2, fs2, _, rfl, V2.hp, V2.cl.cl, V2.cl.nTime, V2.ti, (by show 3 ≤ sizeLine; decide), fun t' ht => fin t' _ rfl ht⟩
      | sym n m t g' =>
        refine ⟨_, rfl, fun e => absurd e (show ¬ (("symlink" : Str) = "directory") by decide +kernel), fun _ => ?_⟩
        refine ⟨_, rfl, fun _ => ?_, fun e => absurd rfl e⟩
        obtain ⟨x3, dx3, kv3, ex3, hM3⟩ := hM2
        cases ex3
        refine ⟨_, rfl, p, dx, _, rfl, hro, hns _ _ _, _, rfl, _, rfl, x, Z.sy, dx3, _, _, rfl, hM3, T.sy.cl, T.sy.nTarget, mF_t _ _ _ _ _, _, rfl, x, C2, dx2, fs2, _, rfl, V2.hp, V2.cl.cl, V2.cl.nMode, V2.mo, _, rfl, x, C2, dx2, fs2, _, rfl, V2.hp, V2.cl.cl, V2.cl.nTime, V2.ti, (by show 4 ≤ sizeLine; decide), fun t' ht => fin t' _ rfl ht⟩
      | file n m t ns =>
        refine ⟨_, rfl, fun e => absurd e (show ¬ (("file" : Str) = "directory") by decide +kernel), fun _ => ?_⟩
        refine ⟨_, rfl, fun e => absurd e (show ¬ (("file" : Str) = "symlink") by decide +kernel), fun _ => ?_⟩
        refine ⟨_, rfl, fun e => absurd e (show ¬ (("file" : Str) = "link") by decide +kernel), fun _ => ?_⟩
        have use : ∀ Qc : VK, Qc (.byt (conB _)) H2 → ∃ dx fs, V.ref x = .ref x ∧ H2 x = some (.ins Cc dx fs) ∧ fs.lookup ("content" : Str) = none ∧ sp [.ref x] H2 Qc C8.E0 := fun Qc q => by
          obtain ⟨dc, fc, c1, c2, c3⟩ := hC (.inl rfl) F1 H2 Qc g.ff g.fh q
          exact ⟨dc, fc, rfl, c1, c2, c3⟩
        refine ⟨_, rfl, p, dx, _, rfl, hro, hns _ _ _, _, rfl, _, rfl, x, ?_⟩
        refine use _ ?_
        refine ⟨_, rfl, x, C2, dx2, fs2, _, rfl, V2.hp, V2.cl.cl, V2.cl.nMode, V2.mo, _, rfl, x, C2, dx2, fs2, _, rfl, V2.hp, V2.cl.cl, V2.cl.nTime, V2.ti, (by show 4 ≤ sizeLine; decide), fun t' ht => fin t' _ rfl ht⟩
      | spa n m t z ps =>
        refine ⟨_, rfl, fun e => absurd e (show ¬ (("sparse" : Str) = "directory") by decide +kernel), fun _ => ?_⟩
        refine ⟨_, rfl, fun e => absurd e (show ¬ (("sparse" : Str) = "symlink") by decide +kernel), fun _ => ?_⟩
        refine ⟨_, rfl, fun e => absurd e (show ¬ (("sparse" : Str) = "link") by decide +kernel), fun _ => ?_⟩
        have use : ∀ Qc : VK, Qc (.byt (conB _)) H2 → ∃ dx fs, V.ref x = .ref x ∧ H2 x = some (.ins Cc dx fs) ∧ fs.lookup ("content" : Str) = none ∧ sp [.ref x] H2 Qc C8.E0 := fun Qc q => by
          obtain ⟨dc, fc, c1, c2, c3⟩ := hC (.inr rfl) F1 H2 Qc g.ff g.fh q
          exact ⟨dc, fc, rfl, c1, c2, c3⟩
        refine ⟨_, rfl, p, dx, _, rfl, hro, hns _ _ _, _, rfl, _, rfl, x, ?_⟩
        refine use _ ?_
        refine ⟨_, rfl, x, C2, dx2, fs2, _, rfl, V2.hp, V2.cl.cl, V2.cl.nMode, V2.mo, _, rfl, x, C2, dx2, fs2, _, rfl, V2.hp, V2.cl.cl, V2.cl.nTime, V2.ti, (by show 4 ≤ sizeLine; decide), fun t' ht => fin t' _ rfl ht⟩
end
end L2.K88

end
/-! K88P14 -/
section
set_option Elab.async false
set_option linter.all false
set_option maxRecDepth 100000
set_option maxHeartbeats 4000000
namespace L2.K88
open PySem PySem.Spec PyProof.Rows
section
variable {P : Program} {w : World} {K : PySem.W.Frag} {mg : Str → Option Value} {base : Heap} {Z : Ad}
theorem scPutM : FnScope ["house", "member"] ["house", "member"] (defScope sPutM) := ⟨rfl, rfl, rfl, by decide +kernel, rfl, by decide +kernel, by decide +kernel⟩
theorem c_put_member (D : DefX K mg "put_member" sPutM ["house", "member"]) (T : ClZ K Z) (cP : C8.Cal P w K mg base 3 "put_at" (spPutAt K Z) []) : C8.Cal P w K mg base 4 "put_member" (spPutM K Z) [] := by
  refine D.cal scPutM (fun vs H Q E h => ?_) (fun f cdv A outer s H vs Q E hr h => ?_)
  · obtain ⟨F, p, dx, ds, df, h, v, b, rfl, _⟩ := h; rfl
  · obtain ⟨F, p, dx, ds, df, h, v, b, rfl, fh, M, hM, ho, hz1, hz2, k⟩ := h
    refine ⟨_, pss_one (ps_expr (C8.pe_c cP hr (by decide) (by rfl) (pa_cons (pv 0) (pa_cons (pe_fld (pv 1) rfl) (pa_cons (pv 1) (pa_cons (pe_ifExp (pt_cmpR op_eq (pe_con (pv 1) rfl) pe_str (nomark _)) pe_no pe_str) pa_nil)))))), ?_⟩
    obtain ⟨x, C, dxm, fs, rfl, V1⟩ := memV T (mon_RMb _ _ _ _ fh hM)
    obtain ⟨u0, hcon⟩ := V1.cl.con
    have nl := notLnk hM
    refine ⟨_, rfl, _, rfl, x, C, dxm, fs, _, rfl, V1.hp, V1.cl.cl, V1.cl.nName, V1.nm, _, rfl, _, rfl, x, C, dxm, fs, _, u0, rfl, V1.hp, V1.cl.cl, hcon, V1.nk, rfl, _, rfl, iF (vstr_ne nl) ?_⟩
    exact ⟨F, p, dx, ds, df, h, .ref x, b, "", rfl, fh, M, hM, ho, hz1, hz2, k⟩
theorem scUnOne : FnScope ["house", "index", "member", "word"] ["house", "index", "member"] (defScope sUnOne) := ⟨rfl, rfl, rfl, by decide +kernel, rfl, by decide +kernel, by decide +kernel⟩
theorem c_unpack_one (D : DefX K mg "unpack_one" sUnOne ["house", "index", "member"]) (cR : C8.Cal P w K mg base 4 "refusal" (spRefusal K Z) []) (cP : C8.Cal P w K mg base 4 "put_member" (spPutM K Z) []) : C8.Cal P w K mg base 5 "unpack_one" (spUnOne K Z) [] := by
  refine D.cal scUnOne (fun vs H Q E h => ?_) (fun f cdv A outer s H vs Q E hr h => ?_)
  · obtain ⟨F, p, dx, ds, df, h, i, v, b, rfl, _⟩ := h; rfl
  · obtain ⟨F, p, dx, ds, df, h, i, v, b, rfl, fh, M, hM, ho, hF0, hz1, hz2, k⟩ := h
    refine ⟨_, pss_cons (ps_set (i := 3) scUnOne.nd rfl (Or.inl rfl) (C8.pe_c cR hr (by decide) (by rfl) (pa_cons (pv 0) (pa_cons (pv 2) pa_nil))))
      (pss_cons (ps_if (pt_cmpR op_ne (pv 3) pe_str (nomark _)) pss_never pss_nil)
      (pss_one (ps_expr (C8.pe_c cP hr (by decide) (by rfl) (pa_cons (pv 0) (pa_cons (pv 2) pa_nil)))))), ?_⟩
    refine ⟨_, rfl, _, rfl, F, p, h.ats, v, b, rfl, fh, M.r, hM, ho, hF0, fun H1 s1 => ?_⟩
    refine ⟨_, rfl, rfl, _, rfl, iF (by rw [vstr_eq rfl]; rfl) ?_⟩
    have g0 : Gr [] F H F H1 := ⟨Same.refl _, fh.trans s1, fun b o _ e => s1 _ _ e, fun b e => s1.free e, fun b e _ => e⟩
    have M1 := M.keep g0 (by simp) (by simp) (by simp)
    refine ⟨_, rfl, _, rfl, F, p, dx, ds, df, h, v, b, rfl, fh.trans s1, M1, hM, ho, hz1, hz2, fun F' H' g M' hp' => ?_⟩
    exact k F' H' (g0.up.trans g) M' fun o e => hp' o (s1 _ _ e)
theorem scUnp : FnScope ["house", "members", "made", "index", "member"] ["house", "members"] (defScope sUnp) := ⟨rfl, rfl, rfl, by decide +kernel, rfl, by decide +kernel, by decide +kernel⟩
theorem c_unpacked (D : DefX K mg "unpacked" sUnp ["house", "members"]) (B : Bl mg) (cC : C8.Met P w K mg base 3 Z.ho "copied" (spCopied K Z.ho) []) (cU : C8.Cal P w K mg base 5 "unpack_one" (spUnOne K Z) []) : C8.Cal P w K mg base 6 "unpacked" (spUnp K Z) [] := by
  refine D.cal scUnp (fun vs H Q E h => ?_) (fun f cdv A outer s H vs Q E hr h => ?_)
  · obtain ⟨F, p, l, h, us, ms, rfl, _⟩ := h; rfl
  · obtain ⟨F, p, l, h, us, ms, rfl, fh, hS, hw, hl, hms, hok, hgood, hz1, hz2, k⟩ := h
    refine ⟨_, pss_cons (ps_set (i := 2) scUnp.nd rfl (Or.inl rfl) (C8.pe_mt0 cC hr (by decide) (pv 0)))
      (pss_cons (ps_for PassesOwn.never rfl (pi_enum (by rfl) B.enumerate_ (pa_cons (pv 1) pa_nil)) (pg_tup rfl (pgs_cons (pg_name (i := 3) scUnp.nd rfl (Or.inl rfl)) (pgs_cons (pg_name (i := 4) scUnp.nd rfl (Or.inl rfl)) pgs_nil)))
        (pss_one (ps_expr (C8.pe_c cU hr (by decide) (by rfl) (pa_cons (pv 2) (pa_cons (pv 3) (pa_cons (pv 4) pa_nil)))))))
      (pss_one (ps_ret (C8.pe_mt0 cC hr (by decide) (pv 2))))), ?_⟩
    obtain ⟨dx0, ds0, df0, r0, kvs0, vs0, e1, e2, e3, e4, e5, nd⟩ := id hS
    have hw0 := hw
    refine ⟨_, rfl, p, dx0, _, rfl, e1, hn_copied _ _ _, F, p, h, rfl, fh, hS, hw, by omega, fun F1 H1 q hN => ?_⟩
    obtain ⟨g1, dx, ds, df, r, rs, rows, M1, q0, ds0', df0', r0', _, hq, _⟩ := hN
    have hl1 := g1.same _ _ hl
    refine ⟨_, rfl, l, _, rfl, SqL.of hl1, ?_⟩
    refine for_it (walk_enum (xs := us)) (fun i σ H' => ∃ F2 v3 v4, σ = [some (.ref p), some (.ref l), some (.ref q), v3, v4] ∧ Gr [] F H F2 H' ∧ HsM K Z.ho F2 H' q dx ds df (runH h (ms.take i))) ?_ (fun i σ H' _ h => by obtain ⟨F2, v3, v4, _, g, _⟩ := h; exact SqL.of (g.same _ _ hl)) ?_ ?_
    · exact ⟨F1, none, none, rfl, g1, M1⟩
    · rintro i y σ H2 H3 hi ⟨F2, v3, v4, rfl, g, Mi⟩ ⟨T, a, v, rfl, hT, rfl, ea, ev⟩
      cases ea
      obtain ⟨b, hb, hR⟩ := Pget hms ev
      have hm : b ∈ ms := List.mem_of_getElem? hb
      have g2 := g.raw (o := .tup [.int (i : Nat), v]) hT
      have M2 := Mi.keep ((Gr.refl (F := F2) (H := H2) g.fh).raw (S := []) (o := .tup [.int (i : Nat), v]) hT) (by simp) (by simp) (by simp)
      have hstep : runH h (ms.take (i + 1)) = putH (runH h (ms.take i)) b := by
        unfold runH
        rw [List.take_succ, hb, List.foldl_append]; rfl
      have hlen := runH_len (ms.take i) h fun b hb => hok b (List.mem_of_mem_take hb)
      have hti : (ms.take i).length ≤ ms.length := by rw [List.length_take]; exact Nat.min_le_right _ _
      refine ⟨T, _, rfl, SqT.of upd_same, rfl, _, _, rfl, _, _, rfl, rfl, ?_⟩
      refine ⟨_, rfl, _, rfl, _, rfl, F2, q, dx, ds, df, _, _, v, b, rfl, g2.fh, M2, mon_RMb _ _ _ _ g.ff hR, hok b hm, goodL_at hgood hb, by omega, by omega, fun F' H' g' M' _ => ?_⟩
      refine ⟨F', _, _, rfl, g2.then g' fun y hy => .inr (by
        rcases List.mem_cons.mp hy with e | e
        · rw [e]; exact ds0'
        · rw [List.mem_singleton] at e; rw [e]; exact df0'), by rw [hstep]; exact M'⟩
    · rintro σ H2 ⟨F2, v3, v4, rfl, g, Mi⟩
      rw [Plen hms, List.take_length] at Mi
      obtain ⟨ro, hro⟩ := Mi.ex
      have hlen := runH_len ms h hok
      refine ⟨_, rfl, q, dx, _, rfl, hro, hn_copied _ _ _, F2, q, runH h ms, rfl, g.fh, Mi.src, runH_w ms hw, by omega, fun F' H' q' hN => ?_⟩
      obtain ⟨g', dx', ds', df', r', rs', rows', M', a1, a2, a3, a4, a5⟩ := hN
      exact k F' H' q' ⟨g.trans g', dx', ds', df', r', rs', rows', M', g.dom _ a1, g.dom _ a2, g.dom _ a3, g.dom _ a4, a5⟩
end
end L2.K88

end
/-! K88L13 -/
section
set_option Elab.async false
set_option linter.all false
set_option maxRecDepth 100000
set_option maxHeartbeats 4000000
namespace L2.K88
open PySem PySem.Spec PyProof.Rows
abbrev sHidden : Stmt := top 74
def HidOf (gs more : List Mb) : Prop := more = gs ∨ ∃ (a spot : Nat) (b o : Mb), a ≤ spot ∧ gs[spot]? = some b ∧ (b.kd = "file" ∨ b.kd = "sparse" ∨ b.kd = "symlink") ∧ (o = .file b.nm 1 2 [3, 4] ∨ o = .sym b.nm 5 6 "a/b") ∧ more = gs.take a ++ [o] ++ gs.drop a
def spHidden : Sp := fun vs H Q _ => ∃ (src : Addr) (n : Nat) (F : Hp) (l : Addr) (us : List V) (gs : List Mb), vs = [.ref src, .ref l] ∧ Ok src (n + 3) F H ∧ F l = some (.lst us) ∧ Paired (RSp F) us gs ∧ (∀ b ∈ gs, MbOk b) ∧ gs.length ≤ 12 ∧ ∀ v more F' H', RL RSp F' v more → HidOf gs more → Gr [src] F H F' H' → Src H' src n → Q v H'
theorem drop_cut (xs : List V) (j : Nat) (h : j ≤ xs.length) : cutV xs (some (j : Int)) none = xs.drop j := by
  unfold cutV
  rw [HT.sIx_none, HT.sIx_nat, Nat.min_eq_left h]
  rw [List.take_of_length_le]
  rw [List.length_drop]
  exact Nat.le_refl _
theorem inV3 {p a b c : Str} (h : inV (.str p) [.str a, .str b, .str c] = true) : p = a ∨ p = b ∨ p = c := by
  by_cases e1 : p = a
  · exact .inl e1
  · by_cases e2 : p = b
    · exact .inr (.inl e2)
    · by_cases e3 : p = c
      · exact .inr (.inr e3)
      · have e : ∀ a : Str, p ≠ a → eqV (.str a) (.str p) = false := fun a n => beq_eq_false_iff_ne.mpr fun z => n z.symm
        have h' : (eqV (.str a) (.str p) || (eqV (.str b) (.str p) || (eqV (.str c) (.str p) || false))) = true := h
        rw [e _ e1, e _ e2, e _ e3] at h'
        cases h'
section
variable {P : Program} {w : World} {K : PySem.W.Frag} {mg : Str → Option Value} {base : Heap}
theorem scHidden : FnScope ["_law_source_here", "_law_specs_here", "_law_spots", "_law_spot", "_law_name", "_law_at", "_law_other", "_law_k"] ["_law_source_here", "_law_specs_here"] (defScope sHidden) := ⟨rfl, rfl, rfl, by decide +kernel, rfl, by decide +kernel, by decide +kernel⟩
theorem c_hidden (D : DefX K mg "_law_hidden" sHidden ["_law_source_here", "_law_specs_here"]) (B : Bl mg) (cD : C8.Cal P w K mg base 1 "_law_draw" spDraw []) : C8.Cal P w K mg base 2 "_law_hidden" spHidden [] := by
  refine D.cal scHidden (fun vs H Q E h => ?_) (fun f cdv A outer s H vs Q E hr h => ?_)
  · obtain ⟨src, n, F, l, us, gs, rfl, _⟩ := h; rfl
  · obtain ⟨src, n, F, l, us, gs, rfl, O, hl, hus, hok, hln, k⟩ := h
    have hu := hu_of hr
    refine ⟨_, pss_cons (ps_setLc (i := 2) (own := [("_law_k", 7)]) (g := gName 7) rfl scHidden.nd rfl rfl (sw_true rfl rfl rfl (by decide +kernel)) (pi_range1 (by rfl) B.range_ (pa_cons (pe_callB call_len (by rfl) B.len_ boot_len (pa_cons (pv 1) pa_nil)) pa_nil)) (blkOk_by (N := ["_law_source_here", "_law_specs_here", "_law_spots", "_law_spot", "_law_name", "_law_at", "_law_other", "_law_k"]) (sc := defScope sHidden) (by decide +kernel)) (fun _ _ _ _ _ => pg_name (i := 7) scHidden.nd rfl (Or.inl rfl))
        (fun _ _ _ _ _ => pts_one (pt_cmpR (op_in_seq : OpR _ _ (rIn K false)) (pe_ix (ix_tup : IxR _ (rIxT K)) (pe_ix (ix_list : IxR _ (rIxL K)) (pv 1) (pv 7) (fun _ _ => rfl)) pe_int (fun _ _ => rfl)) (pe_tup (pa_cons pe_str (pa_cons pe_str (pa_cons pe_str pa_nil)))) (by rfl)))
        (fun _ _ _ _ _ => pv 7))
      (pss_cons (ps_if (pt_cmpR (op_eqNil hu) (pv 2) (pe_lst pa_nil) (nomark _)) (pss_one (ps_ret (pv 1))) pss_nil)
      (pss_cons (ps_set (i := 3) scHidden.nd rfl (Or.inl rfl) (pe_ix ix_list (pv 2) (C8.pe_c cD hr (by decide) (by rfl) (pa_cons (pv 0) (pa_cons (pe_callB call_len (by rfl) B.len_ boot_len (pa_cons (pv 2) pa_nil)) pa_nil))) (fun _ _ => rfl)))
      (pss_cons (ps_par (i := 4) (j := 5) (by rfl) scHidden.nd rfl rfl (by decide) rfl rfl (pa_cons (pe_ix ix_tup (pe_ix ix_list (pv 1) (pv 3) (fun _ _ => rfl)) pe_int (fun _ _ => rfl)) (pa_cons (C8.pe_c cD hr (by decide) (by rfl) (pa_cons (pv 0) (pa_cons (pe_op op_add (pv 3) pe_int) pa_nil))) pa_nil)) (by rfl))
      (pss_cons (ps_set (i := 6) scHidden.nd rfl (Or.inl rfl) (pe_ix ix_list (pe_lst (pa_cons (pe_tup (pa_cons pe_str (pa_cons (pv 4) (pa_cons pe_int (pa_cons pe_int (pa_cons (pe_lst (pa_cons pe_int (pa_cons pe_int pa_nil))) pa_nil)))))) (pa_cons (pe_tup (pa_cons pe_str (pa_cons (pv 4) (pa_cons pe_int (pa_cons pe_int (pa_cons pe_str pa_nil)))))) pa_nil))) (C8.pe_c cD hr (by decide) (by rfl) (pa_cons (pv 0) (pa_cons pe_int pa_nil))) (fun _ _ => rfl)))
      (pss_one (ps_ret (pe_op op_cat (pe_op op_cat (pe_slice sl_list (pv 1) po_none (po_some (pv 5))) (pe_lst (pa_cons (pv 6) pa_nil))) (pe_slice sl_list (pv 1) (po_some (pv 5)) po_none)))))))), ?_⟩
    have hlH := O.fh _ _ hl
    have hul : us.length ≤ 12 := by rw [Plen hus]; exact hln
    refine ⟨_, rfl, _, _, rfl, .inl ⟨_, SqL.of hlH, rfl⟩, _, rfl, by omega, by omega, fun D hD => ?_⟩
    have gD := (Gr.refl (S := [src]) O.fh).raw (o := .lst []) hD
    have fD : F D = none := O.fh.free hD
    have nlD : l ≠ D := ne_of_none hlH hD
    have nsD : src ≠ D := by
      obtain ⟨o, e⟩ := O.sr.obj
      exact ne_of_none e hD
    refine lc_it (walk_range (lo := 0)) (fun i H' => ∃ js : List Nat, Gr [src] F H F H' ∧ Src H' src (n + 3) ∧ H' D = some (.lst (js.map fun j : Nat => V.int (j : Int))) ∧ (∀ j ∈ js, ∃ b, gs[j]? = some b ∧ (b.kd = "file" ∨ b.kd = "sparse" ∨ b.kd = "symlink")) ∧ js.length ≤ i) ?_ (fun i H' _ h => True.intro) ?_ ?_
    · exact ⟨[], gD, srcU O.sr hD, upd_same, fun j hj => by simp at hj, Nat.le_refl _⟩
    · rintro i x H2 H3 hi ⟨js, g, s, a1, a2, a3⟩ ⟨rfl, rfl⟩
      have hi' : i < us.length := by omega
      have hyi := List.getElem?_eq_getElem hi'
      obtain ⟨b, hb, x, more, ex, hx, hmo⟩ := Pget hus hyi
      have e0 : ((0 : Int) + (i : Nat)) = ((i : Nat) : Int) := by omega
      refine ⟨rfl, ?_⟩
      refine ⟨_, rfl, _, rfl, l, us, _, .ref x, rfl, rfl, SqL.of (g.fh _ _ hl), by rw [e0]; exact atI_nat (by rw [hyi, ex]), x, _, 0, _, rfl, rfl, SqT.of (g.fh _ _ hx), at0 _ _, (by show 3 ≤ sizeLine; decide), fun c hc => ⟨c, _, rfl, .inr (SqT.of upd_same), rfl, rfl, _, rfl, ?_⟩⟩
      have gc := g.raw (o := .tup [.str "file", .str "sparse", .str "symlink"]) hc
      have nDc : D ≠ c := ne_of_none a1 hc
      refine ite2 (fun hin => ?_) (fun hin => ?_)
      · have hin' := inV3 hin
        refine ⟨_, rfl, _, by rw [upd_ne nDc]; exact a1, ?_, js ++ [i], gc.mut (.inl hD) fD, (srcU s hc).keep fun o e => by rw [upd_ne nsD]; exact e, ?_, ?_, ?_⟩
        · rw [List.length_map]; exact Nat.lt_of_le_of_lt (show js.length ≤ 12 by omega) (by decide)
        · rw [upd_same, List.map_append]
          show some (HO.lst (_ ++ [V.int ((0 : Int) + (i : Nat))])) = _
          rw [e0]; rfl
        · intro j hj
          rcases List.mem_append.mp hj with h | h
          · exact a2 j h
          · rw [List.mem_singleton] at h; rw [h]; exact ⟨b, hb, hin'⟩
        · rw [List.length_append]; exact Nat.succ_le_succ a3
      · exact ⟨js, gc, srcU s hc, by rw [upd_ne nDc]; exact a1, a2, by omega⟩
    · rintro H2 ⟨js, g, s, a1, a2, a3⟩
      refine ⟨_, rfl, Nat.zero_le _, fun e he => ?_⟩
      have nDe : D ≠ e := ne_of_none a1 he
      have ge := g.raw (o := .lst []) he
      have se := srcU (o := .lst []) s he
      have hDe : upd H2 e (.lst []) D = some (.lst (js.map fun j : Nat => V.int (j : Int))) := by rw [upd_ne nDe]; exact a1
      refine ⟨D, e, _, rfl, rfl, SqL.of hDe, SqL.of upd_same, _, rfl, ?_⟩
      by_cases hj : js = []
      · refine iT (by rw [hj]; rfl) ⟨_, rfl, ?_⟩
        exact k (.ref l) gs F _ ⟨l, us, rfl, hl, hus⟩ (.inl rfl) ge (se.le (by omega))
      · have hj1 : 1 ≤ js.length := List.length_pos_iff.mpr hj
        refine iF (by cases js with | nil => exact absurd rfl hj | cons a r => rfl) ?_
        refine ⟨_, rfl, _, rfl, _, rfl, _, _, rfl, .inl ⟨_, SqL.of hDe, rfl⟩, src, n + 2, _, F, rfl, O.next ge se, ?_, ?_, fun d H3 d0 d1 g3 s3 => ?_⟩
        · rw [List.length_map]; omega
        · rw [List.length_map]; omega
        rw [List.length_map] at d1
        obtain ⟨spot, hsp, hat⟩ := atI_map (fun j : Nat => V.int (j : Int)) (xs := js) d0 d1
        obtain ⟨b, hb, hkd⟩ := a2 spot hsp
        have g03 := ge.trans g3
        refine ⟨D, _, _, _, rfl, rfl, SqL.of (g3.keep (by simp [nsD.symm]) hDe), hat, ?_⟩
        obtain ⟨y, hy, x, more, rfl, hx, hmo⟩ := Pget' hus hb
        have hl3 := g03.fh _ _ hl
        refine ⟨_, rfl, _, rfl, l, us, _, .ref x, rfl, rfl, SqL.of hl3, atI_nat hy, x, _, 1, _, rfl, rfl, SqT.of (g03.fh _ _ hx), at1 _ _ _, ?_⟩
        have hsl : spot < us.length := (List.getElem?_eq_some_iff.mp hy).1
        refine ⟨_, rfl, _, rfl, _, _, rfl, rfl, src, n + 1, _, F, rfl, O.next g03 s3, by omega, by omega, fun a H4 b0 b1 g4 s4 => ?_⟩
        have g04 := g03.trans g4
        refine ⟨_, _, rfl, ?_⟩
        refine ⟨_, rfl, (by show 2 ≤ sizeLine; decide), fun n1 hn1 => ?_⟩
        have g5 := g04.new (o := .lst ([3, 4].map V.int)) hn1
        have s5 := srcU (o := .lst ([3, 4].map V.int)) s4 hn1
        refine ⟨(by show 5 ≤ sizeLine; decide), fun t1 ht1 => ?_⟩
        have g6 := g5.new (o := .tup [.str "file", .str b.nm, .int 1, .int 2, .ref n1]) ht1
        have s6 := srcU (o := .tup [.str "file", .str b.nm, .int 1, .int 2, .ref n1]) s5 ht1
        refine ⟨_, rfl, (by show 5 ≤ sizeLine; decide), fun t2 ht2 => ?_⟩
        have g7 := g6.new (o := .tup [.str "symlink", .str b.nm, .int 5, .int 6, .str "a/b"]) ht2
        have s7 := srcU (o := .tup [.str "symlink", .str b.nm, .int 5, .int 6, .str "a/b"]) s6 ht2
        have R1 : RSp (upd (upd (upd F n1 (.lst ([3, 4].map V.int))) t1 (.tup [.str "file", .str b.nm, .int 1, .int 2, .ref n1])) t2 (.tup [.str "symlink", .str b.nm, .int 5, .int 6, .str "a/b"])) (.ref t1) (.file b.nm 1 2 [3, 4]) := by
          have h0 : RSp (upd (upd F n1 (.lst ([3, 4].map V.int))) t1 (.tup [.str "file", .str b.nm, .int 1, .int 2, .ref n1])) (.ref t1) (.file b.nm 1 2 [3, 4]) :=
            ⟨t1, [.ref n1], rfl, upd_same, .ref n1, rfl, n1, rfl, by rw [upd_ne (ne_of_none (o := .lst ([3, 4].map V.int)) upd_same (g5.fh.free ht1))]; exact upd_same⟩
          exact mon_RSp _ _ _ _ (sameUpd (g6.fh.free ht2)) h0
        have R2 : RSp (upd (upd (upd F n1 (.lst ([3, 4].map V.int))) t1 (.tup [.str "file", .str b.nm, .int 1, .int 2, .ref n1])) t2 (.tup [.str "symlink", .str b.nm, .int 5, .int 6, .str "a/b"])) (.ref t2) (.sym b.nm 5 6 "a/b") := ⟨t2, [.str "a/b"], rfl, upd_same, rfl⟩
        generalize hF8 : upd (upd (upd F n1 (.lst ([3, 4].map V.int))) t1 (.tup [.str "file", .str b.nm, .int 1, .int 2, .ref n1])) t2 (.tup [.str "symlink", .str b.nm, .int 5, .int 6, .str "a/b"]) = F8 at g7 R1 R2
        refine ⟨(by show 2 ≤ sizeLine; decide), fun L hL => ?_⟩
        have nsL : src ≠ L := by
          obtain ⟨o, e⟩ := s7.obj
          exact ne_of_none e hL
        have g8 := g7.raw (o := .lst [.ref t1, .ref t2]) hL
        have s8 := srcU (o := .lst [.ref t1, .ref t2]) s7 hL
        refine ⟨_, rfl, src, n, 2, F8, rfl, (O.next g8 s8).le (by omega), by decide, by decide, fun d' H5 c0 c1 g9 s9 => ?_⟩
        have g89 := g8.trans g9
        have hd' : d' = 0 ∨ d' = 1 := by omega
        obtain ⟨o, ov, hov, hat2, hoo⟩ : ∃ (o : Mb) (ov : V), RSp F8 ov o ∧ atI [V.ref t1, V.ref t2] d' = some ov ∧ (o = .file b.nm 1 2 [3, 4] ∨ o = .sym b.nm 5 6 "a/b") := by
          rcases hd' with rfl | rfl
          · exact ⟨_, _, R1, rfl, .inl rfl⟩
          · exact ⟨_, _, R2, rfl, .inr rfl⟩
        refine ⟨L, _, _, ov, rfl, rfl, SqL.of (g9.keep (by simp [nsL.symm]) upd_same), hat2, ?_⟩
        obtain ⟨aN, rfl⟩ := Int.eq_ofNat_of_zero_le b0
        have haN : aN ≤ spot := by omega
        have hau : aN ≤ us.length := by omega
        have hl9 := g89.fh _ _ (g89.ff _ _ hl)
        refine ⟨_, rfl, _, rfl, _, rfl, l, us, rfl, SqL.of hl9, fun p1 hp1 => ?_⟩
        rw [take_cut us aN hau]
        have g10 := g89.raw (o := .lst (us.take aN)) hp1
        have s10 := srcU (o := .lst (us.take aN)) s9 hp1
        refine ⟨_, rfl, (by show 1 ≤ sizeLine; decide), fun p2 hp2 => ?_⟩
        have np12 : p1 ≠ p2 := ne_of_none upd_same hp2
        have g11 := g10.raw (o := .lst [ov]) hp2
        have s11 := srcU (o := .lst [ov]) s10 hp2
        refine ⟨p1, p2, _, _, rfl, rfl, by rw [upd_ne np12]; exact upd_same, upd_same, ?_, fun p3 hp3 => ?_⟩
        · rw [List.length_take, List.length_singleton]
          exact Nat.le_trans (show min aN us.length + 1 ≤ 13 by omega) (by decide)
        have g12 := g11.raw (o := .lst (us.take aN ++ [ov])) hp3
        have s12 := srcU (o := .lst (us.take aN ++ [ov])) s11 hp3
        refine ⟨_, rfl, _, rfl, _, rfl, l, us, rfl, SqL.of (g12.fh _ _ (g12.ff _ _ hl)), fun p4 hp4 => ?_⟩
        rw [drop_cut us aN hau]
        have np34 : p3 ≠ p4 := ne_of_none upd_same hp4
        have g13 := g12.raw (o := .lst (us.drop aN)) hp4
        have s13 := srcU (o := .lst (us.drop aN)) s12 hp4
        refine ⟨p3, p4, _, _, rfl, rfl, by rw [upd_ne np34]; exact upd_same, upd_same, ?_, fun p5 hp5 => ?_⟩
        · rw [List.length_append, List.length_take, List.length_singleton, List.length_drop]
          exact Nat.le_trans (show min aN us.length + 1 + (us.length - aN) ≤ 26 by omega) (by decide)
        have g14 := g13.new (o := .lst (us.take aN ++ [ov] ++ us.drop aN)) hp5
        have s14 := srcU (o := .lst (us.take aN ++ [ov] ++ us.drop aN)) s13 hp5
        have sm := (g89.ff).trans (sameUpd (o := .lst (us.take aN ++ [ov] ++ us.drop aN)) (g13.fh.free hp5))
        have hus8 : Paired (RSp (upd F8 p5 (.lst (us.take aN ++ [ov] ++ us.drop aN)))) us gs := mon_RSp.paired sm hus
        refine k (.ref p5) (gs.take aN ++ [o] ++ gs.drop aN) _ _ ⟨p5, _, rfl, upd_same, ?_⟩ (.inr ⟨aN, spot, b, o, haN, hb, hkd, hoo, rfl⟩) g14 s14
        exact Papp (Papp (Ptake aN hus8) (.cons (mon_RSp _ _ _ _ (sameUpd (g13.fh.free hp5)) hov) .nil)) (Pdrop aN hus8)
end
end L2.K88

end
/-! K88P6 -/
section
set_option Elab.async false
set_option linter.all false
set_option maxRecDepth 100000
set_option maxHeartbeats 4000000
namespace L2.K88
open PySem PySem.Spec PyProof.Rows
theorem ens_pairs {K : PySem.W.Frag} {H : Hp} : ∀ {us : List V} {es : List En}, Paired (REn K H) us es → ∃ (ps : List Addr) (kvs : List (Key × V)), us = ps.map V.ref ∧ Paired (fun p kv => SqT K H p [kV kv.1, kv.2]) ps kvs ∧ Paired (RK (RRw K H)) kvs es
  | _, _, .nil => ⟨[], [], rfl, .nil, .nil⟩
  | _, e :: _, .cons ⟨p, u, h1, h2, h3⟩ t => by
    obtain ⟨ps, kvs, e1, e2, e3⟩ := ens_pairs (K := K) t
    subst h1 e1
    exact ⟨p :: ps, (Sum.inr e.1, u) :: kvs, rfl, .cons (SqT.of h2) e2, .cons ⟨rfl, h3⟩ e3⟩
section
variable {P : Program} {w : World} {K : PySem.W.Frag} {mg : Str → Option Value} {base : Heap}
theorem scOne : FnScope ["entries", "things", "path", "thing", "other"] ["entries"] (defScope sOneHouse) := ⟨rfl, rfl, rfl, by decide +kernel, rfl, by decide +kernel, by decide +kernel⟩
theorem c_one_house (D : DefX K mg "are_of_one_house" sOneHouse ["entries"]) (B : Bl mg) (cA : C8.Cal P w K mg base 1 "above" spAbove []) : C8.Cal P w K mg base 2 "are_of_one_house" (spOneHouse K) [] := by
  refine D.cal scOne (fun vs H Q E h => ?_) (fun f cdv A outer s H vs Q E hr h => ?_)
  · obtain ⟨p, us, es, rfl, _⟩ := h; rfl
  · obtain ⟨p, us, es, rfl, hp, hu, ho, k⟩ := h
    have hun := hu_of hr
    obtain ⟨ps, kvs, e1, e2, e3⟩ := ens_pairs (K := K) hu
    have hlen : kvs.length = us.length := by rw [Paired.length e3, Plen hu]
    refine ⟨_, pss_cons (ps_set (i := 1) scOne.nd rfl (Or.inr rfl) (pe_callTy (call_dictP rfl) (by rfl) B.dict_ (by decide +kernel) (pa_cons (pv 0) pa_nil)))
      (pss_cons (ps_if (pt_cmpR op_ne (pe_callB call_lenD (by rfl) B.len_ PySem.boot_len (pa_cons (pv 1) pa_nil)) (pe_callB call_len (by rfl) B.len_ boot_len (pa_cons (pv 0) pa_nil)) (nomark _)) pss_never pss_nil)
      (pss_cons (ps_for PassesOwn.never rfl (pi_list (pv 0)) (pg_tup rfl (pgs_cons (pg_name (i := 2) scOne.nd rfl (Or.inl rfl)) (pgs_cons (pg_name (i := 3) scOne.nd rfl (Or.inl rfl)) pgs_nil)))
        (pss_cons (ps_if (pt_not (pt_val (pe_callB (cr_all rfl) (by rfl) B.all_ boot_all (pa_cons (pe_lc (own := [("other", 4)]) (g := gName 4) (tt := tYes) rfl scOne.nd (pi_list (C8.pe_c cA hr (by decide) (by rfl) (pa_cons (pv 2) pa_nil))) (blkOk_by (N := ["entries", "things", "path", "thing", "other"]) (sc := defScope sOneHouse) (by decide +kernel)) (fun _ _ _ _ _ => pg_name (i := 4) scOne.nd rfl (Or.inl rfl)) (fun _ _ _ _ _ => pts_nil)
            (fun _ _ _ _ _ => pe_cmpR op_eq (pe_ix (ix_tup : IxR _ (rIxT K)) (pe_dget2 hun (pv 1) (pv 4) (pe_tup (pa_cons pe_str pa_nil)) ⟨rfl, rfl, rfl, rfl⟩) pe_int (fun _ _ => rfl)) pe_str (nomark _))) pa_nil)))) pss_never pss_nil)
          (pss_one (ps_if (PW.pt (pw_and (pt_cmpR op_eq (pe_ix ix_tup (pv 3) pe_int (fun _ _ => rfl)) pe_str (nomark _))
            (pw_and1 (pt_cmpR op_ne (pe_ix ix_tup (pe_dget2 hun (pv 1) (pe_ix ix_tup (pv 3) pe_int (fun _ _ => rfl)) (pe_tup (pa_cons pe_str pa_nil)) ⟨rfl, rfl, rfl, rfl⟩) pe_int (fun _ _ => rfl)) pe_str (nomark _))))) pss_never pss_nil))))
      (pss_one (ps_ret pe_bl)))), ?_⟩
    refine ⟨_, rfl, p, ps, kvs, rfl, SqL.of (by rw [← e1]; exact hp), e2, fun d hd => ?_⟩
    have hnd : (kvs.map (·.1)).Nodup := by rw [rk_keys e3]; exact nd_inr ho.nd
    rw [mergeK_nd hnd]
    have s1 : Same H (upd H d (.dK kvs)) := sameUpd hd
    refine ⟨_, rfl, d, kvs, rfl, upd_same, _, rfl, _, _, rfl, .inl ⟨_, SqL.of (s1 _ _ hp), rfl⟩, rfl, _, rfl, ?_⟩
    refine iF (by rw [hlen, decide_eq_true (rfl : V.int (us.length : Int) = V.int (us.length : Int))]; rfl) ?_
    have look : ∀ {H' : Hp} {q : Str} {r : Rw}, Same (upd H d (.dK kvs)) H' → lk es q = some r → ∃ u, H' d = some (.dK kvs) ∧ DGet H' d (.str q) (some (.ref u)) ∧ SqT K H' u r.vs := by
      intro H' q r s2 e
      have hd1 : H' d = some (.dK kvs) := s2 _ _ upd_same
      rcases rk_val (k := q) e3 with ⟨h, _⟩ | ⟨b, v, h1, h2, u, rfl, h3⟩
      · rw [e] at h; cases h
      · rw [e] at h1
        cases h1
        exact ⟨u, hd1, by rw [← h2]; exact DGet.k (k := Sum.inr q) hd1, sqs s2 (sqs s1 h3)⟩
    refine ⟨_, rfl, p, rfl, ⟨_, SqL.of (s1 _ _ hp)⟩, ?_⟩
    refine for_it (walk_list (xs := us)) (fun i σ H' => Same (upd H d (.dK kvs)) H' ∧ ∃ v1 v2 v3, σ = [some (.ref p), some (.ref d), v1, v2, v3]) ?_ (fun i σ H' _ h => SqL.of (h.1 _ _ (s1 _ _ hp))) ?_ ?_
    · exact ⟨Same.refl _, none, none, none, rfl⟩
    · rintro i x σ H1 H2 hi ⟨s2, v1, v2, v3, rfl⟩ ⟨rfl, hx⟩
      obtain ⟨⟨z, r⟩, hb, q, u, rfl, hq, a, rfl, ha⟩ := Pget hu hx
      have hmem : (z, r) ∈ es := List.mem_of_getElem? hb
      have hzo := (ho.ok _ hmem).1
      refine ⟨q, _, rfl, SqT.of (s2 _ _ (s1 _ _ hq)), rfl, _, _, rfl, _, _, rfl, rfl, ?_⟩
      refine ⟨_, rfl, z, rfl, hzo.1.2.1, fun H3 l s3 hl0 hl => ?_⟩
      refine ⟨l, rfl, ⟨_, SqL.of hl⟩, fun D hD => ?_⟩
      refine lc_it (walk_list (xs := (aboves z).map V.str)) (fun i H' => (Same H3 H' ∧ H3 D = none ∧ H' D = some (.lst ((List.replicate i true).map V.bl)))) ?_ (fun i H' _ h => SqL.of (h.1 _ _ hl)) ?_ ?_
      · exact ⟨sameUpd hD, hD, upd_same⟩
      · rintro j x H4 H5 hj ⟨s4, hd0, hD1⟩ ⟨rfl, hx⟩
        rw [List.getElem?_map] at hx
        cases e : (aboves z)[j]? with
        | none => rw [e] at hx; cases hx
        | some n =>
          rw [e] at hx
          obtain rfl : V.str n = x := Option.some.inj hx
          rw [List.length_map] at hj
          obtain ⟨m, t, hl2⟩ := ho.ab _ hmem n (List.mem_of_getElem? e)
          refine ⟨rfl, _, rfl, d, rfl, .inl ⟨kvs, .inl ((s2.trans (s3.trans s4)) _ _ upd_same)⟩, _, rfl, (by show 1 ≤ sizeLine; decide), fun c hc => ?_⟩
          have s5 : Same H5 (upd H5 c (.tup [.str "absent"])) := sameUpd hc
          obtain ⟨u, g1, g2, g3⟩ := look ((s2.trans (s3.trans s4)).trans s5) hl2
          refine ⟨_, g2, u, _, 0, _, rfl, rfl, g3, rfl, rfl, ?_⟩
          refine ⟨_, s5 _ _ hD1, ?_, fun b o e => ?_, hd0, ?_⟩
          · rw [List.length_map, List.length_replicate]
            have := pz_len z
            have : z.length ≤ 250 := hzo.1.2.1
            unfold aboves at hj
            rw [List.length_map, List.length_range] at hj
            exact Nat.lt_of_lt_of_le (show j < 252 by omega) (by decide)
          · rw [upd_ne (ne_of_none e hd0)]; exact s5 _ _ (s4 _ _ e)
          · rw [upd_same]
            show some (HO.lst (_ ++ [V.bl (decide (V.str (Rw.dir m t).kd = V.str "directory"))])) = _
            rw [decide_eq_true (by rfl)]
            congr 2; simp [List.replicate_succ', List.map_append]
      · rintro H4 ⟨s4, hd0, hD1⟩
        refine ⟨_, _, rfl, SqL.of hD1, ?_⟩
        rw [show (List.replicate ((aboves z).map V.str).length true).all id = true by simp]
        refine ⟨true, rfl, iF rfl ?_⟩
        have s5 := s2.trans (s3.trans s4)
        have ha4 := sqs s5 (sqs s1 ha)
        have e0 : atI r.vs 0 = some (.str r.kd) := by cases r <;> rfl
        refine ⟨_, rfl, a, _, 0, _, rfl, rfl, ha4, e0, rfl, _, rfl, ?_⟩
        cases r with
        | fil b m t => exact iF (show decide (V.str "file" = V.str "link") = false by decide +kernel) (iF rfl ⟨s5, _, _, _, rfl⟩)
        | dir m t => exact iF (show decide (V.str "directory" = V.str "link") = false by decide +kernel) (iF rfl ⟨s5, _, _, _, rfl⟩)
        | sym g m t => exact iF (show decide (V.str "symlink" = V.str "link") = false by decide +kernel) (iF rfl ⟨s5, _, _, _, rfl⟩)
        | lnk z2 =>
          refine iT (show decide (V.str "link" = V.str "link") = true by decide +kernel) ?_
          obtain ⟨b, m, t, hl2⟩ := ho.ln _ hmem z2 rfl
          refine ⟨_, rfl, d, rfl, .inl ⟨kvs, .inl (s5 _ _ upd_same)⟩, _, rfl, a, _, 1, _, rfl, rfl, ha4, rfl, (by show 1 ≤ sizeLine; decide), fun c hc => ?_⟩
          obtain ⟨u, g1, g2, g3⟩ := look (s5.trans (sameUpd hc)) hl2
          refine ⟨_, g2, u, _, 0, _, rfl, rfl, g3, rfl, rfl, _, rfl, iF (by decide +kernel) ?_⟩
          exact ⟨s5.trans (sameUpd hc), _, _, _, rfl⟩
    · rintro σ H' ⟨s2, v1, v2, v3, rfl⟩
      exact k _ (s1.trans s2)
end
end L2.K88

end
/-! K88P10 -/
section
set_option Elab.async false
set_option linter.all false
set_option maxRecDepth 100000
set_option maxHeartbeats 4000000
namespace L2.K88
open PySem PySem.Spec PyProof.Rows
abbrev sHOf : Stmt := inClass (top 42) 1
structure OfX (K : PySem.W.Frag) (g : Addr) : Prop where
  ex : ∃ fd, L2.Fun K "of" "House.of" sHOf g fd ∧ Binds K fd ["cls", "entries"] []
def spOf (K : PySem.W.Frag) (C : Addr) : Sp := fun vs H Q _ => ∃ (F : Hp) (p : Addr) (us : List V) (es : List En), vs = [.ref C, .ref p] ∧ Same F H ∧ F p = some (.lst us) ∧ Paired (REn K F) us es ∧ EnsOk es ∧ es.length ≤ 4000 ∧ ∀ F' H' q, NewHs K C F H F' H' q (ofH es) → Q (.ref q) H'
theorem f2_lnk {h : Hs} {z u : Str} {th : Th} (e : lk h.ats u = some th) : f2 h (z, .lnk u) = ⟨pt h.ats z th, h.fls⟩ := by
  show (match lk h.ats u with | some th => (⟨pt h.ats z th, h.fls⟩ : Hs) | none => h) = _
  rw [e]
section
variable {P : Program} {w : World} {K : PySem.W.Frag} {mg : Str → Option Value} {base : Heap} {C : Addr}
theorem scHEq : FnScope ["self", "other"] ["self", "other"] (defScope sHEq) := ⟨rfl, rfl, rfl, by decide +kernel, rfl, by decide +kernel, by decide +kernel⟩
theorem eqRow {F : Hp} {H : Hp} {u v : V} {e : En} (h1 : REn K H u e) (h2 : REn K H v e) : EqN K H 3 u v := by
  obtain ⟨p, a, rfl, hp, x, rfl, hx⟩ := h1
  obtain ⟨q, b, rfl, hq, y, rfl, hy⟩ := h2
  refine .inr ⟨p, q, _, _, rfl, rfl, .inr ⟨SqT.of hp, SqT.of hq⟩, .cons (.inl ⟨rfl, rfl⟩) (.cons (.inr ⟨x, y, _, _, rfl, rfl, .inr ⟨hx, hy⟩, ?_⟩) .nil)⟩
  cases e.2 with
  | fil b m t => exact .cons (.inl ⟨rfl, rfl⟩) (.cons (.inl ⟨rfl, rfl⟩) (.cons (.inl ⟨rfl, rfl⟩) (.cons (.inl ⟨rfl, rfl⟩) .nil)))
  | dir m t => exact .cons (.inl ⟨rfl, rfl⟩) (.cons (.inl ⟨rfl, rfl⟩) (.cons (.inl ⟨rfl, rfl⟩) .nil))
  | sym g m t => exact .cons (.inl ⟨rfl, rfl⟩) (.cons (.inl ⟨rfl, rfl⟩) (.cons (.inl ⟨rfl, rfl⟩) (.cons (.inl ⟨rfl, rfl⟩) .nil)))
  | lnk z => exact .cons (.inl ⟨rfl, rfl⟩) (.cons (.inl ⟨rfl, rfl⟩) .nil)
theorem eqRows {H : Hp} : ∀ {us vs : List V} {es : List En}, Paired (REn K H) us es → Paired (REn K H) vs es → Paired (EqN K H 3) us vs
  | _, _, _, .nil, .nil => .nil
  | _, _, _, .cons h t, .cons h' t' => .cons (eqRow (F := H) h h') (eqRows t t')
theorem c_heq (D : MetX K C "__eq__" "House.__eq__" sHEq ["self", "other"]) (T : HoF K C) (Z : HoM K mg C) (I : C8.InsC K C) (B : Bl mg) : C8.Met P w K mg base 1 C "__eq__" (spHEq K C) [] := by
  refine D.met scHEq (fun vs H Q E h => ?_) (fun f cdv A outer s H vs Q E hr h => ?_)
  · obtain ⟨a, b, rows, rfl, _⟩ := h; rfl
  · obtain ⟨a, b, rows, rfl, ⟨p, dx, ds, df, r, rs, rfl, h1, h2, h3⟩, ⟨p', dx', ds', df', r', rs', rfl, h1', h2', h3'⟩, k⟩ := h
    refine ⟨_, pss_one (ps_ret (pe_and (pe_callB (C8.call_isC I) (by rfl) B.isinstance_ boot_isinstance (pa_cons (pv 1) (pa_cons (pe_glob (v := .ref C) (by rfl) Z.mgC rfl) pa_nil))) (pe_one (pe_cmpR (op_eqN hr.units) (pe_fld (pv 0) rfl) (pe_fld (pv 1) rfl) (nomark _))))), ?_⟩
    refine ⟨_, rfl, p', dx', _, rfl, h1', true, rfl, iT rfl ?_⟩
    refine ⟨_, rfl, p, C, dx, _, _, rfl, h1, T.cl, T.nR, hF_r _ _ _, _, rfl, p', C, dx', _, _, rfl, h1', T.cl, T.nR, hF_r _ _ _, 3, by decide, ⟨r, r', rs, rs', rfl, rfl, .inl ⟨SqL.of h2, SqL.of h2'⟩, eqRows h3 h3'⟩, k⟩
theorem hn_set (ds df r : Addr) : (hF ds df r).lookup ("set_thing" : Str) = none := by kernel_rfl
theorem hn_share (ds df r : Addr) : (hF ds df r).lookup ("share" : Str) = none := by kernel_rfl
theorem scHOf : FnScope ["cls", "entries", "made", "path", "thing", "entry"] ["cls", "entries"] (defScope sHOf) := ⟨rfl, rfl, rfl, by decide +kernel, rfl, by decide +kernel, by decide +kernel⟩
theorem c_hof {g : Addr} (D : OfX K g) (T : HoF K C) (Z : HoM K mg C) (B : Bl mg) (cI : C8.Met P w K mg base 1 C "__init__" (spHI C) []) (cS : C8.Met P w K mg base 1 C "settle" (spSettle K C) []) (cT : C8.Met P w K mg base 1 C "set_thing" (spSet K C) []) (cH : C8.Met P w K mg base 1 C "share" (spShare K C) [])
    (cE : C8.Cal P w K mg base 5 "is_entry" (spIsEntry K) []) (cO : C8.Cal P w K mg base 2 "are_of_one_house" (spOneHouse K) []) : FnR P w K mg base CX0 6 g (spOf K C) := by
  obtain ⟨fd, F, b⟩ := D.ex
  refine FnR.imp (FnOk.raw (F.ok scHOf (sp := spOf K C) (fun vs H Q E h => ?_) (fun cdv A outer s H vs Q E hr h => ?_)) b .nil) (fun vs H Q E h => by rw [List.append_nil]; exact h)
  · obtain ⟨F, p, us, es, rfl, _⟩ := h; rfl
  · obtain ⟨F, p, us, es, rfl, fh, hp, hes, ho, hz, k⟩ := h
    obtain ⟨fi, Mi⟩ := Z.mkr
    obtain ⟨fi', fdi, psi, dsi, ci, mei, Fi, bi, di⟩ := cI.ex
    have hfi : fi = fi' := by
      have h1 := Mi.init
      have h2 := mei.at_
      rw [h1] at h2
      cases h2
      rfl
    subst hfi
    cases di
    have Fi2 : FnR P w K mg base CX0 1 fi (spHI C) := FnR.imp (FnOk.raw Fi bi .nil) (fun vs H Q E h => by rw [List.append_nil]; exact h)
    refine ⟨_, pss_cons (ps_if (PW.pt (pw_or (pt_not (pt_val (pe_callB call_isiT (by rfl) B.isinstance_ boot_isinstance (pa_cons (pv 1) (pa_cons (pe_tup (pa_cons (pe_bltn (v := .ty "list") (by rfl) B.list_ (by decide +kernel) rfl) (pa_cons (pe_bltn (v := .ty "tuple") (by rfl) B.tuple_ (by decide +kernel) rfl) pa_nil))) pa_nil)))))
        (pw_or1 (pt_not (pt_val (pe_callB (cr_all rfl) (by rfl) B.all_ boot_all (pa_cons (pe_lc (own := [("entry", 5)]) (g := gName 5) (tt := tYes) rfl scHOf.nd (pi_list (pv 1)) (blkOk_by (N := ["cls", "entries", "made", "path", "thing", "entry"]) (sc := defScope sHOf) (by decide +kernel)) (fun _ _ _ _ _ => pg_name (i := 5) scHOf.nd rfl (Or.inl rfl)) (fun _ _ _ _ _ => pts_nil)
          (fun _ _ _ _ _ => C8.pe_c cE hr (by decide) (by rfl) (pa_cons (pv 5) pa_nil))) pa_nil)))))))
        pss_never pss_nil)
      (pss_cons (ps_if (pt_not (pt_val (C8.pe_c cO hr (by decide) (by rfl) (pa_cons (pv 1) pa_nil)))) pss_never pss_nil)
      (pss_cons (ps_set (i := 2) scHOf.nd rfl (Or.inl rfl) (pe_makeV (i := 0) Mi Fi2 (hr.mono (by decide)) rfl (.inl rfl)))
      (pss_cons (ps_for PassesOwn.never rfl (pi_list (pv 1)) (pg_tup rfl (pgs_cons (pg_name (i := 3) scHOf.nd rfl (Or.inl rfl)) (pgs_cons (pg_name (i := 4) scHOf.nd rfl (Or.inl rfl)) pgs_nil)))
        (pss_one (ps_if (pt_cmpR op_ne (pe_ix ix_tup (pv 4) pe_int (fun _ _ => rfl)) pe_str (nomark _)) (pss_one (ps_expr (C8.pe_mt cT hr (by decide) (pv 2) (pa_cons (pv 3) (pa_cons (pv 4) pa_nil))))) pss_nil)))
      (pss_cons (ps_for PassesOwn.never rfl (pi_list (pv 1)) (pg_tup rfl (pgs_cons (pg_name (i := 3) scHOf.nd rfl (Or.inl rfl)) (pgs_cons (pg_name (i := 4) scHOf.nd rfl (Or.inl rfl)) pgs_nil)))
        (pss_one (ps_if (pt_cmpR op_eq (pe_ix ix_tup (pv 4) pe_int (fun _ _ => rfl)) pe_str (nomark _)) (pss_one (ps_expr (C8.pe_mt cH hr (by decide) (pv 2) (pa_cons (pv 3) (pa_cons (pe_ix ix_tup (pv 4) pe_int (fun _ _ => rfl)) pa_nil))))) pss_nil)))
      (pss_cons (ps_expr (C8.pe_mt0 cS hr (by decide) (pv 2))) (pss_one (ps_ret (pv 2)))))))), ?_⟩
    have hpH := fh _ _ hp
    refine ⟨_, rfl, (by show 2 ≤ sizeLine; decide), fun tp ht => ?_⟩
    have s0 : Same H (upd H tp (.tup [.ty "list", .ty "tuple"])) := sameUpd ht
    refine ⟨_, _, _, _, [.type "list", .type "tuple"], true, rfl, upd_same, .cons (.ty _) (.cons (.ty _) .nil), .base (.lst (s0 _ _ hpH)), kitAny_cons (kit_ty (b := "list") (r := true) (by decide +kernel)) (fun z => nomatch z) (fun _ => rfl), true, rfl, iF rfl ?_⟩
    refine ⟨_, rfl, p, rfl, ⟨_, SqL.of (s0 _ _ hpH)⟩, fun D hD => ?_⟩
    refine lc_it (walk_list (xs := us)) (fun i H' => (Same H H' ∧ H D = none ∧ H' D = some (.lst ((List.replicate i true).map V.bl)))) ?_ (fun i H' _ h => SqL.of (h.1 _ _ hpH)) ?_ ?_
    · exact ⟨s0.trans (sameUpd hD), s0.free hD, upd_same⟩
    · rintro i x H1 H2 hi ⟨hs, hd0, hD1⟩ ⟨rfl, hx⟩
      obtain ⟨e, hb, he⟩ := Pget hes hx
      have hm : e ∈ es := List.mem_of_getElem? hb
      refine ⟨rfl, _, rfl, x, e, rfl, mon_REn _ _ _ _ (fh.trans hs) he, (ho.ok _ hm).1, (ho.ok _ hm).2, fun H4 s4 => ?_⟩
      refine ⟨_, s4 _ _ hD1, ?_, fun b o e => ?_, hd0, ?_⟩
      · rw [List.length_map, List.length_replicate]
        exact Nat.lt_of_lt_of_le hi (Nat.le_trans (by rw [Plen hes]; exact hz) (by decide))
      · rw [upd_ne (ne_of_none e hd0)]; exact s4 _ _ (hs _ _ e)
      · rw [upd_same]; congr 2; simp [List.replicate_succ', List.map_append]
    · rintro H1 ⟨s1, hd0, hD1⟩
      refine ⟨_, _, rfl, SqL.of hD1, ?_⟩
      rw [show (List.replicate us.length true).all id = true by simp]
      refine ⟨true, rfl, iF rfl ?_⟩
      refine ⟨_, rfl, p, us, es, rfl, s1 _ _ hpH, mon_REn.paired (fh.trans s1) hes, ho, fun H2 s2 => ⟨true, rfl, iF rfl ?_⟩⟩
      refine ⟨rfl, fun x dx nx ndx nex => ?_⟩
      refine ⟨x, dx, rfl, upd_same, fun H3 a b c ha hb hc nab nac nbc hbut hx3 ha3 hb3 hc3 => ⟨rfl, ?_⟩⟩
      have s3 : Same H2 H3 := fun u o e => by
        have n1 : u ≠ x := ne_of_none e nx
        have n2 : u ≠ dx := ne_of_none e ndx
        exact hbut u o n1 (by rw [upd_ne n1, upd_ne n2]; exact e)
      have s4 : Same H H3 := (s1.trans s2).trans s3
      have old : ∀ u, upd (upd H2 dx (.own x)) x (.ins C dx []) u = none → H u = none := fun u hu => by
        by_cases z1 : u = x
        · rw [z1, upd_same] at hu; cases hu
        · by_cases z2 : u = dx
          · rw [z2, upd_ne nex, upd_same] at hu; cases hu
          · rw [upd_ne z1, upd_ne z2] at hu; exact (s1.trans s2).free hu
      have g3 : Gr [] F H F H3 := ⟨Same.refl _, fh.trans s4, fun u o _ e => s4 u o e, fun u e => s4.free e, fun u e _ => e⟩
      have x0 : H x = none := (s1.trans s2).free nx
      have a0 := old _ ha
      have b0 := old _ hb
      have M0 : HsM K C F H3 x dx a b h0 := ⟨⟨c, hx3⟩, ⟨[], ha3, .nil⟩, ⟨[], hb3, .nil⟩, nab, fh.free x0, fh.free a0, fh.free b0, List.nodup_nil⟩
      have nxp : p ≠ x := fun z => by rw [z, x0] at hpH; cases hpH
      -- the first walk
      refine ⟨_, rfl, p, rfl, ⟨_, SqL.of (s4 _ _ hpH)⟩, ?_⟩
      refine for_it (walk_list (xs := us)) (fun i σ H' => ∃ F1 v3 v4 v5, σ = [some (.ref C), some (.ref p), some (.ref x), v3, v4, v5] ∧ Gr [] F H F1 H' ∧ HsM K C F1 H' x dx a b ((es.take i).foldl f1 h0)) ?_ (fun i σ H' _ h => by obtain ⟨F1, v3, v4, v5, _, g, _⟩ := h; exact SqL.of (g.same _ _ hpH)) ?_ ?_
      · exact ⟨F, none, none, none, rfl, g3, M0⟩
      · rintro i y σ H4 H5 hi ⟨F1, v3, v4, v5, rfl, g, M⟩ ⟨rfl, hy⟩
        obtain ⟨⟨z, r⟩, he, q, u, rfl, hq, t, rfl, ht⟩ := Pget hes hy
        have hm := List.mem_of_getElem? he
        have hq5 := g.same _ _ (fh _ _ hq)
        have ht5 := sqs (fh.trans g.same) ht
        have hstep : (es.take (i + 1)).foldl f1 h0 = setT ((es.take i).foldl f1 h0) z r := by
          rw [List.take_succ, he, List.foldl_append]; rfl
        have hlen := len_f1 (es.take i) h0
        have hti : (es.take i).length ≤ 4000 := by rw [List.length_take]; omega
        simp only [h0, List.length_nil] at hlen
        refine ⟨q, _, rfl, SqT.of hq5, rfl, _, _, rfl, _, _, rfl, rfl, ?_⟩
        refine ⟨_, rfl, t, _, 0, _, rfl, rfl, ht5, rw_kd r, rfl, _, rfl, ?_⟩
        have go : (∀ u, r ≠ .lnk u) → ∀ (Qk : Hp → Prop), (∀ F' H', Gr [] F H F' H' → HsM K C F' H' x dx a b (setT ((es.take i).foldl f1 h0) z r) → Qk H') → spSet K C [.ref x, .str z, .ref t] H5 (fun _ H' => Qk H') (fun _ _ _ => False) := fun hl Qk hk =>
          ⟨F1, x, dx, a, b, _, z, .ref t, r, rfl, g.fh, M, ⟨t, rfl, sqs g.ff ht⟩, hl, by simp only [h0]; omega, by simp only [h0]; omega, fun F' H' g' M' _ => hk F' H' (g.then g' fun y hy => .inr (by
            rcases List.mem_cons.mp hy with e | e
            · rw [e]; exact a0
            · rw [List.mem_singleton] at e; rw [e]; exact b0)) M'⟩
        cases r with
        | lnk u =>
          refine iF (show (!decide (V.str "link" = V.str "link")) = false by decide +kernel) ?_
          exact ⟨F1, _, _, _, rfl, g, by rw [hstep]; exact M⟩
        | fil b' m' t' =>
          refine iT (show (!decide (V.str "file" = V.str "link")) = true by decide +kernel) ?_
          obtain ⟨ro, hro⟩ := M.ex
          refine ⟨_, rfl, x, dx, _, rfl, hro, hn_set _ _ _, _, rfl, _, rfl, go (fun u z => nomatch z) _ fun F' H' g' M' => ⟨F', _, _, _, rfl, g', by rw [hstep]; exact M'⟩⟩
        | dir m' t' =>
          refine iT (show (!decide (V.str "directory" = V.str "link")) = true by decide +kernel) ?_
          obtain ⟨ro, hro⟩ := M.ex
          refine ⟨_, rfl, x, dx, _, rfl, hro, hn_set _ _ _, _, rfl, _, rfl, go (fun u z => nomatch z) _ fun F' H' g' M' => ⟨F', _, _, _, rfl, g', by rw [hstep]; exact M'⟩⟩
        | sym g' m' t' =>
          refine iT (show (!decide (V.str "symlink" = V.str "link")) = true by decide +kernel) ?_
          obtain ⟨ro, hro⟩ := M.ex
          refine ⟨_, rfl, x, dx, _, rfl, hro, hn_set _ _ _, _, rfl, _, rfl, go (fun u z => nomatch z) _ fun F' H' g' M' => ⟨F', _, _, _, rfl, g', by rw [hstep]; exact M'⟩⟩
      · rintro σ H4 ⟨F1, v3, v4, v5, rfl, g1, M1⟩
        rw [Plen hes, List.take_length] at M1
        -- the second walk
        refine ⟨_, rfl, p, rfl, ⟨_, SqL.of (g1.same _ _ hpH)⟩, ?_⟩
        refine for_it (walk_list (xs := us)) (fun i σ H' => ∃ F1 v3 v4 v5, σ = [some (.ref C), some (.ref p), some (.ref x), v3, v4, v5] ∧ Gr [] F H F1 H' ∧ HsM K C F1 H' x dx a b ((es.take i).foldl f2 (es.foldl f1 h0))) ?_ (fun i σ H' _ h => by obtain ⟨F1, v3, v4, v5, _, g, _⟩ := h; exact SqL.of (g.same _ _ hpH)) ?_ ?_
        · exact ⟨F1, _, _, _, rfl, g1, M1⟩
        · rintro i y σ H4 H5 hi ⟨F1, v3, v4, v5, rfl, g, M⟩ ⟨rfl, hy⟩
          obtain ⟨⟨z, r⟩, he, q, u, rfl, hq, t, rfl, ht⟩ := Pget hes hy
          have hm := List.mem_of_getElem? he
          have hq5 := g.same _ _ (fh _ _ hq)
          have ht5 := sqs (fh.trans g.same) ht
          have hstep : (es.take (i + 1)).foldl f2 (es.foldl f1 h0) = f2 ((es.take i).foldl f2 (es.foldl f1 h0)) (z, r) := by
            rw [List.take_succ, he, List.foldl_append]; rfl
          refine ⟨q, _, rfl, SqT.of hq5, rfl, _, _, rfl, _, _, rfl, rfl, ?_⟩
          refine ⟨_, rfl, t, _, 0, _, rfl, rfl, ht5, rw_kd r, rfl, _, rfl, ?_⟩
          cases r with
          | fil b' m' t' => exact iF (show decide (V.str "file" = V.str "link") = false by decide +kernel) ⟨F1, _, _, _, rfl, g, by rw [hstep]; exact M⟩
          | dir m' t' => exact iF (show decide (V.str "directory" = V.str "link") = false by decide +kernel) ⟨F1, _, _, _, rfl, g, by rw [hstep]; exact M⟩
          | sym g' m' t' => exact iF (show decide (V.str "symlink" = V.str "link") = false by decide +kernel) ⟨F1, _, _, _, rfl, g, by rw [hstep]; exact M⟩
          | lnk u =>
            refine iT (show decide (V.str "link" = V.str "link") = true by decide +kernel) ?_
            obtain ⟨ro, hro⟩ := M.ex
            obtain ⟨th, hth⟩ := tgt_ofH ho (i := i) hm
            have hl1 := len_f1 es h0
            have hl2 := len_f2 (es.take i) (es.foldl f1 h0)
            have hti : (es.take i).length ≤ 4000 := by rw [List.length_take]; omega
            simp only [h0, List.length_nil] at hl1
            have hl3 : ((es.take i).foldl f2 (es.foldl f1 h0)).ats.length < 100000 := by
              have := hl2.1
              simp only [h0] at this ⊢
              omega
            refine ⟨_, rfl, x, dx, _, rfl, hro, hn_share _ _ _, _, rfl, _, rfl, t, _, 1, _, rfl, rfl, ht5, rfl, F1, x, dx, a, b, _, z, u, th, rfl, g.fh, M, hth, hl3, fun F' H' g' M' _ => ?_⟩
            refine ⟨F', _, _, _, rfl, g.then g' fun y hy => .inr (by
              rcases List.mem_cons.mp hy with e | e
              · rw [e]; exact a0
              · rw [List.mem_singleton] at e; rw [e]; exact b0), ?_⟩
            rw [hstep]
            have e2 : f2 ((es.take i).foldl f2 (es.foldl f1 h0)) (z, .lnk u) = ⟨pt ((es.take i).foldl f2 (es.foldl f1 h0)).ats z th, ((es.take i).foldl f2 (es.foldl f1 h0)).fls⟩ := by
              exact f2_lnk hth
            rw [e2]
            exact M'
        · rintro σ H4 ⟨F1, v3, v4, v5, rfl, g1, M1⟩
          rw [Plen hes, List.take_length] at M1
          obtain ⟨ro, hro⟩ := M1.ex
          have hlo := (len_ofH es).1
          refine ⟨_, rfl, x, dx, _, rfl, hro, hn_settle _ _ _, F1, x, dx, a, b, ofH es, rfl, g1.fh, M1, w_ofH es, by omega, fun F' H' r rs rows g6 M6 h6 r0' r1 r2 r3 r4 => ?_⟩
          have g7 := g1.then g6 (fun u hu => by rw [List.mem_singleton] at hu; rw [hu]; exact .inr x0)
          exact ⟨_, rfl, k F' H' x ⟨g7, dx, a, b, r, rs, rows, M6, x0, a0, b0, g1.dom _ r0', r1, h6, r2, r3, r4⟩⟩
end
end L2.K88

end
/-! K88M3 -/
section
set_option Elab.async false
set_option linter.all false
set_option maxRecDepth 100000
set_option maxHeartbeats 4000000
/-! unpacking twice, hidden members: plain -/
namespace L2.K88
open PySem PySem.Spec PyProof.Rows
/-! ### kinds only grow -/
def Nd (x : Str) : Prop := x = "file" ∨ x = "symlink"
def Val (k : Str → Str) : Prop := ∀ q, k q = "absent" ∨ k q = "directory" ∨ Nd (k q)
def Le (k k' : Str → Str) : Prop := ∀ q, (k q = "directory" → k' q = "directory") ∧ (Nd (k q) → Nd (k' q))
def EndOk (k : Str → Str) (b : Mb) : Prop := b.kd ≠ "link" ∧ (∀ q ∈ aboves b.nm, k q = "directory") ∧ (b.kd = "directory" → k b.nm = "directory") ∧ (b.kd ≠ "directory" → Nd (k b.nm))
theorem nd_ne {x : Str} (h : Nd x) : x ≠ "directory" ∧ x ≠ "absent" := by
  rcases h with h | h <;> rw [h] <;> exact ⟨by decide +kernel, by decide +kernel⟩
theorem da_ne : ("directory" : Str) ≠ "absent" := by decide +kernel
theorem val_at (a : At) : Val (kdAt a) := fun q => by
  unfold kdAt
  cases lk a q with
  | none => exact .inl rfl
  | some th =>
    cases th with
    | fil i => exact .inr (.inr (.inl rfl))
    | dir m t => exact .inr (.inl rfl)
    | sym g m t => exact .inr (.inr (.inr rfl))
theorem fitK_dir {x : Str} {b : Mb} (h : FitK x b) (hd : b.kd = "directory") : ¬ Nd x := by
  cases b with
  | dir n m t => exact fun z => z.elim h.1 h.2
  | file n m t ns => exact absurd hd (show ¬ (("file" : Str) = "directory") by decide +kernel)
  | sym n m t g => exact absurd hd (show ¬ (("symlink" : Str) = "directory") by decide +kernel)
  | spa n m t z ps => exact absurd hd (show ¬ (("sparse" : Str) = "directory") by decide +kernel)
  | lnk n m t g => exact absurd hd (show ¬ (("link" : Str) = "directory") by decide +kernel)
theorem fitK_nd {x : Str} {b : Mb} (h : FitK x b) (hd : b.kd ≠ "directory") : x ≠ "directory" := by
  cases b with
  | dir n m t => exact absurd rfl hd
  | file n m t ns => exact h
  | sym n m t g => exact h
  | spa n m t z ps => exact h
  | lnk n m t g => exact h
theorem mk_fitK {x : Str} {b : Mb} (h1 : b.kd = "directory" → ¬ Nd x) (h2 : b.kd ≠ "directory" → x ≠ "directory") : FitK x b := by
  cases b with
  | dir n m t => exact ⟨fun z => h1 rfl (.inl z), fun z => h1 rfl (.inr z)⟩
  | file n m t ns => exact h2 (show ¬ (("file" : Str) = "directory") by decide +kernel)
  | sym n m t g => exact h2 (show ¬ (("symlink" : Str) = "directory") by decide +kernel)
  | spa n m t z ps => exact h2 (show ¬ (("sparse" : Str) = "directory") by decide +kernel)
  | lnk n m t g => exact h2 (show ¬ (("link" : Str) = "directory") by decide +kernel)
theorem okd_dir {b : Mb} (hd : b.kd = "directory") : okd b = "directory" := by
  cases b with
  | dir n m t => rfl
  | file n m t ns => exact absurd hd (show ¬ (("file" : Str) = "directory") by decide +kernel)
  | sym n m t g => exact absurd hd (show ¬ (("symlink" : Str) = "directory") by decide +kernel)
  | spa n m t z ps => exact absurd hd (show ¬ (("sparse" : Str) = "directory") by decide +kernel)
  | lnk n m t g => exact absurd hd (show ¬ (("link" : Str) = "directory") by decide +kernel)
theorem okd_nd {b : Mb} (hd : b.kd ≠ "directory") : Nd (okd b) := by
  cases b with
  | dir n m t => exact absurd rfl hd
  | file n m t ns => exact .inl rfl
  | sym n m t g => exact .inr rfl
  | spa n m t z ps => exact .inl rfl
  | lnk n m t g => exact .inl rfl
theorem okd_val (b : Mb) : okd b = "absent" ∨ okd b = "directory" ∨ Nd (okd b) := by
  by_cases h : b.kd = "directory"
  · exact .inr (.inl (okd_dir h))
  · exact .inr (.inr (okd_nd h))
theorem val_put {k : Str → Str} (v : Val k) (b : Mb) : Val (kdPut k b) := fun q => by
  unfold kdPut
  split
  · exact okd_val b
  · split
    · exact .inr (.inl rfl)
    · exact v q
theorem put_le {k : Str → Str} {b : Mb} (v : Val k) (hf : FitsF k b) (hn : b.kd ≠ "link") : Le k (kdPut k b) ∧ EndOk (kdPut k b) b := by
  have hself : kdPut k b b.nm = okd b := by unfold kdPut; rw [if_pos rfl]
  refine ⟨fun q => ⟨fun h => ?_, fun h => ?_⟩, hn, fun q hq => ?_, fun hd => ?_, fun hd => ?_⟩
  · unfold kdPut
    by_cases z : q = b.nm
    · rw [if_pos z]
      rw [z] at h
      by_cases hd : b.kd = "directory"
      · exact okd_dir hd
      · exact absurd h (fitK_nd hf.2 hd)
    · rw [if_neg z, if_neg (fun y => absurd (y.1.symm.trans h) (Ne.symm da_ne))]
      exact h
  · unfold kdPut
    by_cases z : q = b.nm
    · rw [if_pos z]
      rw [z] at h
      by_cases hd : b.kd = "directory"
      · exact absurd h (fitK_dir hf.2 hd)
      · exact okd_nd hd
    · rw [if_neg z, if_neg (fun y => (nd_ne h).2 y.1)]
      exact h
  · unfold kdPut
    rw [if_neg (above_ne hq)]
    rcases hf.1 q hq with c | c
    · rw [if_pos ⟨c, hq⟩]
    · rw [if_neg (fun y => absurd (c.symm.trans y.1) da_ne)]; exact c
  · rw [hself]; exact okd_dir hd
  · rw [hself]; exact okd_nd hd
theorem Le.trans {k k1 k2 : Str → Str} (a : Le k k1) (b : Le k1 k2) : Le k k2 := fun q => ⟨fun h => (b q).1 ((a q).1 h), fun h => (b q).2 ((a q).2 h)⟩
theorem Le.refl (k : Str → Str) : Le k k := fun q => ⟨id, id⟩
theorem EndOk.up {k k' : Str → Str} {b : Mb} (h : EndOk k b) (l : Le k k') : EndOk k' b :=
  ⟨h.1, fun q hq => (l q).1 (h.2.1 q hq), fun hd => (l _).1 (h.2.2.1 hd), fun hd => (l _).2 (h.2.2.2 hd)⟩
theorem lemA : ∀ {bs : List Mb} {k : Str → Str}, Val k → GoodF k bs → Le k (runK k bs) ∧ ∀ b ∈ bs, EndOk (runK k bs) b
  | [], k, _, _ => ⟨Le.refl k, fun b hb => by simp at hb⟩
  | b :: bs, k, v, g => by
    obtain ⟨h1, h2⟩ := put_le v g.2.1 g.1
    obtain ⟨h3, h4⟩ := lemA (val_put v b) g.2.2
    refine ⟨h1.trans h3, fun b' hb => ?_⟩
    rcases List.mem_cons.mp hb with e | e
    · rw [e]; exact h2.up h3
    · exact h4 b' e
theorem lemB : ∀ {bs : List Mb} {k K' : Str → Str}, Val k → Le k K' → (∀ b ∈ bs, EndOk K' b) → GoodF k bs ∧ Le (runK k bs) K'
  | [], k, K', _, l, _ => ⟨True.intro, l⟩
  | b :: bs, k, K', v, l, h => by
    have hb := h b (by simp)
    have hf : FitsF k b := by
      refine ⟨fun q hq => ?_, mk_fitK (fun hd z => ?_) (fun hd z => ?_)⟩
      · rcases v q with c | c | c
        · exact .inl c
        · exact .inr c
        · exact absurd (hb.2.1 q hq) (nd_ne ((l q).2 c)).1
      · exact (nd_ne ((l _).2 z)).1 (hb.2.2.1 hd)
      · exact (nd_ne (hb.2.2.2 hd)).1 ((l _).1 z)
    have l2 : Le (kdPut k b) K' := fun q => by
      unfold kdPut
      by_cases z : q = b.nm
      · rw [if_pos z, z]
        by_cases hd : b.kd = "directory"
        · rw [okd_dir hd]
          exact ⟨fun _ => hb.2.2.1 hd, fun y => absurd rfl (nd_ne y).1⟩
        · exact ⟨fun y => absurd y (nd_ne (okd_nd hd)).1, fun _ => hb.2.2.2 hd⟩
      · rw [if_neg z]
        by_cases c : k q = "absent" ∧ q ∈ aboves b.nm
        · rw [if_pos c]
          exact ⟨fun _ => hb.2.1 q c.2, fun y => absurd rfl (nd_ne y).1⟩
        · rw [if_neg c]; exact l q
    obtain ⟨h3, h4⟩ := lemB (val_put v b) l2 fun b' hb' => h b' (List.mem_cons_of_mem _ hb')
    exact ⟨⟨hb.1, hf, h3⟩, h4⟩
theorem val_run : ∀ {bs : List Mb} {k : Str → Str}, Val k → Val (runK k bs)
  | [], _, v => v
  | b :: bs, k, v => val_run (bs := bs) (val_put v b)
theorem hid_end {gs more : List Mb} {k : Str → Str} (h : HidOf gs more) (he : ∀ b ∈ gs, EndOk k b) : ∀ b ∈ more, EndOk k b := by
  rcases h with rfl | ⟨a, spot, b, o, ha, hb, hk, ho, rfl⟩
  · exact he
  · intro c hc
    have hbm := he b (List.mem_of_getElem? hb)
    have bn : b.kd ≠ "directory" := by
      rcases hk with e | e | e <;> rw [e] <;> decide +kernel
    have hoe : EndOk k o := by
      rcases ho with rfl | rfl
      · exact ⟨show ¬ (("file" : Str) = "link") by decide +kernel, hbm.2.1, fun z => absurd z (show ¬ (("file" : Str) = "directory") by decide +kernel), fun _ => hbm.2.2.2 bn⟩
      · exact ⟨show ¬ (("symlink" : Str) = "link") by decide +kernel, hbm.2.1, fun z => absurd z (show ¬ (("symlink" : Str) = "directory") by decide +kernel), fun _ => hbm.2.2.2 bn⟩
    rcases List.mem_append.mp hc with h1 | h1
    · rcases List.mem_append.mp h1 with h2 | h2
      · exact he c (List.mem_of_mem_take h2)
      · rw [List.mem_singleton] at h2; rw [h2]; exact hoe
    · exact he c (List.mem_of_mem_drop h1)
theorem goodL_of : ∀ {bs : List Mb} {h : Hs}, GoodF (kdAt h.ats) bs → GoodL h bs
  | [], _, _ => True.intro
  | b :: bs, h, g => ⟨g.2.1, goodL_of (by rw [kd_putH g.1]; exact g.2.2)⟩
theorem kd_runH : ∀ {bs : List Mb} {h : Hs}, (∀ b ∈ bs, b.kd ≠ "link") → kdAt (runH h bs).ats = runK (kdAt h.ats) bs
  | [], _, _ => rfl
  | b :: bs, h, g => by
    show kdAt (runH (putH h b) bs).ats = runK (kdPut (kdAt h.ats) b) bs
    rw [kd_runH fun b' hb => g b' (List.mem_cons_of_mem _ hb), kd_putH (g b (by simp))]
theorem goodF_nl : ∀ {bs : List Mb} {k : Str → Str}, GoodF k bs → ∀ b ∈ bs, b.kd ≠ "link"
  | [], _, _, b, hb => by simp at hb
  | c :: bs, k, g, b, hb => by
    rcases List.mem_cons.mp hb with e | e
    · rw [e]; exact g.1
    · exact goodF_nl g.2.2 b e
/-- the three runs and the hidden one are never refused -/
theorem good_all {h : Hs} {gs more : List Mb} (g : GoodF (kdAt h.ats) gs) (hh : HidOf gs more) : GoodL h gs ∧ GoodL (runH h gs) gs ∧ GoodL (runH (runH h gs) gs) gs ∧ GoodL h more ∧ ∀ b ∈ more, b.kd ≠ "link" := by
  have nl := goodF_nl g
  obtain ⟨l1, e1⟩ := lemA (val_at h.ats) g
  have k1 := kd_runH (h := h) nl
  have v1 := val_run (bs := gs) (val_at h.ats)
  obtain ⟨g2, l2⟩ := lemB v1 (Le.refl _) e1
  have k2 := kd_runH (h := runH h gs) nl
  rw [k1] at k2
  obtain ⟨g3, l3⟩ := lemB (val_run (bs := gs) v1) l2 e1
  have em := hid_end hh e1
  obtain ⟨g4, _⟩ := lemB (val_at h.ats) l1 em
  exact ⟨goodL_of g, goodL_of (by rw [k1]; exact g2), goodL_of (by rw [k2]; exact g3), goodL_of g4, fun b hb => (em b hb).1⟩
end L2.K88

end
/-! K88M4 -/
section
set_option Elab.async false
set_option linter.all false
set_option maxRecDepth 100000
set_option maxHeartbeats 4000000
/-! what a house is after a list -/
namespace L2.K88
open PySem PySem.Spec PyProof.Rows
def lastM (ms : List Mb) (q : Str) : Option Mb := ms.foldl (fun a b => if b.nm = q then some b else a) none
theorem lastM_snoc (ms : List Mb) (b : Mb) (q : Str) : lastM (ms ++ [b]) q = if b.nm = q then some b else lastM ms q := by unfold lastM; rw [List.foldl_append]; rfl
def abM (ms : List Mb) (q : Str) : Prop := ∃ b ∈ ms, q ∈ aboves b.nm
def newAt (n : Nat) (h : Hs) (q : Str) : Rw → Prop
  | .fil b m t => ∃ i, lk h.ats q = some (.fil i) ∧ n ≤ i ∧ h.fls[i]? = some (b, m, t)
  | .dir m t => lk h.ats q = some (.dir m t)
  | .sym g m t => lk h.ats q = some (.sym g m t)
  | .lnk _ => False
structure Desc (h : Hs) (ms : List Mb) (h' : Hs) : Prop where
  at_ : ∀ q, match lastM ms q with
    | some b => newAt h.fls.length h' q (rwMb b)
    | none => match lk h.ats q with
      | some th => lk h'.ats q = some th
      | none => (abM ms q → lk h'.ats q = some (.dir 493 0)) ∧ (¬ abM ms q → lk h'.ats q = none)
  pre : ∀ i, i < h.fls.length → h'.fls[i]? = h.fls[i]?
  le : h.fls.length ≤ h'.fls.length
  inj : ∀ q1 q2 i, lk h'.ats q1 = some (.fil i) → lk h'.ats q2 = some (.fil i) → h.fls.length ≤ i → q1 = q2
  w : HsW h'
theorem lk_set_dir (h : Hs) (r q : Str) : lk (setT h r (.dir 493 0)).ats q = if q = r then some (.dir 493 0) else lk h.ats q := lk_pt _ _ _ _
theorem absent_none {a : At} {q : Str} : kdAt a q = "absent" ↔ lk a q = none := by
  unfold kdAt
  cases lk a q with
  | none => exact ⟨fun _ => rfl, fun _ => rfl⟩
  | some th => exact ⟨fun z => absurd z (th_na th), fun z => nomatch z⟩
theorem lk_upAb : ∀ (qs : List Str) (h : Hs) (q : Str), lk (upAb h qs).ats q = match lk h.ats q with
    | some th => some th
    | none => if q ∈ qs then some (.dir 493 0) else none
  | [], h, q => by
    show lk h.ats q = _
    cases lk h.ats q <;> simp
  | r :: qs, h, q => by
    show lk (upAb (if kdAt h.ats r = "absent" then setT h r (.dir 493 0) else h) qs).ats q = _
    by_cases e : kdAt h.ats r = "absent"
    · rw [if_pos e, lk_upAb qs _ q, lk_set_dir]
      by_cases z : q = r
      · rw [if_pos z, z, absent_none.mp e]; simp
      · rw [if_neg z]
        cases lk h.ats q <;> simp [z]
    · rw [if_neg e, lk_upAb qs h q]
      have hr : lk h.ats r ≠ none := fun z => e (absent_none.mpr z)
      cases c : lk h.ats q with
      | some th => rfl
      | none =>
        have : q ≠ r := fun z => hr (by rw [← z]; exact c)
        simp [this]
theorem abM_snoc (ms : List Mb) (b : Mb) (q : Str) : abM (ms ++ [b]) q ↔ abM ms q ∨ q ∈ aboves b.nm := by
  unfold abM
  constructor
  · rintro ⟨c, hc, hq⟩
    rcases List.mem_append.mp hc with h | h
    · exact .inl ⟨c, h, hq⟩
    · rw [List.mem_singleton] at h; rw [h] at hq; exact .inr hq
  · rintro (⟨c, hc, hq⟩ | hq)
    · exact ⟨c, List.mem_append_left _ hc, hq⟩
    · exact ⟨b, by simp, hq⟩
theorem desc0 {h : Hs} (w : HsW h) : Desc h [] h := by
  refine ⟨fun q => ?_, fun i _ => rfl, Nat.le_refl _, fun q1 q2 i h1 _ hi => absurd (w _ _ h1) (by omega), w⟩
  show match lk h.ats q with
    | some th => lk h.ats q = some th
    | none => (abM [] q → lk h.ats q = some (.dir 493 0)) ∧ (¬ abM [] q → lk h.ats q = none)
  cases e : lk h.ats q with
  | some th => rfl
  | none => exact ⟨fun ⟨b, hb, _⟩ => by simp at hb, fun _ => rfl⟩
theorem desc_put {h h1 : Hs} {ms : List Mb} {b : Mb} (D : Desc h ms h1) (hn : b.kd ≠ "link") : Desc h (ms ++ [b]) (putH h1 b) := by
  have hup := upAb_len (aboves b.nm) h1
  have hfl : (upAb h1 (aboves b.nm)).fls = h1.fls := hup.2
  have hw : HsW (putH h1 b) := putH_w D.w b
  -- the new look
  have hlk : ∀ q, q ≠ b.nm → lk (putH h1 b).ats q = match lk h1.ats q with
      | some th => some th
      | none => if q ∈ aboves b.nm then some (.dir 493 0) else none := fun q hq => by
    rw [← lk_upAb]
    unfold putH
    cases b with
    | lnk n m t g => exact absurd rfl hn
    | file n m t ns => exact (lk_pt _ _ _ _).trans (if_neg hq)
    | dir n m t => exact (lk_pt _ _ _ _).trans (if_neg hq)
    | sym n m t g => exact (lk_pt _ _ _ _).trans (if_neg hq)
    | spa n m t z ps => exact (lk_pt _ _ _ _).trans (if_neg hq)
  have hfiles : (putH h1 b).fls = h1.fls ∧ (∀ i, lk (putH h1 b).ats b.nm ≠ some (.fil i)) ∨ ∃ f, (putH h1 b).fls = h1.fls ++ [f] ∧ lk (putH h1 b).ats b.nm = some (.fil h1.fls.length) := by
    unfold putH
    cases b with
    | lnk n m t g => exact absurd rfl hn
    | file n m t ns => exact .inr ⟨_, congrArg (· ++ _) hfl, (lk_pt _ _ _ _).trans ((if_pos rfl).trans (by rw [hfl]))⟩
    | dir n m t => exact .inl ⟨hfl, fun i e => by have := ((lk_pt _ _ _ _).trans (if_pos rfl)).symm.trans e; cases this⟩
    | sym n m t g => exact .inl ⟨hfl, fun i e => by have := ((lk_pt _ _ _ _).trans (if_pos rfl)).symm.trans e; cases this⟩
    | spa n m t z ps => exact .inr ⟨_, congrArg (· ++ _) hfl, (lk_pt _ _ _ _).trans ((if_pos rfl).trans (by rw [hfl]))⟩
  have hpre : ∀ i, i < h1.fls.length → (putH h1 b).fls[i]? = h1.fls[i]? := fun i hi => by
    rcases hfiles with ⟨e, _⟩ | ⟨f, e, _⟩
    · rw [e]
    · rw [e, List.getElem?_append_left hi]
  have hle : h1.fls.length ≤ (putH h1 b).fls.length := by
    rcases hfiles with ⟨e, _⟩ | ⟨f, e, _⟩ <;> rw [e] <;> simp
  have hself : newAt h.fls.length (putH h1 b) b.nm (rwMb b) := by
    unfold putH
    cases b with
    | lnk n m t g => exact absurd rfl hn
    | file n m t ns => exact ⟨h1.fls.length, (lk_pt _ _ _ _).trans ((if_pos rfl).trans (by rw [hfl])), D.le, by show (_ ++ [_])[_]? = _; rw [hfl]; simp⟩
    | dir n m t => exact (lk_pt _ _ _ _).trans (if_pos rfl)
    | sym n m t g => exact (lk_pt _ _ _ _).trans (if_pos rfl)
    | spa n m t z ps => exact ⟨h1.fls.length, (lk_pt _ _ _ _).trans ((if_pos rfl).trans (by rw [hfl])), D.le, by show (_ ++ [_])[_]? = _; rw [hfl]; simp⟩
  refine ⟨fun q => ?_, fun i hi => (hpre i (Nat.lt_of_lt_of_le hi D.le)).trans (D.pre i hi), Nat.le_trans D.le hle, fun q1 q2 i h1' h2' hi => ?_, hw⟩
  · rw [lastM_snoc]
    by_cases z : b.nm = q
    · rw [if_pos z, ← z]; exact hself
    · rw [if_neg z]
      have z' : q ≠ b.nm := fun y => z y.symm
      have hd := D.at_ q
      cases c : lastM ms q with
      | some b' =>
        rw [c] at hd
        show newAt h.fls.length (putH h1 b) q (rwMb b')
        have hd : newAt h.fls.length h1 q (rwMb b') := hd
        cases r : rwMb b' with
        | fil bs m t =>
          rw [r] at hd
          obtain ⟨i, e1, e2, e3⟩ := hd
          exact ⟨i, by rw [hlk q z', e1], e2, by rw [hpre i (D.w _ _ e1)]; exact e3⟩
        | dir m t => rw [r] at hd; have hd : lk h1.ats q = _ := hd; show lk _ q = _; rw [hlk q z', hd]
        | sym g m t => rw [r] at hd; have hd : lk h1.ats q = _ := hd; show lk _ q = _; rw [hlk q z', hd]
        | lnk g => rw [r] at hd; exact hd
      | none =>
        rw [c] at hd
        simp only at hd ⊢
        cases d : lk h.ats q with
        | some th =>
          rw [d] at hd
          simp only at hd ⊢
          rw [hlk q z', hd]
        | none =>
          rw [d] at hd
          simp only at hd ⊢
          refine ⟨fun ha => ?_, fun ha => ?_⟩
          · rw [hlk q z']
            by_cases a1 : abM ms q
            · rw [hd.1 a1]
            · rw [hd.2 a1]
              have : q ∈ aboves b.nm := ((abM_snoc ms b q).mp ha).resolve_left a1
              simp [this]
          · have n1 : ¬ abM ms q := fun y => ha ((abM_snoc ms b q).mpr (.inl y))
            have n2 : q ∉ aboves b.nm := fun y => ha ((abM_snoc ms b q).mpr (.inr y))
            rw [hlk q z', hd.2 n1]
            simp [n2]
  · -- who holds a new file's number
    have old : ∀ q j, q ≠ b.nm → lk (putH h1 b).ats q = some (.fil j) → lk h1.ats q = some (.fil j) := fun q j hq e => by
      rw [hlk q hq] at e
      cases c : lk h1.ats q with
      | some th => rw [c] at e; exact e
      | none =>
        rw [c] at e
        by_cases hm : q ∈ aboves b.nm <;> simp [hm] at e
    by_cases z1 : q1 = b.nm
    · by_cases z2 : q2 = b.nm
      · rw [z1, z2]
      · have e2 := old q2 i z2 h2'
        rw [z1] at h1'
        rcases hfiles with ⟨_, n⟩ | ⟨f, _, n⟩
        · exact absurd h1' (n i)
        · rw [n] at h1'
          cases h1'
          exact absurd (D.w _ _ e2) (Nat.lt_irrefl _)
    · by_cases z2 : q2 = b.nm
      · have e1 := old q1 i z1 h1'
        rw [z2] at h2'
        rcases hfiles with ⟨_, n⟩ | ⟨f, _, n⟩
        · exact absurd h2' (n i)
        · rw [n] at h2'
          cases h2'
          exact absurd (D.w _ _ e1) (Nat.lt_irrefl _)
      · exact D.inj q1 q2 i (old q1 i z1 h1') (old q2 i z2 h2') hi
theorem desc_run {h : Hs} (w : HsW h) : ∀ (ms : List Mb), (∀ b ∈ ms, b.kd ≠ "link") → Desc h ms (runH h ms) := by
  have gen : ∀ (ms done : List Mb) (h1 : Hs), Desc h done h1 → (∀ b ∈ ms, b.kd ≠ "link") → Desc h (done ++ ms) (runH h1 ms) := by
    intro ms
    induction ms with
    | nil => intro done h1 D _; rw [List.append_nil]; exact D
    | cons b r ih =>
      intro done h1 D hn
      have := ih (done ++ [b]) (putH h1 b) (desc_put D (hn b (by simp))) fun c hc => hn c (List.mem_cons_of_mem _ hc)
      rw [List.append_assoc] at this
      exact this
  intro ms hn
  exact gen ms [] h (desc0 w) hn
/-! ### equal up to the files' numbers -/
def SameTh (h1 h2 : Hs) : Option Th → Option Th → Prop
  | none, none => True
  | some (.dir m t), some (.dir m' t') => m = m' ∧ t = t'
  | some (.sym g m t), some (.sym g' m' t') => g = g' ∧ m = m' ∧ t = t'
  | some (.fil i), some (.fil j) => fbOf h1.fls i = fbOf h2.fls j
  | _, _ => False
structure Eqv (h1 h2 : Hs) : Prop where
  at_ : ∀ q, SameTh h1 h2 (lk h1.ats q) (lk h2.ats q)
  sh : ∀ q r i1 j1 i2 j2, lk h1.ats q = some (.fil i1) → lk h1.ats r = some (.fil j1) → lk h2.ats q = some (.fil i2) → lk h2.ats r = some (.fil j2) → (i1 = j1 ↔ i2 = j2)
theorem sameTh_refl (h : Hs) (x : Option Th) : SameTh h h x x := by
  cases x with
  | none => trivial
  | some th =>
    cases th with
    | fil i => rfl
    | dir m t => exact ⟨rfl, rfl⟩
    | sym g m t => exact ⟨rfl, rfl, rfl⟩
theorem new_same {n1 n2 : Nat} {h1 h2 : Hs} {q : Str} {r : Rw} (a : newAt n1 h1 q r) (b : newAt n2 h2 q r) : SameTh h1 h2 (lk h1.ats q) (lk h2.ats q) := by
  cases r with
  | fil bs m t =>
    obtain ⟨i, e1, _, e2⟩ := a
    obtain ⟨j, f1, _, f2⟩ := b
    rw [e1, f1]
    show fbOf h1.fls i = fbOf h2.fls j
    unfold fbOf
    rw [e2, f2]
  | dir m t =>
    have a : lk h1.ats q = _ := a
    have b : lk h2.ats q = _ := b
    rw [a, b]; exact ⟨rfl, rfl⟩
  | sym g m t =>
    have a : lk h1.ats q = _ := a
    have b : lk h2.ats q = _ := b
    rw [a, b]; exact ⟨rfl, rfl, rfl⟩
  | lnk g => exact a.elim
theorem new_fil {n : Nat} {h : Hs} {q : Str} {r : Rw} {i : Nat} (a : newAt n h q r) (e : lk h.ats q = some (.fil i)) : n ≤ i := by
  cases r with
  | fil bs m t => obtain ⟨j, e1, h1, _⟩ := a; rw [e] at e1; cases e1; exact h1
  | dir m t => have a : lk h.ats q = _ := a; rw [e] at a; cases a
  | sym g m t => have a : lk h.ats q = _ := a; rw [e] at a; cases a
  | lnk g => exact a.elim
/-- a file under a name that no member tells is an old one -/
theorem old_fil {h h' : Hs} {ms : List Mb} (D : Desc h ms h') {q : Str} {i : Nat} (hn : lastM ms q = none) (e : lk h'.ats q = some (.fil i)) : lk h.ats q = some (.fil i) := by
  have hd := D.at_ q
  rw [hn] at hd
  simp only at hd
  cases c : lk h.ats q with
  | some th => rw [c] at hd; simp only at hd; rw [hd] at e; exact e
  | none =>
    rw [c] at hd
    simp only at hd
    by_cases a : abM ms q
    · rw [hd.1 a] at e; cases e
    · rw [hd.2 a] at e; cases e
theorem share_of {h1 h1' h2 h2' : Hs} {ms ms2 : List Mb} (w1 : HsW h1) (w2 : HsW h2) (D1 : Desc h1 ms h1') (D2 : Desc h2 ms2 h2') (hl : ∀ q, lastM ms q = lastM ms2 q)
    (ho : ∀ q r i1 j1 i2 j2, lastM ms q = none → lastM ms r = none → lk h1.ats q = some (.fil i1) → lk h1.ats r = some (.fil j1) → lk h2.ats q = some (.fil i2) → lk h2.ats r = some (.fil j2) → (i1 = j1 ↔ i2 = j2)) :
    ∀ q r i1 j1 i2 j2, lk h1'.ats q = some (.fil i1) → lk h1'.ats r = some (.fil j1) → lk h2'.ats q = some (.fil i2) → lk h2'.ats r = some (.fil j2) → (i1 = j1 ↔ i2 = j2) := by
  intro q r i1 j1 i2 j2 e1 e2 e3 e4
  have d1 := D1.at_ q
  have d2 := D1.at_ r
  have d3 := D2.at_ q
  have d4 := D2.at_ r
  rw [← hl] at d3 d4
  cases c : lastM ms q with
  | some b =>
    rw [c] at d1 d3
    have n1 := new_fil d1 e1
    have n3 := new_fil d3 e3
    have key : q = r ∨ q ≠ r := Classical.em _
    rcases key with z | z
    · subst z
      rw [e1] at e2; cases e2
      rw [e3] at e4; cases e4
      exact ⟨fun _ => rfl, fun _ => rfl⟩
    · exact ⟨fun y => absurd (D1.inj q r i1 e1 (by rw [y]; exact e2) n1) z, fun y => absurd (D2.inj q r i2 e3 (by rw [y]; exact e4) n3) z⟩
  | none =>
    cases d : lastM ms r with
    | some b =>
      rw [d] at d2 d4
      have n2 := new_fil d2 e2
      have n4 := new_fil d4 e4
      rcases Classical.em (q = r) with z | z
      · subst z
        rw [e1] at e2; cases e2
        rw [e3] at e4; cases e4
        exact ⟨fun _ => rfl, fun _ => rfl⟩
      · exact ⟨fun y => absurd (D1.inj q r j1 (by rw [← y]; exact e1) e2 n2) z, fun y => absurd (D2.inj q r j2 (by rw [← y]; exact e3) e4 n4) z⟩
    | none =>
      exact ho q r i1 j1 i2 j2 c d (old_fil D1 c e1) (old_fil D1 d e2) (old_fil D2 (by rw [← hl]; exact c) e3) (old_fil D2 (by rw [← hl]; exact d) e4)
/-- the same list again -/
theorem eqv_twice {h : Hs} (w : HsW h) {gs : List Mb} (hn : ∀ b ∈ gs, b.kd ≠ "link") : Eqv (runH (runH h gs) gs) (runH h gs) := by
  have D1 := desc_run w gs hn
  have D2 := desc_run D1.w gs hn
  refine ⟨fun q => ?_, share_of D1.w w D2 D1 (fun _ => rfl) fun q r i1 j1 i2 j2 n1 n2 e1 e2 e3 e4 => ?_⟩
  · have d1 := D1.at_ q
    have d2 := D2.at_ q
    cases c : lastM gs q with
    | some b => rw [c] at d1 d2; exact new_same d2 d1
    | none =>
      rw [c] at d1 d2
      simp only at d1 d2
      cases e : lk (runH h gs).ats q with
      | some th =>
        rw [e] at d2
        simp only at d2
        rw [d2]
        cases th with
        | fil i =>
          show fbOf _ i = fbOf _ i
          unfold fbOf
          rw [D2.pre i (D1.w _ _ e)]
        | dir m t => exact ⟨rfl, rfl⟩
        | sym g m t => exact ⟨rfl, rfl, rfl⟩
      | none =>
        rw [e] at d2
        simp only at d2
        have na : ¬ abM gs q := fun y => by
          cases f : lk h.ats q with
          | some th => rw [f] at d1; simp only at d1; rw [d1] at e; cases e
          | none => rw [f] at d1; simp only at d1; rw [d1.1 y] at e; cases e
        rw [d2.2 na]
        trivial
  · have f1 := old_fil D1 n1 e1
    have f2 := old_fil D1 n2 e2
    rw [e3] at f1; cases f1
    rw [e4] at f2; cases f2
    exact Iff.rfl
/-- two lists that tell the same -/
theorem eqv_lists {h : Hs} (w : HsW h) {gs ms : List Mb} (hn : ∀ b ∈ gs, b.kd ≠ "link") (hm : ∀ b ∈ ms, b.kd ≠ "link") (hl : ∀ q, lastM ms q = lastM gs q) (ha : ∀ q, abM ms q ↔ abM gs q) : Eqv (runH h ms) (runH h gs) := by
  have D1 := desc_run w gs hn
  have D2 := desc_run w ms hm
  refine ⟨fun q => ?_, share_of w w D2 D1 hl fun q r i1 j1 i2 j2 n1 n2 e1 e2 e3 e4 => ?_⟩
  · have d1 := D1.at_ q
    have d2 := D2.at_ q
    rw [hl] at d2
    cases c : lastM gs q with
    | some b => rw [c] at d1 d2; exact new_same d2 d1
    | none =>
      rw [c] at d1 d2
      simp only at d1 d2
      cases e : lk h.ats q with
      | some th =>
        rw [e] at d1 d2
        simp only at d1 d2
        rw [d1, d2]
        cases th with
        | fil i =>
          show fbOf _ i = fbOf _ i
          unfold fbOf
          rw [D1.pre i (w _ _ e), D2.pre i (w _ _ e)]
        | dir m t => exact ⟨rfl, rfl⟩
        | sym g m t => exact ⟨rfl, rfl, rfl⟩
      | none =>
        rw [e] at d1 d2
        simp only at d1 d2
        rcases Classical.em (abM gs q) with a | a
        · rw [d1.1 a, d2.1 ((ha q).mpr a)]; exact ⟨rfl, rfl⟩
        · rw [d1.2 a, d2.2 fun y => a ((ha q).mp y)]; trivial
  · rw [e1] at e3; cases e3
    rw [e2] at e4; cases e4
    exact Iff.rfl
theorem lastM_app (xs ys : List Mb) (q : Str) : lastM (xs ++ ys) q = (lastM ys q).or (lastM xs q) := by
  have gen : ∀ (ys : List Mb) (a : Option Mb), ys.foldl (fun a b => if b.nm = q then some b else a) a = (lastM ys q).or a := by
    intro ys
    induction ys with
    | nil => intro a; simp [lastM]
    | cons b r ih =>
      intro a
      show r.foldl _ (if b.nm = q then some b else a) = (r.foldl _ (if b.nm = q then some b else none)).or a
      rw [ih, ih]
      by_cases z : b.nm = q
      · simp [z]
      · simp [z]
  unfold lastM
  rw [List.foldl_append]
  exact gen ys _
theorem lastM_some {ms : List Mb} {b : Mb} {q : Str} (h : b ∈ ms) (hq : b.nm = q) : ∃ c, lastM ms q = some c := by
  induction ms with
  | nil => simp at h
  | cons a r ih =>
    have e := lastM_app [a] r q
    rw [List.singleton_append] at e
    rw [e]
    rcases List.mem_cons.mp h with z | z
    · cases c : lastM r q with
      | some x => exact ⟨x, rfl⟩
      | none => exact ⟨a, by simp [lastM, ← z, hq]⟩
    · obtain ⟨c, hc⟩ := ih z
      rw [hc]; exact ⟨c, rfl⟩
theorem hid_tells {gs more : List Mb} (h : HidOf gs more) : (∀ q, lastM more q = lastM gs q) ∧ ∀ q, abM more q ↔ abM gs q := by
  rcases h with rfl | ⟨a, spot, b, o, ha, hb, _, ho, rfl⟩
  · exact ⟨fun _ => rfl, fun _ => Iff.rfl⟩
  · have hnm : o.nm = b.nm := by rcases ho with rfl | rfl <;> rfl
    have hbd : b ∈ gs.drop a := by
      rw [List.mem_iff_getElem?]
      exact ⟨spot - a, by rw [List.getElem?_drop, show a + (spot - a) = spot by omega]; exact hb⟩
    have hbm : b ∈ gs := List.mem_of_getElem? hb
    refine ⟨fun q => ?_, fun q => ?_⟩
    · have e1 : gs = gs.take a ++ gs.drop a := (List.take_append_drop a gs).symm
      have e2 : lastM gs q = (lastM (gs.drop a) q).or (lastM (gs.take a) q) := by
        conv => lhs; rw [e1]
        exact lastM_app _ _ _
      rw [e2, lastM_app, lastM_app]
      by_cases z : o.nm = q
      · obtain ⟨c, hc⟩ := lastM_some hbd (hnm.symm.trans z)
        rw [hc]; rfl
      · have : lastM [o] q = none := by simp [lastM, z]
        rw [this]; rfl
    · constructor
      · rintro ⟨c, hc, hq⟩
        rcases List.mem_append.mp hc with h1 | h1
        · rcases List.mem_append.mp h1 with h2 | h2
          · exact ⟨c, List.mem_of_mem_take h2, hq⟩
          · rw [List.mem_singleton] at h2
            rw [h2, hnm] at hq
            exact ⟨b, hbm, hq⟩
        · exact ⟨c, List.mem_of_mem_drop h1, hq⟩
      · rintro ⟨c, hc, hq⟩
        rw [← List.take_append_drop a gs] at hc
        rcases List.mem_append.mp hc with h1 | h1
        · exact ⟨c, by simp [h1], hq⟩
        · exact ⟨c, by simp [h1], hq⟩
end L2.K88

end
/-! K88M5 -/
section
set_option Elab.async false
set_option linter.all false
set_option maxRecDepth 100000
set_option maxHeartbeats 4000000
/-! rows of equal houses -/
namespace L2.K88
open PySem PySem.Spec PyProof.Rows
theorem strLe_anti {a b : Str} (h1 : StrLe a b) (h2 : StrLe b a) : a = b := by
  have h : a.cps.toList = b.cps.toList := by
    have e1 : a.cps.toList ≤ b.cps.toList := h1
    have e2 : b.cps.toList ≤ a.cps.toList := h2
    exact List.le_antisymm e1 e2
  exact cz_inj h
theorem sort_uniq : ∀ {l1 l2 : List Str}, l1.Perm l2 → l1.Pairwise StrLe → l2.Pairwise StrLe → l1 = l2
  | [], l2, h, _, _ => (List.nil_perm.mp h).symm ▸ rfl
  | a :: r1, [], h, _, _ => absurd h.length_eq (by simp)
  | a :: r1, b :: r2, h, p1, p2 => by
    obtain ⟨q1, q1'⟩ := List.pairwise_cons.mp p1
    obtain ⟨q2, q2'⟩ := List.pairwise_cons.mp p2
    have e : a = b := by
      have ha : a ∈ b :: r2 := h.mem_iff.mp (by simp)
      have hb : b ∈ a :: r1 := h.mem_iff.mpr (by simp)
      rcases List.mem_cons.mp ha with z | z
      · exact z
      · rcases List.mem_cons.mp hb with y | y
        · exact y.symm
        · exact strLe_anti (q1 b y) (q2 a z)
    subst e
    rw [sort_uniq ((List.perm_cons a).mp h) q1' q2']
theorem eqv_keys {h1 h2 : Hs} (E : Eqv h1 h2) (q : Str) : q ∈ ky h1.ats ↔ q ∈ ky h2.ats := by
  have h := E.at_ q
  rw [← lk_mem, ← lk_mem]
  cases e1 : lk h1.ats q with
  | none =>
    cases e2 : lk h2.ats q with
    | none => exact Iff.rfl
    | some t => rw [e1, e2] at h; exact h.elim
  | some s =>
    cases e2 : lk h2.ats q with
    | none => rw [e1, e2] at h; cases s <;> exact h.elim
    | some t => exact ⟨fun _ => rfl, fun _ => rfl⟩
/-- the numbers met so far stand for the same names -/
def Both (h1 h2 : Hs) (f1 f2 : List (Nat × Str)) : Prop := ∀ q i j, lk h1.ats q = some (.fil i) → lk h2.ats q = some (.fil j) → nk f1 i = nk f2 j
theorem rws_eqv {h1 h2 : Hs} (E : Eqv h1 h2) : ∀ (ks : List Str) (f1 f2 : List (Nat × Str)), Both h1 h2 f1 f2 → rws h1.ats (fbOf h1.fls) ks f1 = rws h2.ats (fbOf h2.fls) ks f2
  | [], _, _, _ => rfl
  | z :: ks, f1, f2, b => by
    have h := E.at_ z
    rw [rws, rws]
    cases e1 : lk h1.ats z with
    | none =>
      cases e2 : lk h2.ats z with
      | none => exact rws_eqv E ks f1 f2 b
      | some t => rw [e1, e2] at h; exact h.elim
    | some s =>
      cases e2 : lk h2.ats z with
      | none => rw [e1, e2] at h; cases s <;> exact h.elim
      | some t =>
        rw [e1, e2] at h
        cases s with
        | dir m ti =>
          cases t with
          | dir m' t' => obtain ⟨rfl, rfl⟩ : m = m' ∧ ti = t' := h; exact congrArg _ (rws_eqv E ks f1 f2 b)
          | fil j => exact h.elim
          | sym g m' t' => exact h.elim
        | sym g m ti =>
          cases t with
          | sym g' m' t' => obtain ⟨rfl, rfl, rfl⟩ : g = g' ∧ m = m' ∧ ti = t' := h; exact congrArg _ (rws_eqv E ks f1 f2 b)
          | fil j => exact h.elim
          | dir m' t' => exact h.elim
        | fil i =>
          cases t with
          | dir m' t' => exact h.elim
          | sym g m' t' => exact h.elim
          | fil j =>
            have hf : fbOf h1.fls i = fbOf h2.fls j := h
            have hb := b z i j e1 e2
            simp only
            rw [← hb]
            cases n : nk f1 i with
            | some u => exact congrArg _ (rws_eqv E ks f1 f2 b)
            | none =>
              simp only
              rw [hf]
              refine congrArg _ (rws_eqv E ks _ _ fun q i' j' g1 g2 => ?_)
              have hs := E.sh z q i i' j j' e1 g1 e2 g2
              have hq := b q i' j' g1 g2
              unfold nk at hq ⊢
              rw [List.find?_append, List.find?_append]
              cases c1 : f1.find? (fun p => decide (p.1 = i')) with
              | some p =>
                cases c2 : f2.find? (fun p => decide (p.1 = j')) with
                | some p' => rw [c1, c2] at hq; exact hq
                | none => rw [c1, c2] at hq; cases hq
              | none =>
                cases c2 : f2.find? (fun p => decide (p.1 = j')) with
                | some p' => rw [c1, c2] at hq; cases hq
                | none =>
                  by_cases y : i = i'
                  · have y2 := hs.mp y
                    simp [y, y2]
                  · have y2 : ¬ j = j' := fun w => y (hs.mpr w)
                    simp [y, y2]
theorem rows_eq {h1 h2 : Hs} {r1 r2 : List En} (E : Eqv h1 h2) (n1 : (ky h1.ats).Nodup) (n2 : (ky h2.ats).Nodup) (R1 : Rows h1 r1) (R2 : Rows h2 r2) : r1 = r2 := by
  obtain ⟨k1, p1, s1, rfl⟩ := R1
  obtain ⟨k2, p2, s2, rfl⟩ := R2
  have hp : k1.Perm k2 := by
    refine p1.trans (List.Perm.trans ?_ p2.symm)
    exact (List.perm_ext_iff_of_nodup n1 n2).mpr fun q => eqv_keys E q
  rw [sort_uniq hp s1 s2]
  exact rws_eqv E k2 [] [] fun q i j _ _ => rfl
end L2.K88

end
/-! K88L14 -/
section
set_option Elab.async false
set_option linter.all false
set_option maxRecDepth 100000
set_option maxHeartbeats 4000000
namespace L2.K88
open PySem PySem.Spec PyProof.Rows
abbrev sTold : Stmt := top 71
abbrev sLaw : Stmt := top 75
/-! ### views without tables -/
def noT (F : Hp) : Hp := fun b => match F b with
  | some (.tbl _) => none
  | x => x
theorem nt {F : Hp} {b : Addr} {o : HO} (e : F b = some o) (h : ∀ ps, o ≠ .tbl ps := by intro ps z; cases z) : noT F b = some o := by
  unfold noT
  rw [e]
  cases o <;> first | rfl | exact absurd rfl (h _)
theorem noT_same {F H H1 : Hp} (fh : Same F H) (e : LamX.ExtN H H1) : Same (noT F) H1 := fun b o h => by
  unfold noT at h
  cases c : F b with
  | none => rw [c] at h; cases h
  | some u =>
    rw [c] at h
    have hu : u = o ∧ ∀ ps, u ≠ .tbl ps := by
      cases u <;> first | exact ⟨Option.some.inj h, fun ps z => nomatch z⟩ | cases h
    rw [← hu.1]
    exact e _ _ (fh _ _ c) hu.2
theorem noT_none {F : Hp} {b : Addr} (h : F b = none) : noT F b = none := by unfold noT; rw [h]
section
variable {K : PySem.W.Frag} {F : Hp}
theorem sqtN {a : Addr} {xs : List V} (h : SqT K F a xs) : SqT K (noT F) a xs := h.elim (fun h => .inl (h.elim (fun h => .inl (nt h)) fun ⟨o, h⟩ => .inr ⟨o, nt h⟩)) fun h => .inr h
theorem rnsN {v : V} {ns : List Int} : RNs F v ns → RNs (noT F) v ns := fun ⟨p, h1, h2⟩ => ⟨p, h1, nt h2⟩
theorem ratN {kvs : List (Key × V)} {a : At} (h : RAt K F kvs a) : RAt K (noT F) kvs a := Paired.mapP h fun _ _ ⟨h1, p, h2, h3⟩ => ⟨h1, p, h2, sqtN h3⟩
theorem rtrN {v : V} {t : Tr} : RTr K F v t → RTr K (noT F) v t := fun ⟨p, da, df, h1, ⟨h2, ⟨kvs, h3, h4⟩, vs, h5, h6⟩⟩ =>
  ⟨p, da, df, h1, ⟨nt h2, ⟨kvs, nt h3, ratN h4⟩, vs, nt h5, Paired.mapP h6 fun _ _ ⟨q, u, a1, a2, a3⟩ => ⟨q, u, a1, nt a2, rnsN a3⟩⟩⟩
theorem rspN {v : V} {b : Mb} : RSp F v b → RSp (noT F) v b := fun ⟨p, vs, h1, h2, h3⟩ => by
  refine ⟨p, vs, h1, nt h2, ?_⟩
  cases b with
  | file n m t ns => obtain ⟨u, a1, a2⟩ := h3; exact ⟨u, a1, rnsN a2⟩
  | dir n m t => exact h3
  | sym n m t g => exact h3
  | spa n m t z ps => obtain ⟨q, u, a1, a2, pl, us, a3, a4, a5⟩ := h3; exact ⟨q, u, a1, nt a2, pl, us, a3, nt a4, Paired.mapP a5 fun _ _ ⟨p, u, b1, b2, b3⟩ => ⟨p, u, b1, nt b2, rnsN b3⟩⟩
  | lnk n m t g => exact h3
theorem rlN {v : V} {bs : List Mb} : RL RSp F v bs → RL RSp (noT F) v bs := fun ⟨p, vs, h1, h2, h3⟩ => ⟨p, vs, h1, nt h2, Paired.mapP h3 fun _ _ h => rspN h⟩
theorem srcN {C : Addr} {H H1 : Hp} {p : Addr} {h : Hs} (e : LamX.ExtN H H1) : SrcHs K C F H p h → SrcHs K C (noT F) H1 p h := fun ⟨dx, ds, df, r, kvs, vs, h1, h2, h3, h4, h5, h6⟩ =>
  ⟨dx, ds, df, r, kvs, vs, e _ _ h1 (fun _ z => nomatch z), e _ _ h2 (fun _ z => nomatch z), ratN h3, e _ _ h4 (fun _ z => nomatch z), Paired.mapP h5 fun _ _ ⟨p, a1, a2⟩ => ⟨p, a1, sqtN a2⟩, h6⟩
theorem sqlN {H H1 : Hp} {a : Addr} {xs : List V} (e : LamX.ExtN H H1) (h : SqL K H a xs) : SqL K H1 a xs := h.elim (fun h => .inl (h.elim (fun h => .inl (e _ _ h fun _ z => nomatch z)) fun ⟨o, h⟩ => .inr ⟨o, e _ _ h fun _ z => nomatch z⟩)) fun h => .inr h
theorem rowN {C : Addr} {H H1 : Hp} {v : V} {rows : List En} (e : LamX.ExtN H H1) : RowAt K C H v rows → RowAt K C H1 v rows := fun ⟨p, dx, ds, df, r, rs, h0, h1, h2, h3⟩ =>
  ⟨p, dx, ds, df, r, rs, h0, e _ _ h1 (fun _ z => nomatch z), e _ _ h2 (fun _ z => nomatch z), Paired.mapP h3 fun _ _ ⟨q, u, a1, a2, w, a3, a4⟩ => ⟨q, u, a1, e _ _ a2 (fun _ z => nomatch z), w, a3, a4.elim (fun h => .inl (h.elim (fun h => .inl (e _ _ h fun _ z => nomatch z)) fun ⟨o, h⟩ => .inr ⟨o, e _ _ h fun _ z => nomatch z⟩)) fun h => .inr h⟩⟩
theorem srcX {H H1 : Hp} {src : Addr} {n : Nat} (e : LamX.ExtN H H1) (s : Src H src n) : Src H1 src n := by
  obtain ⟨g, m, t, h1, h2⟩ := s
  exact ⟨g, m, t, e _ _ h1 (fun _ z => nomatch z), h2⟩
end
/-! ### the state of the law -/
theorem sql_gr {K : PySem.W.Frag} {H H' : Hp} {a src : Addr} {xs : List V} (h : SqL K H a xs) (ha : a ≠ src ∨ ∀ H2, SqL K H2 a xs) (ex : ∀ b o, b ∉ [src] → H b = some o → H' b = some o) : SqL K H' a xs := by
  rcases ha with ha | ha
  · have hn : a ∉ [src] := by simpa using ha
    exact h.elim (fun h => .inl (h.elim (fun h => .inl (ex _ _ hn h)) fun ⟨o, h⟩ => .inr ⟨o, ex _ _ hn h⟩)) fun h => .inr h
  · exact ha H'
theorem tabs_gr {T : List (Addr × Str)} {H H' : Hp} {src : Addr} {xs : List V} (h : LamX.Tabs T H) (hs : H src = some (.lst xs)) (ex : ∀ b o, b ∉ [src] → H b = some o → H' b = some o) : LamX.Tabs T H' := fun p hp => by
  obtain ⟨ps, h1, h2, h3⟩ := h p hp
  have n1 : p.1 ∉ [src] := by
    rw [List.mem_singleton]
    exact fun z => by rw [z, hs] at h1; cases h1
  refine ⟨ps, ex _ _ n1 h1, h2, fun pos cv hc => ?_⟩
  obtain ⟨c, e1, e2⟩ := h3 pos cv hc
  refine ⟨c, e1, ex _ _ ?_ e2⟩
  rw [List.mem_singleton]
  exact fun z => by rw [z, hs] at e2; cases e2
theorem src_gr {K : PySem.W.Frag} {C : Addr} {F H F' H' : Hp} {p src : Addr} {h : Hs} {xs : List V} (hs : H src = some (.lst xs)) (g : Gr [src] F H F' H') : SrcHs K C F H p h → SrcHs K C F' H' p h := fun ⟨dx, ds, df, r, kvs, vs, h1, h2, h3, h4, h5, h6⟩ => by
  have n : ∀ {b o}, H b = some o → (∀ ys, o ≠ .lst ys) → b ∉ [src] := fun {b o} e ne => by
    rw [List.mem_singleton]
    exact fun z => by rw [z, hs] at e; cases e; exact ne _ rfl
  exact ⟨dx, ds, df, r, kvs, vs, g.keep (n h1 fun _ z => nomatch z) h1, g.keep (n h2 fun _ z => nomatch z) h2, mon_RAt g.ff h3, g.keep (n h4 fun _ z => nomatch z) h4, mon_RFb.paired g.ff h5, h6⟩
structure LS (K : PySem.W.Frag) (Z : Ad) (T : List (Addr × Str)) (a : Addr) (xs : List V) (src : Addr) (n : Nat) (F H : Hp) (tv : V) (t : Tr) (p : Addr) (h : Hs) : Prop where
  ok : Ok src n F H
  sc : SqL K H a xs
  sa : a ≠ src ∨ ∀ H2, SqL K H2 a xs
  tb : LamX.Tabs T H
  tr : RTr K F tv t
  hs : SrcHs K Z.ho F H p h
theorem LS.gr {K : PySem.W.Frag} {Z : Ad} {T : List (Addr × Str)} {a : Addr} {xs : List V} {src : Addr} {n n' : Nat} {F H F' H' : Hp} {tv : V} {t : Tr} {p : Addr} {h : Hs} (L : LS K Z T a xs src n F H tv t p h) (g : Gr [src] F H F' H') (s : Src H' src n') : LS K Z T a xs src n' F' H' tv t p h := by
  obtain ⟨gg, m, tt, e, _⟩ := L.ok.sr
  exact ⟨L.ok.next g s, sql_gr L.sc L.sa g.ex, L.sa, tabs_gr L.tb e g.ex, mon_RTr _ _ _ _ g.ff L.tr, src_gr e g L.hs⟩
theorem LS.gr0 {K : PySem.W.Frag} {Z : Ad} {T : List (Addr × Str)} {a : Addr} {xs : List V} {src : Addr} {n : Nat} {F H F' H' : Hp} {tv : V} {t : Tr} {p : Addr} {h : Hs} (L : LS K Z T a xs src n F H tv t p h) (g : Gr [] F H F' H') : LS K Z T a xs src n F' H' tv t p h := L.gr g.up (L.ok.grow g).sr
theorem LS.ext {K : PySem.W.Frag} {Z : Ad} {T : List (Addr × Str)} {a : Addr} {xs : List V} {src : Addr} {n : Nat} {F H H1 : Hp} {tv : V} {t : Tr} {p : Addr} {h : Hs} (L : LS K Z T a xs src n F H tv t p h) (e : LamX.ExtN H H1) (tb : LamX.Tabs T H1) : LS K Z T a xs src n (noT F) H1 tv t p h :=
  ⟨⟨noT_same L.ok.fh e, noT_none L.ok.fs, srcX e L.ok.sr⟩, sqlN e L.sc, L.sa, tb, rtrN L.tr, srcN e L.hs⟩
/-- told: try: return ('none', a()) / except: never -/
def TTn : (XK → Hp → VK → Prop) → Hp → VK → Prop := fun tl H Q => tl (fun _ _ _ => False) H fun v H1 => [V.str "none", v].length ≤ sizeLine ∧ ∀ p, H1 p = none → Q (.ref p) (upd H1 p (.tup [.str "none", v]))
theorem told_gives2 {X : Cx} {q : Str} {g CR : Addr} {cdg : Value} (hme : X.mg "Refused" = some (.ref CR)) :
    LamX.GivesTo X ["_law_call", "e"] "_law_told" (defScope sTold) g cdg (defBody sTold) "_law_call" q TTn := by
  intro f c' s H Q tl act hc h
  refine ⟨_, pss_one (ps_try_as (X := (cxOf C8.CX0 X.prog X.w X.K X.mg X.base ["_law_call", "e"] "_law_told" (defScope sTold) g cdg X.A X.stack s H C8.E0).nox) (i := 1) (c := .ref CR) (Wout := fun _ _ _ _ => False)
      (tb := fun _ => tRet (tTup (tCons (tC (.str "none")) (tCons (fun σZ HZ Q => σZ[0]? = some (some (.ref f)) ∧ HZ c' = some (LamX.CodeO c' q) ∧ tl (fun _ _ _ => False) HZ Q) tNil))))
      (ts := fun _ _ _ => tNever) rfl rfl (show (["_law_call", "e"] : List Str).Nodup by decide +kernel) rfl rfl ⟨rfl, by decide, .inl hme⟩ LamX.takes0 (fun W pn xe tk _ => ?_) (fun a oe cls d pn _ _ => pss_never)), ?_⟩
  · exact pss_one (ps_ret (pe_tup (pa_cons pe_str (pa_cons (act W pn xe (fun _ _ _ => False) _ _ tk fun _ _ _ _ z => z.elim) pa_nil))))
  · exact ⟨rfl, hc, h⟩
end L2.K88

end
/-! K88L15 -/
section
set_option Elab.async false
set_option linter.all false
set_option maxRecDepth 100000
set_option maxHeartbeats 8000000
namespace L2.K88
open PySem PySem.Spec PyProof.Rows
/-- _law_told as it stands -/
structure ToldX (K : PySem.W.Frag) (mg : Str → Option Value) : Prop where
  ex : ∃ (g : Addr) (kV doc pm cdv ct oc : Value) (an od : Option Addr) (osl : Array (Option Value)), mg "_law_told" = some (.ref g) ∧ PySem.W.keepIn K (.ref g) = true ∧
    K.lookup g = some ⟨oc, od, .func (PySem.W.fnOf "_law_told" "_law_told" (defArgs sTold) (defBody sTold) (defScope sTold) .none kV doc pm an cdv ct), osl⟩ ∧ PySem.W.codeIn K cdv "_law_told" = true
  ref : ∃ CR, mg "Refused" = some (.ref CR)
def qlam : Str := ("law" : Str) ++ (".<locals>." : Str) ++ ("<lambda>" : Str)
def spLaw (K : PySem.W.Frag) (P0 : Addr) : Sp := fun vs H Q _ => ∃ (a : Addr) (ns : List Int), vs = [.ref a] ∧ SqL K H a (ns.map V.int) ∧ ns.length ≤ sizeLine ∧ LamX.Tabs [(P0, qlam)] H ∧ ∀ H', Q (.bl true) H'
/-- a house whose rows are told, its rows' list not the drawing one -/
def RowS (K : PySem.W.Frag) (C src : Addr) (F H : Hp) (v : V) (rows : List En) : Prop := ∃ p dx ds df r rs, v = .ref p ∧ r ≠ src ∧ H p = some (.ins C dx (hF ds df r)) ∧ H r = some (.lst rs) ∧ Paired (REn K F) rs rows
section
variable {K : PySem.W.Frag} {C src : Addr} {F H F' H' : Hp} {v : V} {rows : List En}
theorem RowS.row (fh : Same F H) : RowS K C src F H v rows → RowAt K C H v rows := fun ⟨p, dx, ds, df, r, rs, h0, _, h1, h2, h3⟩ => ⟨p, dx, ds, df, r, rs, h0, h1, h2, mon_REn.paired fh h3⟩
theorem RowS.gr {xs : List V} (hs : H src = some (.lst xs)) (g : Gr [src] F H F' H') : RowS K C src F H v rows → RowS K C src F' H' v rows := fun ⟨p, dx, ds, df, r, rs, h0, hn, h1, h2, h3⟩ => by
  refine ⟨p, dx, ds, df, r, rs, h0, hn, g.keep ?_ h1, g.keep (by simpa using hn) h2, mon_REn.paired g.ff h3⟩
  rw [List.mem_singleton]
  exact fun z => by rw [z, hs] at h1; cases h1
theorem RowS.gr0 (g : Gr [] F H F' H') : RowS K C src F H v rows → RowS K C src F' H' v rows := fun ⟨p, dx, ds, df, r, rs, h0, hn, h1, h2, h3⟩ => ⟨p, dx, ds, df, r, rs, h0, hn, g.same _ _ h1, g.same _ _ h2, mon_REn.paired g.ff h3⟩
theorem RowS.ext (e : LamX.ExtN H H') : RowS K C src F H v rows → RowS K C src (noT F) H' v rows := fun ⟨p, dx, ds, df, r, rs, h0, hn, h1, h2, h3⟩ =>
  ⟨p, dx, ds, df, r, rs, h0, hn, e _ _ h1 (fun _ z => nomatch z), e _ _ h2 (fun _ z => nomatch z), Paired.mapP h3 fun _ _ ⟨q, u, a1, a2, w, a3, a4⟩ => ⟨q, u, a1, nt a2, w, a3, sqtN a4⟩⟩
theorem newRow {q : Addr} {h : Hs} {o : HO} (hs : H src = some o) (N : NewHs K C F H F' H' q h) : SrcHs K C F' H' q h ∧ (ky h.ats).Nodup ∧ ∃ rows, RowS K C src F' H' (.ref q) rows ∧ Rows h rows := by
  obtain ⟨g, dx, ds, df, r, rs, rows, M, _, _, _, r0, _, h1, h2, h3, h4⟩ := N
  refine ⟨?_, M.nd, rows, ⟨q, dx, ds, df, r, rs, rfl, (fun z => by rw [z, hs] at r0; cases r0), h1, h2, h3⟩, h4⟩
  obtain ⟨⟨r, e1⟩, ⟨kvs, e2, e3⟩, ⟨vs, e4, e5⟩, _, _, _, _, nd⟩ := M
  exact ⟨dx, ds, df, r, kvs, vs, e1, e2, e3, e4, e5, nd⟩
theorem SrcHs.gr0 {p : Addr} {h : Hs} (g : Gr [] F H F' H') : SrcHs K C F H p h → SrcHs K C F' H' p h := fun ⟨dx, ds, df, r, kvs, vs, h1, h2, h3, h4, h5, h6⟩ => ⟨dx, ds, df, r, kvs, vs, g.same _ _ h1, g.same _ _ h2, mon_RAt g.ff h3, g.same _ _ h4, mon_RFb.paired g.ff h5, h6⟩
end
section
variable {P : Program} {w : World} {K : PySem.W.Frag} {mg : Str → Option Value} {base : Heap} {Z : Ad}
theorem scLaw : FnScope ["_law_script", "_law_at", "_law_source_here", "_law_start", "_law_turn", "_law_specs_here", "_law_members", "_law_found", "_law_told_here", "_law_house", "_law_more", "_law_spec_here"] ["_law_script"] (defScope sLaw) := ⟨rfl, rfl, rfl, by decide +kernel, rfl, by decide +kernel, by decide +kernel⟩
/-- the members of a list of specs, as a comprehension's reading -/
theorem made_list {F H : Hp} {vs : List V} {ms : List Mb} {σ : L2.St} {l : Addr} {Qd : Hp → Prop} {D : Addr} (fh : Same F H) (hl : F l = some (.lst vs)) (hv : Paired (RSp F) vs ms) (hok : ∀ b ∈ ms, MbOk b) (hnl : ∀ b ∈ ms, b.kd ≠ "link") (hln : ms.length ≤ 13) {idx : List Nat} {k : Nat}
    (hk : ∀ y, (List.set (wipe σ idx) k (some y))[k]? = some (some y)) (hw : ∀ y, wipe (List.set (wipe σ idx) k (some y)) idx = wipe σ idx)
    (hD : H D = none) (done : ∀ us F' H', Gr [] F H F' H' → H' D = some (.lst us) → Paired (RMb Z F') us ms → Qd H') :
    ∃ W : Nat → Nat → Hp → Prop, (∃ m, W 0 m (upd H D (.lst []))) ∧ ∀ i m H, W i m H → ((Itl K l).stop i H ∧ Qd H) ∨ ((Itl K l).go i H ∧ ∃ Nx : Hp → Prop, (∀ H', Nx H' → ∃ m', m' < m ∧ W (i + 1) m' H') ∧ ∀ x H', (Itl K l).yld i H x H' → gName k x (wipe σ idx) H' fun σ2 H2 => wipe σ2 idx = wipe σ idx ∧ tYes σ2 H2 fun b H3 =>
      if b = true then tCall (spMade Z) [] C8.E0 (tCons (tVar k) tNil) σ2 H3 fun y H4 => ∃ acc, H4 D = some (.lst acc) ∧ acc.length < sizeLine ∧ Nx (upd H4 D (.lst (acc ++ [y]))) else Nx H3) := by
  have fD : F D = none := fh.free hD
  refine lc_it (walk_list (xs := vs)) (fun i H' => ∃ F1 us, Gr [] F H F1 H' ∧ F1 D = none ∧ H' D = some (.lst us) ∧ Paired (RMb Z F1) us (ms.take i)) ?_ (fun i H' _ h => by obtain ⟨F1, us, g, _⟩ := h; exact SqL.of (g.fh _ _ (g.ff _ _ hl))) ?_ ?_
  · exact ⟨F, [], (Gr.refl fh).raw hD, fD, upd_same, .nil⟩
  · rintro i y H2 H3 hi ⟨F1, us, g, f1, a1, a2⟩ ⟨rfl, hy⟩
    obtain ⟨b, hb, hR⟩ := Pget hv hy
    have hm : b ∈ ms := List.mem_of_getElem? hb
    refine ⟨hw y, y, hk y, F1, y, b, rfl, g.fh, mon_RSp _ _ _ _ g.ff hR, hok b hm, hnl b hm, fun v' F5 H5 hv5 g5 => ?_⟩
    have hD5 := g5.same _ _ a1
    have fD5 := g5.notF f1 a1
    refine ⟨us, hD5, ?_, F5, us ++ [v'], (g.trans g5).mut (.inl hD) fD5, fD5, upd_same, ?_⟩
    · rw [Plen a2, List.length_take]
      exact Nat.lt_of_le_of_lt (show _ ≤ 13 by omega) (by decide)
    · rw [List.take_succ, hb]
      exact Psnoc (mon_RMb.paired g5.ff a2) hv5
  · rintro H2 ⟨F1, us, g, f1, a1, a2⟩
    rw [Plen hv, List.take_length] at a2
    exact done us F1 H2 g a1 a2
end
end L2.K88

end
/-! K88L16 -/
section
set_option Elab.async false
set_option linter.all false
set_option maxRecDepth 100000
set_option maxHeartbeats 1000000
namespace L2.K88
open PySem PySem.Spec PyProof.Rows
theorem qlam_env (sc : Scope) (L f : Addr) (cd : Value) : (envOfC "law" sc L f cd).qual ++ ("<lambda>" : Str) = qlam := by
  unfold qlam
  rfl
theorem qlam_cx {P : Program} {w : World} {K : PySem.W.Frag} {mg : Str → Option Value} {base : Heap} {N : List Str} {sc : Scope} {f : Addr} {cdv : Value} {A : Around} {outer : List Env} {s : Shared} {H : Hp} {E : XK} : (cxOf CX0 P w K mg base N "law" sc f cdv A outer s H E).nox.env.qual ++ ("<lambda>" : Str) = qlam := qlam_env sc _ f cdv
theorem sql_ne {K : PySem.W.Frag} {H : Hp} {a src : Addr} {xs : List V} (h : SqL K H a xs) (hn : H src = none) : a ≠ src ∨ ∀ H2, SqL K H2 a xs := by
  rcases h with (h | ⟨o, h⟩) | h
  · exact .inl (ne_of_none h hn)
  · exact .inl (ne_of_none h hn)
  · exact .inr fun _ => .inr h
theorem RowAt.ins {K : PySem.W.Frag} {C : Addr} {H : Hp} {q : Addr} {rows : List En} : RowAt K C H (.ref q) rows → ∃ dx fs, H q = some (.ins C dx fs) := fun ⟨p, dx, ds, df, r, rs, h0, h1, _⟩ => by cases h0; exact ⟨dx, _, h1⟩
theorem LS.le {K : PySem.W.Frag} {Z : Ad} {T : List (Addr × Str)} {a : Addr} {xs : List V} {src : Addr} {n n' : Nat} {F H : Hp} {tv : V} {t : Tr} {p : Addr} {h : Hs} (L : LS K Z T a xs src n F H tv t p h) (hn : n' ≤ n) : LS K Z T a xs src n' F H tv t p h := ⟨L.ok.le hn, L.sc, L.sa, L.tb, L.tr, L.hs⟩
theorem hid_len {gs more : List Mb} (h : HidOf gs more) : more.length ≤ gs.length + 1 := by
  rcases h with rfl | ⟨a, spot, b, o, ha, hb, _, _, rfl⟩
  · exact Nat.le_succ _
  · simp only [List.length_append, List.length_take, List.length_drop, List.length_singleton]
    omega
theorem hid_ok {gs more : List Mb} (h : HidOf gs more) (ho : ∀ b ∈ gs, MbOk b) : ∀ b ∈ more, MbOk b := by
  rcases h with rfl | ⟨a, spot, b, o, ha, hb, _, hoo, rfl⟩
  · exact ho
  · intro c hc
    have hbm := ho b (List.mem_of_getElem? hb)
    rcases List.mem_append.mp hc with h1 | h1
    · rcases List.mem_append.mp h1 with h2 | h2
      · exact ho c (List.mem_of_mem_take h2)
      · rw [List.mem_singleton] at h2
        rw [h2]
        rcases hoo with rfl | rfl
        · refine ⟨hbm.nm, ⟨by decide, by decide, by decide, by decide⟩, fun n hn => ?_, by show 2 ≤ 4096; decide⟩
          have : n = 3 ∨ n = 4 := by simpa using hn
          rcases this with e | e <;> rw [e] <;> exact ⟨by decide, by decide⟩
        · exact ⟨hbm.nm, ⟨by decide, by decide, by decide, by decide⟩, by decide +kernel⟩
    · exact ho c (List.mem_of_mem_drop h1)
def lamSc : Scope := { kind := .function, names := [("_law_house", .free), ("_law_more", .free), ("unpacked", .globalImplicit)], isGenerator := false, isCoroutine := false, more := [("fast", .str "_law_spec_here"), ("fast", .str "_law_house"), ("fast", .str "_law_more")] }
def lamTE (K : PySem.W.Frag) (Z : Ad) : XK → TE := fun _ => tCall (spUnp K Z) [] C8.E0 (tCons (tVar 9) (tCons (tLc (iList K (tVar 10)) (gName 11) tYes (tCall (spMade Z) [] C8.E0 (tCons (tVar 11) tNil)) ([("_law_spec_here", 11)] : List (Str × Nat)).unzip.2) tNil))
section
variable {P : Program} {w : World} {K : PySem.W.Frag} {mg : Str → Option Value} {base : Heap} {Z : Ad}
theorem c_law {f pO gO fEq c0 P0 : Addr} {mc : Value} {kV doc pm ct oc : Value} {an od : Option Addr} {osl : Array (Option Value)} (lk : K.lookup f = some ⟨oc, od, .func (PySem.W.fnOf "law" "law" (defArgs sLaw) (defBody sLaw) (defScope sLaw) .none kV doc pm an (.ref c0) ct), osl⟩) (hcd : PySem.W.codeIn K (.ref c0) "law" = true)
    (B : Bl mg) (TD : ToldX K mg) (hTB : LamX.TabB base mg c0 P0)
    (cSrc : C8.Cal P w K mg base 1 "_law_source" (spSource K) []) (cTr : C8.Cal P w K mg base 5 "_law_tree_of" (spTreeOf K) []) (cEn : C8.Cal P w K mg base 4 "_law_entries" (spLEntries K) []) (cRd : ClX.CRead K Z.ho mc) (cOf : ClX.CMet K Z.ho mc "of" pO gO) (hOf : FnR P w K mg base CX0 6 gO (spOf K Z.ho)) (hHo : mg "House" = some (.ref Z.ho))
    (cSp : C8.Cal P w K mg base 4 "_law_specs" spSpecs []) (cGo : C8.Cal P w K mg base 3 "_law_good" (spGood K) []) (cMa : C8.Cal P w K mg base 6 "_law_made" (spMade Z) []) (cUn : C8.Cal P w K mg base 6 "unpacked" (spUnp K Z) []) (cNe : NeC K Z.ho fEq) (hEq : FnR P w K mg base CX0 1 fEq (spHEq K Z.ho)) (cHi : C8.Cal P w K mg base 2 "_law_hidden" spHidden []) :
    FnOk P w K mg base CX0 9 f (PySem.W.fnOf "law" "law" (defArgs sLaw) (defBody sLaw) (defScope sLaw) .none kV doc pm an (.ref c0) ct) ["_law_script"] (spLaw K P0) := by
  obtain ⟨gT, kVT, docT, pmT, cdT, ctT, ocT, anT, odT, oslT, hmT, hkT, lkT, hcT⟩ := TD.ex
  obtain ⟨CR, hRef⟩ := TD.ref
  refine fn_of lk hcd scLaw (fun vs H Q E h => ?_) fun A outer s H vs Q E hr h => ?_
  · obtain ⟨a, ns, rfl, _⟩ := h; rfl
  · obtain ⟨a, ns, rfl, hS, hnz, hT, k⟩ := h
    have hu := hu_of hr
    have bT : Binds K (PySem.W.fnOf "_law_told" "_law_told" (defArgs sTold) (defBody sTold) (defScope sTold) .none kVT docT pmT anT cdT ctT) ["_law_call"] [] := Binds.all fun us hl => match us, hl with | [_], _ => rfl
    refine ⟨_, PSs.nox (pss_cons (ps_for PassesOwn.never rfl (pi_range1 (by rfl) B.range_ (pa_cons (pe_callB (call_max2 rfl) (by rfl) B.max_ (by decide +kernel) (pa_cons pe_int (pa_cons (pe_callB (call_min2 rfl) (by rfl) B.min_ (by decide +kernel) (pa_cons pe_int (pa_cons (pe_callB call_len (by rfl) B.len_ boot_len (pa_cons (pv 0) pa_nil)) pa_nil))) pa_nil))) pa_nil)) (pg_name (i := 1) scLaw.nd rfl (Or.inl rfl))
        (pss_cons (ps_set (i := 2) scLaw.nd rfl (Or.inl rfl) (C8.pe_c cSrc hr (by decide) (by rfl) (pa_cons (pv 0) (pa_cons (pv 1) pa_nil))))
        (pss_cons (ps_set (i := 3) scLaw.nd rfl (Or.inl rfl) (C8.pe_c cTr hr (by decide) (by rfl) (pa_cons (pv 2) (pa_cons pe_int pa_nil))))
        (pss_cons (ps_set (i := 9) scLaw.nd rfl (Or.inr rfl) (ClX.pe_cmeth (E := C8.E0) (pe_glob (v := .ref Z.ho) (by rfl) hHo rfl) cRd cOf hOf (hr.mono (by decide)) C8.pass0 (pa_cons (C8.pe_c cEn hr (by decide) (by rfl) (pa_cons (pv 3) pa_nil)) pa_nil)))
        (pss_one (ps_for PassesOwn.never rfl (pi_range1 (by rfl) B.range_ (pa_cons pe_int pa_nil)) (pg_name (i := 4) scLaw.nd rfl (Or.inl rfl))
          (pss_cons (ps_set (i := 5) scLaw.nd rfl (Or.inl rfl) (C8.pe_c cGo hr (by decide) (by rfl) (pa_cons (pv 3) (pa_cons (C8.pe_c cSp hr (by decide) (by rfl) (pa_cons (pv 2) (pa_cons pe_int pa_nil))) pa_nil))))
          (pss_cons (ps_setLc (i := 6) (own := [("_law_spec_here", 11)]) (g := gName 11) (tt := tYes) rfl scLaw.nd rfl rfl (sw_true rfl rfl rfl (by decide +kernel)) (pi_list (pv 5)) (blkOk_by (N := ["_law_script", "_law_at", "_law_source_here", "_law_start", "_law_turn", "_law_specs_here", "_law_members", "_law_found", "_law_told_here", "_law_house", "_law_more", "_law_spec_here"]) (sc := defScope sLaw) (by decide +kernel)) (fun _ _ _ _ _ => pg_name (i := 11) scLaw.nd rfl (Or.inl rfl)) (fun _ _ _ _ _ => pts_nil)
              (fun _ _ _ _ _ => C8.pe_c cMa hr (by decide) (by rfl) (pa_cons (pv 11) pa_nil)))
          (pss_cons (ps_set (i := 7) scLaw.nd rfl (Or.inl rfl) (C8.pe_c cUn hr (by decide) (by rfl) (pa_cons (pv 9) (pa_cons (pv 6) pa_nil))))
          (pss_cons (ps_if (PW.pt (pw_or (pt_cmpR (op_neOwn cNe hEq (hr.mono (by decide))) (C8.pe_c cUn hr (by decide) (by rfl) (pa_cons (pv 7) (pa_cons (pv 6) pa_nil))) (pv 7) (nomark _))
              (pw_or1 (pt_cmpR (op_neOwn cNe hEq (hr.mono (by decide))) (C8.pe_c cUn hr (by decide) (by rfl) (pa_cons (C8.pe_c cUn hr (by decide) (by rfl) (pa_cons (pv 7) (pa_cons (pv 6) pa_nil))) (pa_cons (pv 6) pa_nil))) (pv 7) (nomark _))))) pss_never pss_nil)
          (pss_cons (ps_set (i := 10) scLaw.nd rfl (Or.inr rfl) (C8.pe_c cHi hr (by decide) (by rfl) (pa_cons (pv 2) (pa_cons (pv 5) pa_nil))))
          (pss_cons (ps_set (i := 8) scLaw.nd rfl (Or.inl rfl) (LamX.pe_lamcall (T := [(P0, qlam)]) (Ng := ["_law_call", "e"]) (a := "_law_call") (t := lamTE K Z) (k := 6) (by rfl) hmT hkT lkT hcT bT ⟨rfl, rfl, rfl, by decide +kernel, rfl, by decide +kernel, by decide +kernel⟩ rfl (.inl rfl) (told_gives2 hRef) hTB rfl (List.mem_singleton.mpr (Prod.ext rfl qlam_cx)) (fun p hp _ => by rw [List.mem_singleton] at hp; rw [hp]; exact qlam_cx.symm) hr (LamX.lamS_by (sc := defScope sLaw) (scope := lamSc) (by decide +kernel)) rfl (fun _ _ _ _ _ => rfl)
              (fun A outer s H E f' c' hr2 => C8.pe_c cUn hr2 (by decide) (by rfl) (pa_cons (pv 9) (pa_cons (pe_lc (own := [("_law_spec_here", 11)]) (g := gName 11) (tt := tYes) rfl scLaw.nd (pi_list (pv 10)) (blkOk_by (N := ["_law_script", "_law_at", "_law_source_here", "_law_start", "_law_turn", "_law_specs_here", "_law_members", "_law_found", "_law_told_here", "_law_house", "_law_more", "_law_spec_here"]) (sc := lamSc) (by decide +kernel)) (fun _ _ _ _ _ => pg_name (i := 11) scLaw.nd rfl (Or.inl rfl) (.inr rfl)) (fun _ _ _ _ _ => pts_nil)
                (fun _ _ _ _ _ => C8.pe_c cMa hr2 (by decide) (by rfl) (pa_cons (pv 11) pa_nil))) pa_nil)))))
          (pss_cons (ps_if (PW.pt (pw_and (pt_cmpR op_eq (pe_ix ix_tup (pv 8) pe_int (fun _ _ => rfl)) pe_str (nomark _)) (pw_and1 pt_no))) pss_never pss_nil)
          (pss_one (ps_if (PW.pt (pw_and (pt_cmpR op_eq (pe_ix ix_tup (pv 8) pe_int (fun _ _ => rfl)) pe_str (nomark _)) (pw_and1 (pt_cmpR (op_neOwn cNe hEq (hr.mono (by decide))) (pe_ix ix_tup (pv 8) pe_int (fun _ _ => rfl)) (pv 7) (nomark _))))) pss_never pss_nil)))))))))))))))
      (pss_one (ps_ret pe_bl))), ?_⟩
    have hob : ∀ {H : Hp} {src n} , Src H src n → ∃ xs, H src = some (.lst xs) := fun s => by obtain ⟨g, m, t, e, _⟩ := s; exact ⟨_, e⟩
    refine ⟨_, rfl, _, _, rfl, .inl ⟨_, hS, rfl⟩, _, _, rfl, _, _, rfl, _, rfl, ?_, ?_, ?_⟩
    · split <;> split <;> omega
    · split <;> split <;> omega
    refine for_it (walk_range (lo := 0)) (fun i σ H' => ∃ v1 v2 v3 v4 v5 v6 v7 v8 v9 v10 v11 : Option V, σ = [some (.ref a), v1, v2, v3, v4, v5, v6, v7, v8, v9, v10, v11] ∧ SqL K H' a (ns.map V.int) ∧ LamX.Tabs [(P0, qlam)] H') ?_ (fun _ _ _ _ _ => True.intro) ?_ ?_
    · exact ⟨none, none, none, none, none, none, none, none, none, none, none, rfl, hS, hT⟩
    · rintro i x σ H1 H2 hi ⟨v1, v2, v3, v4, v5, v6, v7, v8, v9, v10, v11, rfl, hS1, hT1⟩ ⟨rfl, rfl⟩
      have hi4 : i < 4 := by
        have : ∀ m : Int, m ≤ 4 → i < m.toNat → i < 4 := fun m h1 h2 => by omega
        refine this _ ?_ hi
        split <;> split <;> omega
      refine ⟨_, rfl, _, rfl, a, ns, _, rfl, hS1, hnz, by omega, by omega, fun H3 src s3 hsrc hSrc => ?_⟩
      have hsa := sql_ne hS1 hsrc
      have O3 : Ok src 900000 (fun _ => none) H3 := ⟨(fun b o e => nomatch e), rfl, hSrc⟩
      refine ⟨_, rfl, src, 890000, _, 6, rfl, by decide, by decide, O3, fun tv t F4 H4 hTr hO z1 z2 g4 s4 => ?_⟩
      have O4 := O3.next g4 s4
      refine ⟨rfl, _, rfl, F4, tv, t, rfl, g4.fh, hTr, hO, by omega, fun ev es F5 H5 hes ho hkd hle g5 => ?_⟩
      obtain ⟨pe, use, rfl, hpe, huse⟩ := hes
      refine ⟨F5, pe, use, es, rfl, g5.fh, hpe, huse, ho, by omega, fun F6 H6 q N6 => ?_⟩
      obtain ⟨xs3, e3⟩ := hob hSrc
      have ex4 := g4.ex
      have hS4 := sql_gr (s3.seq hS1) hsa ex4
      have hT4 := tabs_gr (hT1.ext s3) e3 ex4
      have g56 := g5.trans N6.1
      have O6 := O4.grow g56
      obtain ⟨xs6, e6⟩ := hob O6.sr
      have N6s := (newRow (src := src) (g5.same _ _ (hob O4.sr).choose_spec) N6).1
      have L6 : LS K Z [(P0, qlam)] a (ns.map V.int) src 890000 F6 H6 tv t q (ofH es) :=
        ⟨O6, sql_gr hS4 hsa fun b o _ e => g56.same _ _ e, hsa, hT4.ext g56.same, mon_RTr _ _ _ _ g56.ff hTr, N6s⟩
      have hkk : kdAt (ofH es).ats = kdAt t.ats := funext fun z => (kd_ofH ho z).trans (hkd z)
      have hW := w_ofH es
      have hol := len_ofH es
      generalize ofH es = h at L6 hkk hW hol
      refine ⟨3, rfl, by decide, by decide, ?_⟩
      refine for_it (walk_range (lo := 0)) (fun i σ H' => ∃ (F : Hp) (v1 v4 v5 v6 v7 v8 v10 v11 : Option V), σ = [some (.ref a), v1, some (.ref src), some tv, v4, v5, v6, v7, v8, some (.ref q), v10, v11] ∧ LS K Z [(P0, qlam)] a (ns.map V.int) src (11000 * (3 - i)) F H' tv t q h) ?_ (fun _ _ _ _ _ => True.intro) ?_ ?_
      · exact ⟨F6, _, _, _, _, _, _, _, _, rfl, L6.le (by decide)⟩
      · rintro j x σ H7 H7' hj ⟨F, w1, w4, w5, w6, w7, w8, w10, w11, rfl, L⟩ ⟨rfl, rfl⟩
        have hj3 : j < 3 := hj
        refine ⟨_, rfl, _, rfl, src, 11000 * (3 - (j + 1)) + 1000, F, 12, rfl, by decide, by decide, L.ok.le (by omega), fun sv ms F8 H8 hms hok hln g8 s8 => ?_⟩
        obtain ⟨l, us, rfl, hl, hus⟩ := hms
        have L8 := L.gr g8 s8
        refine ⟨F8, tv, t, l, us, ms, rfl, L8.ok.fh, L8.tr, hO, hl, hus, hok, hln, z1, z2, fun gv gs F9 H9 hgs hgok hgl hG g9 => ?_⟩
        obtain ⟨gl, gus, rfl, hgl', hgus⟩ := hgs
        have L9 := L8.gr0 g9
        have hnl := goodF_nl hG
        rw [← hkk] at hG
        have gd := good_all hG (more := gs) (.inl rfl)
        refine ⟨_, rfl, gl, rfl, ⟨_, SqL.of (L9.ok.fh _ _ hgl')⟩, fun D hD => ?_⟩
        refine made_list (K := K) (Z := Z) (idx := [11]) (k := 11) (σ := List.set (List.set [some (V.ref a), w1, some (V.ref src), some tv, w4, w5, w6, w7, w8, some (V.ref q), w10, w11] 4 (some (V.int (0 + (j : Int))))) 5 (some (V.ref gl))) L9.ok.fh hgl' hgus hgok hnl (by omega) ?_ ?_ hD ?_
        · intro y; rfl
        · intro y; rfl
        intro us' F10 H10 g10 hD10 hus10
        have L10 := L9.gr0 g10
        refine ⟨_, rfl, _, rfl, F10, q, D, h, us', gs, rfl, L10.ok.fh, L10.hs, hW, hD10, hus10, hgok, gd.1, by omega, by omega, fun F11 H11 q1 N11 => ?_⟩
        obtain ⟨xs10, e10⟩ := hob L10.ok.sr
        obtain ⟨S1, nd1, rows1, R1, Rw1⟩ := newRow (src := src) e10 N11
        have L11 := L10.gr0 N11.1
        have ln1 := runH_len gs h hgok
        have w1' := runH_w gs hW
        have ln2 := runH_len gs (runH h gs) hgok
        have w2' := runH_w gs w1'
        have ev1 := eqv_twice hW hnl
        have ev2 := eqv_twice w1' hnl
        have hD11 := N11.1.same _ _ hD10
        have hus11 := mon_RMb.paired N11.1.ff hus10
        refine ⟨_, rfl, _, rfl, F11, q1, D, runH h gs, us', gs, rfl, L11.ok.fh, S1, w1', hD11, hus11, hgok, gd.2.1, by omega, by omega, fun F12 H12 q2 N12 => ?_⟩
        obtain ⟨xs11, e11⟩ := hob L11.ok.sr
        obtain ⟨S2, nd2, rows2, R2, Rw2⟩ := newRow (src := src) e11 N12
        have L12 := L11.gr0 N12.1
        have er2 : rows2 = rows1 := rows_eq ev1 nd2 nd1 Rw2 Rw1
        have R1b := R1.gr0 N12.1
        have A2 := R2.row L12.ok.fh
        have A1 := R1b.row L12.ok.fh
        rw [er2] at A2
        obtain ⟨dxa, fsa, ia⟩ := A2.ins
        obtain ⟨dxb, fsb, ib⟩ := A1.ins
        refine ⟨_, rfl, q2, q1, dxa, dxb, fsa, fsb, rfl, rfl, ia, ib, ⟨_, _, rows1, rfl, A2, A1, true, rfl, _, rfl, iF rfl ?_⟩⟩
        have hD12 := N12.1.same _ _ hD11
        have hus12 := mon_RMb.paired N12.1.ff hus11
        refine ⟨_, rfl, _, rfl, F12, q1, D, runH h gs, us', gs, rfl, L12.ok.fh, S1.gr0 N12.1, w1', hD12, hus12, hgok, gd.2.1, by omega, by omega, fun F13 H13 q3 N13 => ?_⟩
        obtain ⟨xs12, e12⟩ := hob L12.ok.sr
        obtain ⟨S3, nd3, rows3, R3, Rw3⟩ := newRow (src := src) e12 N13
        have L13 := L12.gr0 N13.1
        have hD13 := N13.1.same _ _ hD12
        have hus13 := mon_RMb.paired N13.1.ff hus12
        refine ⟨_, rfl, F13, q3, D, runH (runH h gs) gs, us', gs, rfl, L13.ok.fh, S3, w2', hD13, hus13, hgok, gd.2.2.1, by omega, by omega, fun F14 H14 q4 N14 => ?_⟩
        obtain ⟨xs13, e13⟩ := hob L13.ok.sr
        obtain ⟨S4, nd4, rows4, R4, Rw4⟩ := newRow (src := src) e13 N14
        have L14 := L13.gr0 N14.1
        have er4 : rows4 = rows1 := (rows_eq ev2 nd4 nd2 Rw4 Rw2).trans er2
        have R1c := (R1b.gr0 N13.1).gr0 N14.1
        have A4 := R4.row L14.ok.fh
        have A1c := R1c.row L14.ok.fh
        rw [er4] at A4
        obtain ⟨dxc, fsc, ic⟩ := A4.ins
        obtain ⟨dxd, fsd, id'⟩ := A1c.ins
        refine ⟨_, rfl, q4, q1, dxc, dxd, fsc, fsd, rfl, rfl, ic, id', ⟨_, _, rows1, rfl, A4, A1c, true, rfl, _, rfl, iF rfl ?_⟩⟩
        -- the hidden member
        have gAll := ((g10.trans N11.1).trans N12.1).trans (N13.1.trans N14.1)
        refine ⟨_, rfl, _, rfl, src, 11000 * (3 - (j + 1)), F14, gl, gus, gs, rfl, L14.ok.le (by omega), gAll.ff _ _ hgl', mon_RSp.paired gAll.ff hgus, hgok, hgl, fun mv more F15 H15 hmore hHid g15 s15 => ?_⟩
        have L15 := L14.gr g15 s15
        obtain ⟨xs14, e14⟩ := hob L14.ok.sr
        have R1d := R1c.gr e14 g15
        have gd2 := good_all hG hHid
        have hmok := hid_ok hHid hgok
        have hml := hid_len hHid
        refine ⟨L15.tb, fun H16 e16 tb16 => ?_⟩
        have L16 := L15.ext e16 tb16
        have R1e := R1d.ext e16
        obtain ⟨ml, mus, rfl, hml', hmus⟩ := rlN hmore
        refine ⟨_, rfl, _, rfl, ml, rfl, ⟨_, SqL.of (L16.ok.fh _ _ hml')⟩, fun D2 hD2 => ?_⟩
        refine made_list (idx := [11]) (k := 11) L16.ok.fh hml' hmus hmok gd2.2.2.2.2 (by omega) ?_ ?_ hD2 ?_
        · intro y; rfl
        · intro y; rfl
        intro us2 F17 H17 g17 hD17 hus17
        have L17 := L16.gr0 g17
        refine ⟨F17, q, D2, h, us2, more, rfl, L17.ok.fh, L17.hs, hW, hD17, hus17, hmok, gd2.2.2.2.1, by omega, by omega, fun F18 H18 q5 N18 => ?_⟩
        obtain ⟨xs17, e17⟩ := hob L17.ok.sr
        obtain ⟨S5, nd5, rows5, R5, Rw5⟩ := newRow (src := src) e17 N18
        have L18 := L17.gr0 N18.1
        have er5 : rows5 = rows1 := rows_eq (eqv_lists hW hnl gd2.2.2.2.2 (hid_tells hHid).1 (hid_tells hHid).2) nd5 nd1 Rw5 Rw1
        refine ⟨(by show 2 ≤ sizeLine; decide), fun tp htp => ?_⟩
        have g19 := (Gr.refl (S := []) L18.ok.fh).raw (o := .tup [.str "none", .ref q5]) htp
        have L19 := L18.gr0 g19
        have R5b := R5.gr0 g19
        have R1f := ((R1e.gr0 g17).gr0 N18.1).gr0 g19
        refine ⟨_, rfl, tp, _, 0, _, rfl, rfl, SqT.of upd_same, rfl, rfl, _, rfl, iF (show decide (V.str "none" = V.str "refused") = false by decide +kernel) (iF rfl ?_)⟩
        refine ⟨_, rfl, tp, _, 0, _, rfl, rfl, SqT.of upd_same, rfl, rfl, _, rfl, iT (show decide (V.str "none" = V.str "none") = true by decide +kernel) ?_⟩
        have A5 := R5b.row L19.ok.fh
        have A1f := R1f.row L19.ok.fh
        rw [er5] at A5
        obtain ⟨dxe, fse, ie⟩ := A5.ins
        obtain ⟨dxf, fsf, if'⟩ := A1f.ins
        refine ⟨_, rfl, tp, _, 1, _, rfl, rfl, SqT.of upd_same, rfl, _, rfl, q5, q1, dxe, dxf, fse, fsf, rfl, rfl, ie, if', ⟨_, _, rows1, rfl, A5, A1f, true, rfl, _, rfl, iF rfl ?_⟩⟩
        exact ⟨_, _, _, _, _, _, _, _, _, rfl, L19.le (by omega)⟩
      · rintro σ H7 ⟨F, w1, w4, w5, w6, w7, w8, w10, w11, rfl, L⟩
        exact ⟨_, _, _, _, _, _, _, _, _, _, _, rfl, L.sc, L.tb⟩
    · rintro σ H1 ⟨v1, v2, v3, v4, v5, v6, v7, v8, v9, v10, v11, rfl, hS1, hT1⟩
      exact k _
end
end L2.K88

end
/-! K88Z1 -/
section
set_option Elab.async false
set_option linter.all false
set_option maxRecDepth 100000
set_option maxHeartbeats 1000000
namespace L2.K88
open PySem PySem.Spec PyProof.Rows
/-- all that the head tells -/
structure AllF (P : Program) (K : PySem.W.Frag) (mg : Str → Option Value) (Z : Ad) (gM pO gO : Addr) (mc : Value) : Prop where
  B : Bl mg
  T : Cst mg
  Md : MadeX K mg
  TD : ToldX K mg
  zF : ClZ K Z
  zH : HoF K Z.ho
  zM : HoM K mg Z.ho
  zI : C8.InsC K Z.ho
  nNe : PySem.W.findIn K (.ref Z.ho) "__ne__" = some (some (.builtin "object.__ne__"))
  mem : ∃ fd, L2.Fun K "__init__" "Member.__init__" sMI gM fd
  sFi : SupX P K mg "File" Z.fi gM "File.__init__" sFileI
  sDi : SupX P K mg "Directory" Z.di gM "Directory.__init__" sDirI
  sSy : SupX P K mg "Symlink" Z.sy gM "Symlink.__init__" sSymI
  sSp : SupX P K mg "Sparse" Z.sp gM "Sparse.__init__" sSpaI
  of_ : OfX K gO
  rd : ClX.CRead K Z.ho mc
  mo : ClX.CMet K Z.ho mc "of" pO gO
  d_is_integer : DefX K mg "is_integer" sIsInt ["thing"]
  d_is_within : DefX K mg "is_within" sWithin ["thing", "low", "high"]
  d_blob : DefX K mg "blob" sBlob ["numbers"]
  d_is_name : DefX K mg "is_name" sIsName ["thing"]
  d_is_path : DefX K mg "is_path" sIsPath ["thing"]
  d_look_name : DefX K mg "look_name" sLookName ["name"]
  d_look_stamps : DefX K mg "look_stamps" sLookStamps ["mode", "time"]
  d_is_piece : DefX K mg "is_piece" sIsPiece ["thing"]
  d_are_spans : DefX K mg "are_spans" sSpans ["size", "spans"]
  d_are_pieces : DefX K mg "are_pieces" sPieces ["size", "pieces"]
  d_above : DefX K mg "above" sAbove ["path"]
  d_are_stamps : DefX K mg "are_stamps" sStamps ["mode", "time"]
  d_is_thing : DefX K mg "is_thing" sIsThing ["thing"]
  d_is_entry : DefX K mg "is_entry" sIsEntry ["thing"]
  d_one_house : DefX K mg "are_of_one_house" sOneHouse ["entries"]
  d_refusal_at : DefX K mg "refusal_at" sRefAt ["house", "path", "member", "target"]
  d_refusal : DefX K mg "refusal" sRefusal ["house", "member"]
  d_put_at : DefX K mg "put_at" sPutAt ["house", "path", "member", "target"]
  d_put_member : DefX K mg "put_member" sPutM ["house", "member"]
  d_unpack_one : DefX K mg "unpack_one" sUnOne ["house", "index", "member"]
  d_unpacked : DefX K mg "unpacked" sUnp ["house", "members"]
  d_source : DefX K mg "_law_source" sSource ["_law_script", "_law_at"]
  d_draw : DefX K mg "_law_draw" sDraw ["_law_source_here", "_law_many"]
  d_path : DefX K mg "_law_path" sPath ["_law_source_here"]
  d_nums : DefX K mg "_law_numbers" sNums ["_law_source_here"]
  d_lstamps : DefX K mg "_law_stamps" sLStamps ["_law_source_here"]
  d_lpieces : DefX K mg "_law_pieces" sLPieces ["_law_source_here"]
  d_lspec : DefX K mg "_law_spec" sLSpec ["_law_source_here", "_law_name", "_law_names"]
  d_specs : DefX K mg "_law_specs" sSpecs ["_law_source_here", "_law_most"]
  d_tree : DefX K mg "_law_tree" sTree []
  d_lcopied : DefX K mg "_law_copied" sLCopied ["_law_tree_here"]
  d_lkind : DefX K mg "_law_kind" sLKind ["_law_tree_here", "_law_name"]
  d_lis_path : DefX K mg "_law_is_path" sLIsPath ["_law_name"]
  d_labove : DefX K mg "_law_above" sLAbove ["_law_name"]
  d_lword : DefX K mg "_law_word" sLWord ["_law_tree_here", "_law_spec_here"]
  d_lcontent : DefX K mg "_law_content" sLContent ["_law_spec_here"]
  d_lstepped : DefX K mg "_law_stepped" sLStepped ["_law_tree_here", "_law_spec_here"]
  d_lentries : DefX K mg "_law_entries" sLEntries ["_law_tree_here"]
  d_tree_of : DefX K mg "_law_tree_of" sTreeOf ["_law_source_here", "_law_most"]
  d_good : DefX K mg "_law_good" sGood ["_law_tree_here", "_law_specs_here"]
  d_made : DefX K mg "_law_made" sMade ["_law_spec_here"]
  d_hidden : DefX K mg "_law_hidden" sHidden ["_law_source_here", "_law_specs_here"]
  d_hinit : MetX K Z.ho "__init__" "House.__init__" sHI ["self"]
  d_hset : MetX K Z.ho "set_thing" "House.set_thing" sHSet ["self", "path", "thing"]
  d_hshare : MetX K Z.ho "share" "House.share" sHShare ["self", "path", "target"]
  d_hhas : MetX K Z.ho "has" "House.has" sHHas ["self", "path"]
  d_hkind : MetX K Z.ho "kind_at" "House.kind_at" sHKind ["self", "path"]
  d_hsettle : MetX K Z.ho "settle" "House.settle" sHSettle ["self"]
  d_hcopied : MetX K Z.ho "copied" "House.copied" sHCopied ["self"]
  d_heq : MetX K Z.ho "__eq__" "House.__eq__" sHEq ["self", "other"]
  d_fcon : MetX K Z.fi "content" "File.content" sFileC ["self"]
  d_scon : MetX K Z.sp "content" "Sparse.content" sSpaC ["self"]
section
variable {P : Program} {w : World} {K : PySem.W.Frag} {mg : Str → Option Value} {base : Heap} {Z : Ad} {gM pO gO c0 P0 f : Addr} {mc : Value}
theorem hn_has (ds df r : Addr) : (hF ds df r).lookup ("has" : Str) = none := by kernel_rfl
theorem chain (A : AllF P K mg Z gM pO gO mc) {kV doc pm ct oc : Value} {an od : Option Addr} {osl : Array (Option Value)} (lk : K.lookup f = some ⟨oc, od, .func (PySem.W.fnOf "law" "law" (defArgs sLaw) (defBody sLaw) (defScope sLaw) .none kV doc pm an (.ref c0) ct), osl⟩) (hcd : PySem.W.codeIn K (.ref c0) "law" = true) (hTB : LamX.TabB base mg c0 P0) :
    FnOk P w K mg base CX0 9 f (PySem.W.fnOf "law" "law" (defArgs sLaw) (defBody sLaw) (defScope sLaw) .none kV doc pm an (.ref c0) ct) ["_law_script"] (spLaw K P0) := by
  obtain ⟨fdM, FM⟩ := A.mem
  have h_is_integer := c_is_integer (P := P) (w := w) (K := K) (mg := mg) (base := base) A.d_is_integer A.B
  have h_is_within := c_is_within (P := P) (w := w) (K := K) (mg := mg) (base := base) A.d_is_within h_is_integer
  have h_blob := c_blob (P := P) (w := w) (K := K) (mg := mg) (base := base) A.d_blob A.B h_is_within
  have h_is_name := c_is_name (P := P) (w := w) (K := K) (mg := mg) (base := base) A.d_is_name A.B A.T
  have h_is_path := c_is_path (P := P) (w := w) (K := K) (mg := mg) (base := base) A.d_is_path A.B h_is_name
  have h_look_name := c_look_name (P := P) (w := w) (K := K) (mg := mg) (base := base) A.d_look_name h_is_name
  have h_look_stamps := c_look_stamps (P := P) (w := w) (K := K) (mg := mg) (base := base) A.d_look_stamps A.T h_is_within
  have h_is_piece := c_is_piece (P := P) (w := w) (K := K) (mg := mg) (base := base) A.d_is_piece A.B h_is_integer
  have h_are_spans := c_are_spans (P := P) (w := w) (K := K) (mg := mg) (base := base) A.d_are_spans A.B A.T
  have h_are_pieces := c_are_pieces (P := P) (w := w) (K := K) (mg := mg) (base := base) A.d_are_pieces A.B h_is_piece h_are_spans
  have h_member := c_member (P := P) (w := w) (K := K) (mg := mg) (base := base) FM
  have h_file := c_file (P := P) (w := w) (K := K) (mg := mg) (base := base) A.sFi A.zF.fi A.B A.T h_member h_look_name h_look_stamps
  have h_dir := c_dir (P := P) (w := w) (K := K) (mg := mg) (base := base) A.sDi A.zF.di A.B h_member h_look_name h_look_stamps
  have h_sym := c_sym (P := P) (w := w) (K := K) (mg := mg) (base := base) A.sSy A.zF.sy A.B h_member h_look_name h_look_stamps
  have h_spa := c_spa (P := P) (w := w) (K := K) (mg := mg) (base := base) A.sSp A.zF.sp A.B A.T h_member h_look_name h_look_stamps h_is_within h_are_pieces
  have h_above := c_above (P := P) (w := w) (K := K) (mg := mg) (base := base) A.d_above A.B
  have h_are_stamps := c_are_stamps (P := P) (w := w) (K := K) (mg := mg) (base := base) A.d_are_stamps A.T h_is_within
  have h_is_thing := c_is_thing (P := P) (w := w) (K := K) (mg := mg) (base := base) A.d_is_thing A.B A.T h_are_stamps h_is_name h_is_path
  have h_is_entry := c_is_entry (P := P) (w := w) (K := K) (mg := mg) (base := base) A.d_is_entry A.B h_is_path h_is_thing
  have h_one_house := c_one_house (P := P) (w := w) (K := K) (mg := mg) (base := base) A.d_one_house A.B h_above
  have h_hinit := c_hinit (P := P) (w := w) (K := K) (mg := mg) (base := base) A.d_hinit A.zH
  have h_hset := c_hset (P := P) (w := w) (K := K) (mg := mg) (base := base) A.d_hset A.zH A.B
  have h_hshare := c_hshare (P := P) (w := w) (K := K) (mg := mg) (base := base) A.d_hshare A.zH
  have h_hhas := c_hhas (P := P) (w := w) (K := K) (mg := mg) (base := base) A.d_hhas A.zH A.B
  have h_hkind := c_hkind (P := P) (w := w) (K := K) (mg := mg) (base := base) A.d_hkind A.zH h_hhas hn_has
  have h_hsettle := c_hsettle (P := P) (w := w) (K := K) (mg := mg) (base := base) A.d_hsettle A.zH A.B
  have h_hcopied := c_hcopied (P := P) (w := w) (K := K) (mg := mg) (base := base) A.d_hcopied A.zH A.zM A.B h_hinit h_hsettle
  have h_heq := c_heq (P := P) (w := w) (K := K) (mg := mg) (base := base) A.d_heq A.zH A.zM A.zI A.B
  have h_hof := c_hof (P := P) (w := w) (K := K) (mg := mg) (base := base) A.of_ A.zH A.zM A.B h_hinit h_hsettle h_hset h_hshare h_is_entry h_one_house
  have h_fcon := c_fcon (P := P) (w := w) (K := K) (mg := mg) (base := base) A.d_fcon A.zF.fi
  have h_scon := c_scon (P := P) (w := w) (K := K) (mg := mg) (base := base) A.d_scon A.zF.sp A.B
  have h_refusal_at := c_refusal_at (P := P) (w := w) (K := K) (mg := mg) (base := base) A.d_refusal_at A.zF h_hkind
  have h_refusal := c_refusal (P := P) (w := w) (K := K) (mg := mg) (base := base) A.d_refusal A.zF A.B h_is_path h_above h_hkind h_refusal_at
  have h_put_at := c_put_at (P := P) (w := w) (K := K) (mg := mg) (base := base) A.d_put_at A.zF A.Md h_above h_hkind h_hset h_fcon h_scon hn_set
  have h_put_member := c_put_member (P := P) (w := w) (K := K) (mg := mg) (base := base) A.d_put_member A.zF h_put_at
  have h_unpack_one := c_unpack_one (P := P) (w := w) (K := K) (mg := mg) (base := base) A.d_unpack_one h_refusal h_put_member
  have h_unpacked := c_unpacked (P := P) (w := w) (K := K) (mg := mg) (base := base) A.d_unpacked A.B h_hcopied h_unpack_one
  have h_source := c_source (P := P) (w := w) (K := K) (mg := mg) (base := base) A.d_source A.B
  have h_draw := c_draw (P := P) (w := w) (K := K) (mg := mg) (base := base) A.d_draw A.B
  have h_path := c_path (P := P) (w := w) (K := K) (mg := mg) (base := base) A.d_path A.B h_draw
  have h_nums := c_nums (P := P) (w := w) (K := K) (mg := mg) (base := base) A.d_nums A.B h_draw
  have h_lstamps := c_lstamps (P := P) (w := w) (K := K) (mg := mg) (base := base) A.d_lstamps h_draw
  have h_lpieces := c_lpieces (P := P) (w := w) (K := K) (mg := mg) (base := base) A.d_lpieces A.B h_draw
  have h_lspec := c_lspec (P := P) (w := w) (K := K) (mg := mg) (base := base) A.d_lspec A.B h_draw h_lstamps h_nums h_lpieces
  have h_specs := c_specs (P := P) (w := w) (K := K) (mg := mg) (base := base) A.d_specs A.B h_draw h_path h_lspec
  have h_tree := c_tree (P := P) (w := w) (K := K) (mg := mg) (base := base) A.d_tree
  have h_lcopied := c_lcopied (P := P) (w := w) (K := K) (mg := mg) (base := base) A.d_lcopied A.B
  have h_lkind := c_lkind (P := P) (w := w) (K := K) (mg := mg) (base := base) A.d_lkind
  have h_lis_path := c_lis_path (P := P) (w := w) (K := K) (mg := mg) (base := base) A.d_lis_path A.B
  have h_labove := c_labove (P := P) (w := w) (K := K) (mg := mg) (base := base) A.d_labove A.B
  have h_lword := c_lword (P := P) (w := w) (K := K) (mg := mg) (base := base) A.d_lword A.B h_lis_path h_labove h_lkind
  have h_lcontent := c_lcontent (P := P) (w := w) (K := K) (mg := mg) (base := base) A.d_lcontent A.B
  have h_lstepped := c_lstepped (P := P) (w := w) (K := K) (mg := mg) (base := base) A.d_lstepped A.B h_lcopied h_labove h_lcontent
  have h_lentries := c_lentries (P := P) (w := w) (K := K) (mg := mg) (base := base) A.d_lentries A.B h_blob
  have h_tree_of := c_tree_of (P := P) (w := w) (K := K) (mg := mg) (base := base) A.d_tree_of h_tree h_specs h_lword h_lstepped
  have h_good := c_good (P := P) (w := w) (K := K) (mg := mg) (base := base) A.d_good h_lword h_lstepped
  have h_made := c_made (P := P) (w := w) (K := K) (mg := mg) (base := base) A.d_made A.B h_blob ⟨h_file⟩ ⟨h_dir⟩ ⟨h_sym⟩ ⟨h_spa⟩
  have h_hidden := c_hidden (P := P) (w := w) (K := K) (mg := mg) (base := base) A.d_hidden A.B h_draw
  obtain ⟨fEq, fdE, psE, dsE, clE, meE, okE, bE, vE⟩ := h_heq.ex
  have rE : FnR P w K mg base CX0 1 fEq (spHEq K Z.ho) := (okE.raw bE vE).imp fun vs H Q E z => by rw [List.append_nil]; exact z
  exact c_law lk hcd A.B A.TD hTB h_source h_tree_of h_lentries A.rd A.mo h_hof A.zM.mgC h_specs h_good h_made h_unpacked ⟨A.nNe, meE.at_, meE.fn, A.zI.hm⟩ rE h_hidden
end
end L2.K88

end
/-! K88Z2 -/
section
set_option Elab.async false
set_option linter.all false
set_option maxRecDepth 100000
set_option maxHeartbeats 1000000
namespace L2.K88
open PySem PySem.Spec PyProof.Rows He
/-! ### defs as data: where each stands, its names, its statement, whether it closes over its class -/
structure DefZ where
  at_ : PySem.W.Frag → Addr
  name : Str
  qual : Str
  st : Stmt
  cl : Bool := false
abbrev FnZ : Type := Option (Str × Str × Arguments × FuncBody × Scope × Addr × List Str × Addr)
def fnZ (K : PySem.W.Frag) (a : Addr) : FnZ := match K.lookup a with
  | some ⟨_, _, .func fd, _⟩ => some (fd.name, fd.qualname, fd.params, fd.body, fd.scope, fd.globals, fd.closure.map (·.1), fd.builtins)
  | _ => none
def DefZ.val (d : DefZ) : FnZ := some (d.name, d.qual, defArgs d.st, .stmts (defBody d.st), defScope d.st, mainGlobals, (if d.cl = true then ["__class__"] else []), builtinsNs)
def isNon : Value → Bool
  | .none => true
  | _ => false
theorem isNon_ok {v : Value} (h : isNon v = true) : v = .none := by cases v <;> first | rfl | cases h
def DefZ.ok (K : PySem.W.Frag) (d : DefZ) : Bool := PySem.W.keepIn K (.ref (d.at_ K)) && (match K.lookup (d.at_ K) with
  | some ⟨_, _, .func fd, _⟩ => PySem.W.codeIn K fd.code d.qual && isNon fd.defaults
  | _ => false)
structure IsZ (K : PySem.W.Frag) (d : DefZ) : Prop where
  eq : fnZ K (d.at_ K) = d.val
  ok : d.ok K = true
theorem IsZ.plain {K : PySem.W.Frag} {d : DefZ} (I : IsZ K d) (hc : d.cl = false) : ∃ (oc : Value) (od : Option Addr) (kV doc pm : Value) (an : Option Addr) (cdv ct : Value) (osl : Array (Option Value)),
    K.lookup (d.at_ K) = some ⟨oc, od, .func (PySem.W.fnOf d.name d.qual (defArgs d.st) (defBody d.st) (defScope d.st) .none kV doc pm an cdv ct), osl⟩ ∧ PySem.W.codeIn K cdv d.qual = true ∧ PySem.W.keepIn K (.ref (d.at_ K)) = true := by
  obtain ⟨e, c⟩ := I
  obtain ⟨kp, c2⟩ := ba c
  unfold fnZ at e
  cases q : K.lookup (d.at_ K) with
  | none => rw [q] at c2; cases c2
  | some o =>
    obtain ⟨oc, od, dt, osl⟩ := o
    rw [q] at c2 e
    cases dt with
    | func fd =>
      obtain ⟨n1, n2, n3, n4, n5, n6, n7, n8, n9, n10, n11, n12, n13, n14, n15⟩ := fd
      have e2 : (some (n1, n2, n3, n4, n5, n6, n7.map (·.1), n15) : FnZ) = (some (d.name, d.qual, defArgs d.st, .stmts (defBody d.st), defScope d.st, mainGlobals, (if d.cl = true then ["__class__"] else []), builtinsNs) : FnZ) := e
      rw [hc] at e2
      simp only [Option.some.injEq, Prod.mk.injEq] at e2
      obtain ⟨h1, h2, h3, h4, h5, h6, h7, h8⟩ := e2
      have h7' : n7 = [] := List.map_eq_nil_iff.mp h7
      subst h1 h2 h3 h4 h5 h6 h7' h8
      have c3 : (PySem.W.codeIn K n13 d.qual && isNon n8) = true := c2
      obtain ⟨k1, k2⟩ := ba c3
      cases isNon_ok k2
      exact ⟨oc, od, n9, n10, n11, n12, n13, n14, osl, rfl, k1, kp⟩
    | _ => cases c2
theorem IsZ.over {K : PySem.W.Frag} {d : DefZ} (I : IsZ K d) (hc : d.cl = true) : ∃ (oc : Value) (od : Option Addr) (kV doc pm : Value) (an : Option Addr) (cdv ct : Value) (osl : Array (Option Value)) (cc : Addr),
    K.lookup (d.at_ K) = some ⟨oc, od, .func (PySem.W.ksFn d.name d.qual (defArgs d.st) (defBody d.st) (defScope d.st) .none kV doc pm an cdv ct cc), osl⟩ ∧ PySem.W.codeIn K cdv d.qual = true ∧ PySem.W.keepIn K (.ref (d.at_ K)) = true := by
  obtain ⟨e, c⟩ := I
  obtain ⟨kp, c2⟩ := ba c
  unfold fnZ at e
  cases q : K.lookup (d.at_ K) with
  | none => rw [q] at c2; cases c2
  | some o =>
    obtain ⟨oc, od, dt, osl⟩ := o
    rw [q] at c2 e
    cases dt with
    | func fd =>
      obtain ⟨n1, n2, n3, n4, n5, n6, n7, n8, n9, n10, n11, n12, n13, n14, n15⟩ := fd
      have e2 : (some (n1, n2, n3, n4, n5, n6, n7.map (·.1), n15) : FnZ) = (some (d.name, d.qual, defArgs d.st, .stmts (defBody d.st), defScope d.st, mainGlobals, (if d.cl = true then ["__class__"] else []), builtinsNs) : FnZ) := e
      rw [hc] at e2
      simp only [Option.some.injEq, Prod.mk.injEq] at e2
      obtain ⟨h1, h2, h3, h4, h5, h6, h7, h8⟩ := e2
      have h7' : ∃ cc : Addr, n7 = [(("__class__" : Str), cc)] := by
        match n7, h7 with
        | [(x, cc)], h7 =>
          have hx : [x] = [("__class__" : Str)] := h7
          injection hx with hx _
          exact ⟨cc, by rw [hx]⟩
      obtain ⟨cc, h7'⟩ := h7'
      subst h1 h2 h3 h4 h5 h6 h7' h8
      have c3 : (PySem.W.codeIn K n13 d.qual && isNon n8) = true := c2
      obtain ⟨k1, k2⟩ := ba c3
      cases isNon_ok k2
      exact ⟨oc, od, n9, n10, n11, n12, n13, n14, osl, cc, rfl, k1, kp⟩
    | _ => cases c2
/-! ### the hook -/
def refZ (o : Obj) : List Addr := match o.data with
  | .func fd => refV fd.code ++ fd.closure.map (·.2)
  | .cls cd => [cd.ns]
  | .dict es _ => es.toList.flatMap fun e => refV e.val
  | .fields vs => (match o.cls with
    | .type t => if t = "classmethod" then vs.toList.flatMap refV else []
    | _ => [])
  | _ => []
def lvZ (g : Addr → Option Obj) (as : List Addr) : List Addr := as.flatMap fun a => match g a with
  | some o => refZ o
  | none => []
def asZ (g : Addr → Option Obj) : Nat → List Addr → List Addr
  | 0, as => as
  | n + 1, as => as ++ asZ g n (lvZ g as)
abbrev AlZ : Type := Bool × List FnZ
abbrev tfZ : List Defn := [("law", none)]
def obsZ (n : Nat) (fa : List Fa) (fn : List DefZ) (ex : PySem.W.Frag → Bool) (g : Addr → Option Obj) : AlZ :=
  let K := frT g (PySem.cStatics :: asZ g n [mainGlobals])
  (((fa.all fun f => f.ok K) && fn.all fun d => d.ok K) && (ex K && tabsB g tfZ K), fn.map fun d => fnZ K (d.at_ K))
def valZ (fn : List DefZ) : AlZ := (true, fn.map DefZ.val)
structure SaysZ (fa : List Fa) (fn : List DefZ) (ex : PySem.W.Frag → Bool) (h : Heap) (K : PySem.W.Frag) : Prop where
  fa_ : ∀ f ∈ fa, f.ok K = true
  fn_ : ∀ d ∈ fn, IsZ K d
  more : ex K = true
  hd : PySem.W.codeHdIn K (cT K ("law", none)).1 (cT K ("law", none)).2 = true
  out : K.lookup (cT K ("law", none)).2 = none
  empty : h.get? (cT K ("law", none)).2 = some { cls := .none, data := .fields #[] }
theorem map_eq_at {A B : Type} {f g : A → B} : ∀ {l : List A}, l.map f = l.map g → ∀ a ∈ l, f a = g a
  | x :: r, h, a, ha => by
    injection h with h1 h2
    rcases List.mem_cons.mp ha with rfl | ha
    · exact h1
    · exact map_eq_at h2 a ha
theorem saysZ_of {n : Nat} {fa : List Fa} {fn : List DefZ} {ex : PySem.W.Frag → Bool} {h : Heap} (e : obsZ n fa fn ex h.get? = valZ fn) : SaysZ fa fn ex h (frT h.get? (PySem.cStatics :: asZ h.get? n [mainGlobals])) := by
  have e1 := congrArg (fun z : AlZ => z.1) e
  have e2 := congrArg (fun z : AlZ => z.2) e
  dsimp only [obsZ, valZ] at e1 e2
  obtain ⟨h1, h2⟩ := ba e1
  obtain ⟨h3, h4⟩ := ba h1
  obtain ⟨h5, h6⟩ := ba h2
  obtain ⟨h7, h8⟩ := ba (List.all_eq_true.mp h6 ("law", none) (List.mem_singleton.mpr rfl))
  refine ⟨fun f hf => List.all_eq_true.mp h3 f hf, fun d hd => ⟨map_eq_at e2 d hd, List.all_eq_true.mp h4 d hd⟩, h5, h7, ?_, ?_⟩
  · cases q : h.get? (cT (frT h.get? (PySem.cStatics :: asZ h.get? n [mainGlobals])) ("law", none)).2 with
    | none => rw [q] at h8; cases h8
    | some o => rw [q] at h8; exact frT_none q h8
  · cases q : h.get? (cT (frT h.get? (PySem.cStatics :: asZ h.get? n [mainGlobals])) ("law", none)).2 with
    | none => rw [q] at h8; cases h8
    | some o => rw [q] at h8; rw [emptyTab_eq h8]
def hookZ (n : Nat) (fa : List Fa) (fn : List DefZ) (ex : PySem.W.Frag → Bool) : PySem.W.Hook where
  α := AlZ
  obs := fun s => obsZ n fa fn ex s.heap.get?
  val := fun _ => valZ fn
  says := fun _ h => ∃ K : PySem.W.Frag, K.In h ∧ SaysZ fa fn ex h K
  of := fun _ _ e => ⟨_, frT_in, saysZ_of e⟩
  keeps := fun _ _ _ ⟨K, hK, c⟩ k => ⟨K, PySem.W.Frag.In.keeps hK k, ⟨c.fa_, c.fn_, c.more, c.hd, c.out, k _ _ c.empty⟩⟩
theorem obsZ_eq {n : Nat} {fa : List Fa} {fn : List DefZ} {ex : PySem.W.Frag → Bool} {g : Addr → Option Obj} {s : Shared} (h : ∀ a, g a = s.heap.get? a) : obsZ n fa fn ex g = (hookZ n fa fn ex).obs s := by
  have e : g = s.heap.get? := funext h
  rw [e] <;> rfl
/-! ### this program's -/
def hGM (K : PySem.W.Frag) : Addr := ma K (ga K "Member") "__init__"
def hGO (K : PySem.W.Frag) : Addr := He5.wf K (ga K "House") "classmethod" "of"
def hZ (K : PySem.W.Frag) : Ad := ⟨ga K "File", ga K "Sparse", ga K "Directory", ga K "Symlink", ga K "House"⟩
def conZ (K : PySem.W.Frag) (C : Addr) (kd : Str) : Bool := match PySem.W.findIn K (.ref C) "KIND" with
  | some (some (.str y t)) => decide (y = kd) && eqO (PySem.W.specialIn K (.str y t) "__get__") (some none)
  | _ => false
theorem conZ_ok {K : PySem.W.Frag} {C : Addr} {kd : Str} (h : conZ K C kd = true) : ∃ u, Con K C "KIND" (.str kd) u := by
  unfold conZ at h
  split at h
  · rename_i y t e
    obtain ⟨h1, h2⟩ := ba h
    have h3 := of_decide_eq_true h1
    subst h3
    exact ⟨_, e, ⟨t, rfl⟩, eqO_ok h2, by decide +kernel⟩
  · cases h
def supZ (K : PySem.W.Frag) (P : Program) (C : Addr) : Bool :=
  (PySem.W.clsIn K C).isSome && (decide (PySem.W.mroIn K C (.ref C) = some true) && (eqO (PySem.W.ks_superIn K C C "__init__") (some (some (.ref (hGM K)))) &&
  (match K.lookup (ma K C "__init__") with
  | some ⟨_, _, .func fd, _⟩ => (match fd.closure with
    | [(_, cc)] => (match K.lookup cc with
      | some ⟨_, _, .cell (some (.ref D)), _⟩ => decide (D = C)
      | _ => false)
    | _ => false) && (match fd.code with
    | .ref c => (match K.lookup c with
      | some ⟨_, _, .fields vs, _⟩ => (match (vs[2]? : Option Value) with
        | some (.str file _) => (P.main.file : Str) == file
        | _ => false)
      | _ => false)
    | _ => false)
  | _ => false)))
theorem supZ_ok {K : PySem.W.Frag} {P : Program} {mg : Str → Option Value} {x : Str} {qual : Str} {st : Stmt} (h : supZ K P (ga K x) = true) (hm : mg x = some (.ref (ga K x))) (mk : Mk K (ga K x) (ma K (ga K x) "__init__")) (I : IsZ K ⟨fun K => ma K (ga K x) "__init__", "__init__", qual, st, true⟩)
    (hst : PySem.W.nsIn K PySem.cStatics "thirdparty.any" = some none) (hty : PySem.W.typeIn K (.ref (hGM K)) = some (.type "function")) (hfn : PySem.W.fnIn K (hGM K) = true) (htop : (P.main.scope.names.lookup ("super" : Str)).isSome = false) : SupX P K mg x (ga K x) (hGM K) qual st := by
  obtain ⟨oc, od, kV, doc, pm, an, cdv, ct, osl, cc, lk, hcd, kp⟩ := I.over rfl
  obtain ⟨h1, h⟩ := ba h
  obtain ⟨h2, h⟩ := ba h
  obtain ⟨h3, h⟩ := ba h
  have lk' : K.lookup (ma K (ga K x) "__init__") = some ⟨oc, od, .func (PySem.W.ksFn "__init__" qual (defArgs st) (defBody st) (defScope st) .none kV doc pm an cdv ct cc), osl⟩ := lk
  rw [lk'] at h
  obtain ⟨h4, h5⟩ := ba h
  obtain ⟨cda, rfl⟩ := codeIn_ref hcd
  have h4' : (match K.lookup cc with
      | some ⟨_, _, .cell (some (.ref D)), _⟩ => decide (D = ga K x)
      | _ => false) = true := h4
  have h5' : (match K.lookup cda with
      | some ⟨_, _, .fields vs, _⟩ => (match (vs[2]? : Option Value) with
        | some (.str file _) => (P.main.file : Str) == file
        | _ => false)
      | _ => false) = true := h5
  have hcell : ∃ ccl ccd ccs, K.lookup cc = some ⟨ccl, ccd, .cell (some (.ref (ga K x))), ccs⟩ := by
    split at h4'
    · rename_i a b D c e
      have e2 := of_decide_eq_true h4'
      rw [e2] at e
      exact ⟨a, b, c, e⟩
    · cases h4'
  have hfile : CodeFile K P cda := by
    split at h5'
    · rename_i a b vs c e
      split at h5'
      · rename_i file t e2
        exact ⟨a, b, c, vs, file, t, e, e2, h5'⟩
      · cases h5'
    · cases h5'
  obtain ⟨ccl, ccd, ccs, hcc⟩ := hcell
  exact ⟨⟨_, cc, cda, kV, doc, pm, ct, oc, ccl, an, od, ccd, osl, ccs, mk, hm, lk', hcd, hcc, hfile⟩, Option.isSome_iff_exists.mp h1, of_decide_eq_true h2, hst, eqO_ok h3, hty, hfn, htop⟩
theorem IsZ.funW {K : PySem.W.Frag} {d : DefZ} (I : IsZ K d) (hc : d.cl = false) : ∃ fd, L2.Fun K d.name d.qual d.st (d.at_ K) fd := by
  obtain ⟨oc, od, kV, doc, pm, an, cdv, ct, osl, lk, hcd, kp⟩ := I.plain hc
  exact ⟨_, ⟨oc, od, kV, doc, pm, an, cdv, ct, osl, rfl, lk, hcd⟩, kp⟩

end L2.K88

end
/-! K88Z3 -/
section
set_option Elab.async false
set_option linter.all false
set_option maxRecDepth 100000
set_option maxHeartbeats 1000000
namespace L2.K88
open PySem PySem.Spec PyProof.Rows He
abbrev z_is_integer : DefZ := ⟨fun K => ga K "is_integer", "is_integer", "is_integer", sIsInt, false⟩
abbrev z_is_within : DefZ := ⟨fun K => ga K "is_within", "is_within", "is_within", sWithin, false⟩
abbrev z_blob : DefZ := ⟨fun K => ga K "blob", "blob", "blob", sBlob, false⟩
abbrev z_is_name : DefZ := ⟨fun K => ga K "is_name", "is_name", "is_name", sIsName, false⟩
abbrev z_is_path : DefZ := ⟨fun K => ga K "is_path", "is_path", "is_path", sIsPath, false⟩
abbrev z_look_name : DefZ := ⟨fun K => ga K "look_name", "look_name", "look_name", sLookName, false⟩
abbrev z_look_stamps : DefZ := ⟨fun K => ga K "look_stamps", "look_stamps", "look_stamps", sLookStamps, false⟩
abbrev z_is_piece : DefZ := ⟨fun K => ga K "is_piece", "is_piece", "is_piece", sIsPiece, false⟩
abbrev z_are_spans : DefZ := ⟨fun K => ga K "are_spans", "are_spans", "are_spans", sSpans, false⟩
abbrev z_are_pieces : DefZ := ⟨fun K => ga K "are_pieces", "are_pieces", "are_pieces", sPieces, false⟩
abbrev z_above : DefZ := ⟨fun K => ga K "above", "above", "above", sAbove, false⟩
abbrev z_are_stamps : DefZ := ⟨fun K => ga K "are_stamps", "are_stamps", "are_stamps", sStamps, false⟩
abbrev z_is_thing : DefZ := ⟨fun K => ga K "is_thing", "is_thing", "is_thing", sIsThing, false⟩
abbrev z_is_entry : DefZ := ⟨fun K => ga K "is_entry", "is_entry", "is_entry", sIsEntry, false⟩
abbrev z_one_house : DefZ := ⟨fun K => ga K "are_of_one_house", "are_of_one_house", "are_of_one_house", sOneHouse, false⟩
abbrev z_refusal_at : DefZ := ⟨fun K => ga K "refusal_at", "refusal_at", "refusal_at", sRefAt, false⟩
abbrev z_refusal : DefZ := ⟨fun K => ga K "refusal", "refusal", "refusal", sRefusal, false⟩
abbrev z_put_at : DefZ := ⟨fun K => ga K "put_at", "put_at", "put_at", sPutAt, false⟩
abbrev z_put_member : DefZ := ⟨fun K => ga K "put_member", "put_member", "put_member", sPutM, false⟩
abbrev z_unpack_one : DefZ := ⟨fun K => ga K "unpack_one", "unpack_one", "unpack_one", sUnOne, false⟩
abbrev z_unpacked : DefZ := ⟨fun K => ga K "unpacked", "unpacked", "unpacked", sUnp, false⟩
abbrev z_source : DefZ := ⟨fun K => ga K "_law_source", "_law_source", "_law_source", sSource, false⟩
abbrev z_draw : DefZ := ⟨fun K => ga K "_law_draw", "_law_draw", "_law_draw", sDraw, false⟩
abbrev z_path : DefZ := ⟨fun K => ga K "_law_path", "_law_path", "_law_path", sPath, false⟩
abbrev z_nums : DefZ := ⟨fun K => ga K "_law_numbers", "_law_numbers", "_law_numbers", sNums, false⟩
abbrev z_lstamps : DefZ := ⟨fun K => ga K "_law_stamps", "_law_stamps", "_law_stamps", sLStamps, false⟩
abbrev z_lpieces : DefZ := ⟨fun K => ga K "_law_pieces", "_law_pieces", "_law_pieces", sLPieces, false⟩
abbrev z_lspec : DefZ := ⟨fun K => ga K "_law_spec", "_law_spec", "_law_spec", sLSpec, false⟩
abbrev z_specs : DefZ := ⟨fun K => ga K "_law_specs", "_law_specs", "_law_specs", sSpecs, false⟩
abbrev z_tree : DefZ := ⟨fun K => ga K "_law_tree", "_law_tree", "_law_tree", sTree, false⟩
abbrev z_lcopied : DefZ := ⟨fun K => ga K "_law_copied", "_law_copied", "_law_copied", sLCopied, false⟩
abbrev z_lkind : DefZ := ⟨fun K => ga K "_law_kind", "_law_kind", "_law_kind", sLKind, false⟩
abbrev z_lis_path : DefZ := ⟨fun K => ga K "_law_is_path", "_law_is_path", "_law_is_path", sLIsPath, false⟩
abbrev z_labove : DefZ := ⟨fun K => ga K "_law_above", "_law_above", "_law_above", sLAbove, false⟩
abbrev z_lword : DefZ := ⟨fun K => ga K "_law_word", "_law_word", "_law_word", sLWord, false⟩
abbrev z_lcontent : DefZ := ⟨fun K => ga K "_law_content", "_law_content", "_law_content", sLContent, false⟩
abbrev z_lstepped : DefZ := ⟨fun K => ga K "_law_stepped", "_law_stepped", "_law_stepped", sLStepped, false⟩
abbrev z_lentries : DefZ := ⟨fun K => ga K "_law_entries", "_law_entries", "_law_entries", sLEntries, false⟩
abbrev z_tree_of : DefZ := ⟨fun K => ga K "_law_tree_of", "_law_tree_of", "_law_tree_of", sTreeOf, false⟩
abbrev z_good : DefZ := ⟨fun K => ga K "_law_good", "_law_good", "_law_good", sGood, false⟩
abbrev z_made : DefZ := ⟨fun K => ga K "_law_made", "_law_made", "_law_made", sMade, false⟩
abbrev z_hidden : DefZ := ⟨fun K => ga K "_law_hidden", "_law_hidden", "_law_hidden", sHidden, false⟩
abbrev z_hinit : DefZ := ⟨fun K => ma K (ga K "House") "__init__", "__init__", "House.__init__", sHI, false⟩
abbrev z_hset : DefZ := ⟨fun K => ma K (ga K "House") "set_thing", "set_thing", "House.set_thing", sHSet, false⟩
abbrev z_hshare : DefZ := ⟨fun K => ma K (ga K "House") "share", "share", "House.share", sHShare, false⟩
abbrev z_hhas : DefZ := ⟨fun K => ma K (ga K "House") "has", "has", "House.has", sHHas, false⟩
abbrev z_hkind : DefZ := ⟨fun K => ma K (ga K "House") "kind_at", "kind_at", "House.kind_at", sHKind, false⟩
abbrev z_hsettle : DefZ := ⟨fun K => ma K (ga K "House") "settle", "settle", "House.settle", sHSettle, false⟩
abbrev z_hcopied : DefZ := ⟨fun K => ma K (ga K "House") "copied", "copied", "House.copied", sHCopied, false⟩
abbrev z_heq : DefZ := ⟨fun K => ma K (ga K "House") "__eq__", "__eq__", "House.__eq__", sHEq, false⟩
abbrev z_fcon : DefZ := ⟨fun K => ma K (ga K "File") "content", "content", "File.content", sFileC, false⟩
abbrev z_scon : DefZ := ⟨fun K => ma K (ga K "Sparse") "content", "content", "Sparse.content", sSpaC, false⟩
abbrev z_mem : DefZ := ⟨hGM, "__init__", "Member.__init__", sMI, false⟩
abbrev z_hof : DefZ := ⟨hGO, "of", "House.of", sHOf, false⟩
abbrev z_told : DefZ := ⟨fun K => ga K "_law_told", "_law_told", "_law_told", sTold, false⟩
abbrev z_law : DefZ := ⟨fun K => ga K "law", "law", "law", sLaw, false⟩
abbrev z_iFile : DefZ := ⟨fun K => ma K (ga K "File") "__init__", "__init__", "File.__init__", sFileI, true⟩
abbrev z_iDirectory : DefZ := ⟨fun K => ma K (ga K "Directory") "__init__", "__init__", "Directory.__init__", sDirI, true⟩
abbrev z_iSymlink : DefZ := ⟨fun K => ma K (ga K "Symlink") "__init__", "__init__", "Symlink.__init__", sSymI, true⟩
abbrev z_iSparse : DefZ := ⟨fun K => ma K (ga K "Sparse") "__init__", "__init__", "Sparse.__init__", sSpaI, true⟩
def fnL : List DefZ := [z_is_integer, z_is_within, z_blob, z_is_name, z_is_path, z_look_name, z_look_stamps, z_is_piece, z_are_spans, z_are_pieces, z_above, z_are_stamps, z_is_thing, z_is_entry, z_one_house, z_refusal_at, z_refusal, z_put_at, z_put_member, z_unpack_one, z_unpacked, z_source, z_draw, z_path, z_nums, z_lstamps, z_lpieces, z_lspec, z_specs, z_tree, z_lcopied, z_lkind, z_lis_path, z_labove, z_lword, z_lcontent, z_lstepped, z_lentries, z_tree_of, z_good, z_made, z_hidden, z_hinit, z_hset, z_hshare, z_hhas, z_hkind, z_hsettle, z_hcopied, z_heq, z_fcon, z_scon, z_mem, z_hof, z_told, z_law, z_iFile, z_iDirectory, z_iSymlink, z_iSparse]
def faL : List Fa := [.glo "is_integer", .glo "is_within", .glo "blob", .glo "is_name", .glo "is_path", .glo "look_name", .glo "look_stamps", .glo "is_piece", .glo "are_spans", .glo "are_pieces", .glo "above", .glo "are_stamps", .glo "is_thing", .glo "is_entry", .glo "are_of_one_house", .glo "refusal_at", .glo "refusal", .glo "put_at", .glo "put_member", .glo "unpack_one", .glo "unpacked", .glo "_law_source", .glo "_law_draw", .glo "_law_path", .glo "_law_numbers", .glo "_law_stamps", .glo "_law_pieces", .glo "_law_spec", .glo "_law_specs", .glo "_law_tree", .glo "_law_copied", .glo "_law_kind", .glo "_law_is_path", .glo "_law_above", .glo "_law_word", .glo "_law_content", .glo "_law_stepped", .glo "_law_entries", .glo "_law_tree_of", .glo "_law_good", .glo "_law_made", .glo "_law_hidden", .glo "File", .glo "Directory", .glo "Symlink", .glo "Sparse", .glo "House", .glo "Refused", .glo "MADE", .glo "_law_told", .glo "law", .free "isinstance", .free "int", .free "bool", .free "list", .free "tuple", .free "str", .free "bytes", .free "dict", .free "all", .free "any", .free "len", .free "range", .free "sorted", .free "enumerate", .free "abs", .free "max", .free "min", .free "super", .int "MOST_NAME" 250, .int "MOST_DATA" 4096, .int "MOST_PIECES" 50, .int "MOST_MODE" 4095, .int "MOST_TIME" 8589934591, .str "LETTERS" letS, .cls "File", .cls "Directory", .cls "Symlink", .cls "Sparse", .cls "House", .noat "File" "name", .noat "File" "mode", .noat "File" "time", .noat "File" "key", .noat "File" "data", .noat "File" "size", .noat "File" "pieces", .noat "File" "target", .noat "Directory" "name", .noat "Directory" "mode", .noat "Directory" "time", .noat "Directory" "key", .noat "Directory" "data", .noat "Directory" "size", .noat "Directory" "pieces", .noat "Directory" "target", .noat "Symlink" "name", .noat "Symlink" "mode", .noat "Symlink" "time", .noat "Symlink" "key", .noat "Symlink" "data", .noat "Symlink" "size", .noat "Symlink" "pieces", .noat "Symlink" "target", .noat "Sparse" "name", .noat "Sparse" "mode", .noat "Sparse" "time", .noat "Sparse" "key", .noat "Sparse" "data", .noat "Sparse" "size", .noat "Sparse" "pieces", .noat "Sparse" "target", .noat "House" "standing", .noat "House" "files", .noat "House" "rows", .mkr "File", .mkr "Directory", .mkr "Symlink", .mkr "Sparse", .mkr "House", .meth "House" "__init__", .meth "House" "set_thing", .meth "House" "share", .meth "House" "has", .meth "House" "kind_at", .meth "House" "settle", .meth "House" "copied", .meth "House" "__eq__", .meth "File" "content", .meth "Sparse" "content"]
def exB (P : Program) (K : PySem.W.Frag) : Bool :=
  (eqO (PySem.W.nsIn K PySem.cStatics "thirdparty.any") (some none) && (decide (PySem.W.typeIn K (.ref (hGM K)) = some (.type "function")) && PySem.W.fnIn K (hGM K))) &&
  ((supZ K P (ga K "File") && (supZ K P (ga K "Directory") && (supZ K P (ga K "Symlink") && supZ K P (ga K "Sparse")))) &&
  ((conZ K (ga K "File") "file" && (conZ K (ga K "Directory") "directory" && (conZ K (ga K "Symlink") "symlink" && conZ K (ga K "Sparse") "sparse"))) &&
  ((eqO (PySem.W.findIn K (.ref (ga K "House")) "__class__") (some (some (.builtin "object.__class__"))) && (eqO (PySem.W.specialIn K (.builtin "object.__class__") "__get__") (some (some (.builtin "getset_descriptor.__get__"))) && (decide (PySem.W.takesIn K (.builtin "object.__class__") = some true) &&
    (decide (PySem.W.mroIn K (ga K "House") (.type "object") = some true) && decide (PySem.W.kitOne K (.ref (ga K "House")) (.ref (ga K "House")) = some true))))) &&
  ((eqO (PySem.W.findIn K (.ref (ga K "House")) "__ne__") (some (some (.builtin "object.__ne__"))) && (PySem.W.readsIn K (ga K "House") (.type "type") && (eqO (PySem.W.specialIn K (.ref (ga K "House")) "__getattribute__") (some (some (.builtin "type.__getattribute__"))) &&
    (He5.wrapB K (ga K "House") "classmethod" "classmethod.__get__" "of" && PySem.W.fnIn K (hGO K))))) && tupB K "MADE" [.str "directory", .int 493, .int 0]))))
abbrev Pg : Program := (PySem.Challenge.rw_tarhouse_k88_whole_unpacked_twice).prog
theorem allF {K : PySem.W.Frag} {h : Heap} {mg : Str → Option Value} (X : K.In h) (G : h.Ns mainGlobals mg) (c : SaysZ faL fnL (exB Pg) h K) (htop : (Pg.main.scope.names.lookup ("super" : Str)).isSome = false) :
    AllF Pg K mg (hZ K) (hGM K) (ma K (ga K "House") "of") (hGO K) (.type "type") := by
  have hx := c.more
  unfold exB at hx
  obtain ⟨a1, hx⟩ := ba hx
  obtain ⟨a2, hx⟩ := ba hx
  obtain ⟨a3, hx⟩ := ba hx
  obtain ⟨a4, hx⟩ := ba hx
  obtain ⟨a5, a6⟩ := ba hx
  obtain ⟨st, a1⟩ := ba a1
  obtain ⟨ty, fn⟩ := ba a1
  obtain ⟨s1, a2⟩ := ba a2
  obtain ⟨s2, a2⟩ := ba a2
  obtain ⟨s3, s4⟩ := ba a2
  obtain ⟨k1, a3⟩ := ba a3
  obtain ⟨k2, a3⟩ := ba a3
  obtain ⟨k3, k4⟩ := ba a3
  obtain ⟨i1, a4⟩ := ba a4
  obtain ⟨i2, a4⟩ := ba a4
  obtain ⟨i3, a4⟩ := ba a4
  obtain ⟨i4, i5⟩ := ba a4
  obtain ⟨n1, a5⟩ := ba a5
  obtain ⟨n2, a5⟩ := ba a5
  obtain ⟨n3, a5⟩ := ba a5
  obtain ⟨n4, n5⟩ := ba a5
  have st' := eqO_ok st
  have ty' := of_decide_eq_true ty
  obtain ⟨t0, e0⟩ := str_ok X G (c.fa_ (.str "LETTERS" letS) (List.mem_of_getElem? (i := 74) rfl))
  obtain ⟨t1, e1⟩ := int_ok X G (c.fa_ (.int "MOST_NAME" 250) (List.mem_of_getElem? (i := 69) rfl))
  obtain ⟨t2, e2⟩ := int_ok X G (c.fa_ (.int "MOST_DATA" 4096) (List.mem_of_getElem? (i := 70) rfl))
  obtain ⟨t3, e3⟩ := int_ok X G (c.fa_ (.int "MOST_PIECES" 50) (List.mem_of_getElem? (i := 71) rfl))
  obtain ⟨t4, e4⟩ := int_ok X G (c.fa_ (.int "MOST_MODE" 4095) (List.mem_of_getElem? (i := 72) rfl))
  obtain ⟨t5, e5⟩ := int_ok X G (c.fa_ (.int "MOST_TIME" 8589934591) (List.mem_of_getElem? (i := 73) rfl))
  obtain ⟨qoc, qod, qkV, qdoc, qpm, qan, qcdv, qct, qosl, qlk, qcd, qkp⟩ := IsZ.plain (c.fn_ z_told (List.mem_of_getElem? (i := 54) rfl)) rfl
  obtain ⟨fdO, FO⟩ := IsZ.funW (c.fn_ z_hof (List.mem_of_getElem? (i := 53) rfl)) rfl
  obtain ⟨fd_is_integer, F_is_integer⟩ := IsZ.funW (c.fn_ z_is_integer (List.mem_of_getElem? (i := 0) rfl)) rfl
  obtain ⟨fd_is_within, F_is_within⟩ := IsZ.funW (c.fn_ z_is_within (List.mem_of_getElem? (i := 1) rfl)) rfl
  obtain ⟨fd_blob, F_blob⟩ := IsZ.funW (c.fn_ z_blob (List.mem_of_getElem? (i := 2) rfl)) rfl
  obtain ⟨fd_is_name, F_is_name⟩ := IsZ.funW (c.fn_ z_is_name (List.mem_of_getElem? (i := 3) rfl)) rfl
  obtain ⟨fd_is_path, F_is_path⟩ := IsZ.funW (c.fn_ z_is_path (List.mem_of_getElem? (i := 4) rfl)) rfl
  obtain ⟨fd_look_name, F_look_name⟩ := IsZ.funW (c.fn_ z_look_name (List.mem_of_getElem? (i := 5) rfl)) rfl
  obtain ⟨fd_look_stamps, F_look_stamps⟩ := IsZ.funW (c.fn_ z_look_stamps (List.mem_of_getElem? (i := 6) rfl)) rfl
  obtain ⟨fd_is_piece, F_is_piece⟩ := IsZ.funW (c.fn_ z_is_piece (List.mem_of_getElem? (i := 7) rfl)) rfl
  obtain ⟨fd_are_spans, F_are_spans⟩ := IsZ.funW (c.fn_ z_are_spans (List.mem_of_getElem? (i := 8) rfl)) rfl
  obtain ⟨fd_are_pieces, F_are_pieces⟩ := IsZ.funW (c.fn_ z_are_pieces (List.mem_of_getElem? (i := 9) rfl)) rfl
  obtain ⟨fd_above, F_above⟩ := IsZ.funW (c.fn_ z_above (List.mem_of_getElem? (i := 10) rfl)) rfl
  obtain ⟨fd_are_stamps, F_are_stamps⟩ := IsZ.funW (c.fn_ z_are_stamps (List.mem_of_getElem? (i := 11) rfl)) rfl
  obtain ⟨fd_is_thing, F_is_thing⟩ := IsZ.funW (c.fn_ z_is_thing (List.mem_of_getElem? (i := 12) rfl)) rfl
  obtain ⟨fd_is_entry, F_is_entry⟩ := IsZ.funW (c.fn_ z_is_entry (List.mem_of_getElem? (i := 13) rfl)) rfl
  obtain ⟨fd_one_house, F_one_house⟩ := IsZ.funW (c.fn_ z_one_house (List.mem_of_getElem? (i := 14) rfl)) rfl
  obtain ⟨fd_refusal_at, F_refusal_at⟩ := IsZ.funW (c.fn_ z_refusal_at (List.mem_of_getElem? (i := 15) rfl)) rfl
  obtain ⟨fd_refusal, F_refusal⟩ := IsZ.funW (c.fn_ z_refusal (List.mem_of_getElem? (i := 16) rfl)) rfl
  obtain ⟨fd_put_at, F_put_at⟩ := IsZ.funW (c.fn_ z_put_at (List.mem_of_getElem? (i := 17) rfl)) rfl
  obtain ⟨fd_put_member, F_put_member⟩ := IsZ.funW (c.fn_ z_put_member (List.mem_of_getElem? (i := 18) rfl)) rfl
  obtain ⟨fd_unpack_one, F_unpack_one⟩ := IsZ.funW (c.fn_ z_unpack_one (List.mem_of_getElem? (i := 19) rfl)) rfl
  obtain ⟨fd_unpacked, F_unpacked⟩ := IsZ.funW (c.fn_ z_unpacked (List.mem_of_getElem? (i := 20) rfl)) rfl
  obtain ⟨fd_source, F_source⟩ := IsZ.funW (c.fn_ z_source (List.mem_of_getElem? (i := 21) rfl)) rfl
  obtain ⟨fd_draw, F_draw⟩ := IsZ.funW (c.fn_ z_draw (List.mem_of_getElem? (i := 22) rfl)) rfl
  obtain ⟨fd_path, F_path⟩ := IsZ.funW (c.fn_ z_path (List.mem_of_getElem? (i := 23) rfl)) rfl
  obtain ⟨fd_nums, F_nums⟩ := IsZ.funW (c.fn_ z_nums (List.mem_of_getElem? (i := 24) rfl)) rfl
  obtain ⟨fd_lstamps, F_lstamps⟩ := IsZ.funW (c.fn_ z_lstamps (List.mem_of_getElem? (i := 25) rfl)) rfl
  obtain ⟨fd_lpieces, F_lpieces⟩ := IsZ.funW (c.fn_ z_lpieces (List.mem_of_getElem? (i := 26) rfl)) rfl
  obtain ⟨fd_lspec, F_lspec⟩ := IsZ.funW (c.fn_ z_lspec (List.mem_of_getElem? (i := 27) rfl)) rfl
  obtain ⟨fd_specs, F_specs⟩ := IsZ.funW (c.fn_ z_specs (List.mem_of_getElem? (i := 28) rfl)) rfl
  obtain ⟨fd_tree, F_tree⟩ := IsZ.funW (c.fn_ z_tree (List.mem_of_getElem? (i := 29) rfl)) rfl
  obtain ⟨fd_lcopied, F_lcopied⟩ := IsZ.funW (c.fn_ z_lcopied (List.mem_of_getElem? (i := 30) rfl)) rfl
  obtain ⟨fd_lkind, F_lkind⟩ := IsZ.funW (c.fn_ z_lkind (List.mem_of_getElem? (i := 31) rfl)) rfl
  obtain ⟨fd_lis_path, F_lis_path⟩ := IsZ.funW (c.fn_ z_lis_path (List.mem_of_getElem? (i := 32) rfl)) rfl
  obtain ⟨fd_labove, F_labove⟩ := IsZ.funW (c.fn_ z_labove (List.mem_of_getElem? (i := 33) rfl)) rfl
  obtain ⟨fd_lword, F_lword⟩ := IsZ.funW (c.fn_ z_lword (List.mem_of_getElem? (i := 34) rfl)) rfl
  obtain ⟨fd_lcontent, F_lcontent⟩ := IsZ.funW (c.fn_ z_lcontent (List.mem_of_getElem? (i := 35) rfl)) rfl
  obtain ⟨fd_lstepped, F_lstepped⟩ := IsZ.funW (c.fn_ z_lstepped (List.mem_of_getElem? (i := 36) rfl)) rfl
  obtain ⟨fd_lentries, F_lentries⟩ := IsZ.funW (c.fn_ z_lentries (List.mem_of_getElem? (i := 37) rfl)) rfl
  obtain ⟨fd_tree_of, F_tree_of⟩ := IsZ.funW (c.fn_ z_tree_of (List.mem_of_getElem? (i := 38) rfl)) rfl
  obtain ⟨fd_good, F_good⟩ := IsZ.funW (c.fn_ z_good (List.mem_of_getElem? (i := 39) rfl)) rfl
  obtain ⟨fd_made, F_made⟩ := IsZ.funW (c.fn_ z_made (List.mem_of_getElem? (i := 40) rfl)) rfl
  obtain ⟨fd_hidden, F_hidden⟩ := IsZ.funW (c.fn_ z_hidden (List.mem_of_getElem? (i := 41) rfl)) rfl
  obtain ⟨fd_hinit, F_hinit⟩ := IsZ.funW (c.fn_ z_hinit (List.mem_of_getElem? (i := 42) rfl)) rfl
  obtain ⟨fd_hset, F_hset⟩ := IsZ.funW (c.fn_ z_hset (List.mem_of_getElem? (i := 43) rfl)) rfl
  obtain ⟨fd_hshare, F_hshare⟩ := IsZ.funW (c.fn_ z_hshare (List.mem_of_getElem? (i := 44) rfl)) rfl
  obtain ⟨fd_hhas, F_hhas⟩ := IsZ.funW (c.fn_ z_hhas (List.mem_of_getElem? (i := 45) rfl)) rfl
  obtain ⟨fd_hkind, F_hkind⟩ := IsZ.funW (c.fn_ z_hkind (List.mem_of_getElem? (i := 46) rfl)) rfl
  obtain ⟨fd_hsettle, F_hsettle⟩ := IsZ.funW (c.fn_ z_hsettle (List.mem_of_getElem? (i := 47) rfl)) rfl
  obtain ⟨fd_hcopied, F_hcopied⟩ := IsZ.funW (c.fn_ z_hcopied (List.mem_of_getElem? (i := 48) rfl)) rfl
  obtain ⟨fd_heq, F_heq⟩ := IsZ.funW (c.fn_ z_heq (List.mem_of_getElem? (i := 49) rfl)) rfl
  obtain ⟨fd_fcon, F_fcon⟩ := IsZ.funW (c.fn_ z_fcon (List.mem_of_getElem? (i := 50) rfl)) rfl
  obtain ⟨fd_scon, F_scon⟩ := IsZ.funW (c.fn_ z_scon (List.mem_of_getElem? (i := 51) rfl)) rfl
  exact {
    B := ⟨free_ok X G (c.fa_ (.free "isinstance") (List.mem_of_getElem? (i := 51) rfl)), free_ok X G (c.fa_ (.free "int") (List.mem_of_getElem? (i := 52) rfl)), free_ok X G (c.fa_ (.free "bool") (List.mem_of_getElem? (i := 53) rfl)), free_ok X G (c.fa_ (.free "list") (List.mem_of_getElem? (i := 54) rfl)), free_ok X G (c.fa_ (.free "tuple") (List.mem_of_getElem? (i := 55) rfl)), free_ok X G (c.fa_ (.free "str") (List.mem_of_getElem? (i := 56) rfl)), free_ok X G (c.fa_ (.free "bytes") (List.mem_of_getElem? (i := 57) rfl)), free_ok X G (c.fa_ (.free "dict") (List.mem_of_getElem? (i := 58) rfl)), free_ok X G (c.fa_ (.free "all") (List.mem_of_getElem? (i := 59) rfl)), free_ok X G (c.fa_ (.free "any") (List.mem_of_getElem? (i := 60) rfl)), free_ok X G (c.fa_ (.free "len") (List.mem_of_getElem? (i := 61) rfl)), free_ok X G (c.fa_ (.free "range") (List.mem_of_getElem? (i := 62) rfl)), free_ok X G (c.fa_ (.free "sorted") (List.mem_of_getElem? (i := 63) rfl)), free_ok X G (c.fa_ (.free "enumerate") (List.mem_of_getElem? (i := 64) rfl)), free_ok X G (c.fa_ (.free "abs") (List.mem_of_getElem? (i := 65) rfl)), free_ok X G (c.fa_ (.free "max") (List.mem_of_getElem? (i := 66) rfl)), free_ok X G (c.fa_ (.free "min") (List.mem_of_getElem? (i := 67) rfl)), free_ok X G (c.fa_ (.free "super") (List.mem_of_getElem? (i := 68) rfl))⟩,
    T := ⟨⟨_, e0, t0, rfl⟩, ⟨_, e1, t1, rfl⟩, ⟨_, e2, t2, rfl⟩, ⟨_, e3, t3, rfl⟩, ⟨_, e4, t4, rfl⟩, ⟨_, e5, t5, rfl⟩⟩,
    Md := ⟨_, (glo_ok X G (c.fa_ (.glo "MADE") (List.mem_of_getElem? (i := 48) rfl))), fun H => tupB_ok a6 H⟩,
    TD := ⟨⟨_, qkV, qdoc, qpm, qcdv, qct, qoc, qan, qod, qosl, (glo_ok X G (c.fa_ (.glo "_law_told") (List.mem_of_getElem? (i := 49) rfl))), qkp, qlk, qcd⟩, ⟨_, (glo_ok X G (c.fa_ (.glo "Refused") (List.mem_of_getElem? (i := 47) rfl)))⟩⟩,
    zF := ⟨⟨cls_ok (c.fa_ (.cls "File") (List.mem_of_getElem? (i := 75) rfl)), noat_ok (c.fa_ (.noat "File" "name") (List.mem_of_getElem? (i := 80) rfl)), noat_ok (c.fa_ (.noat "File" "mode") (List.mem_of_getElem? (i := 81) rfl)), noat_ok (c.fa_ (.noat "File" "time") (List.mem_of_getElem? (i := 82) rfl)), noat_ok (c.fa_ (.noat "File" "key") (List.mem_of_getElem? (i := 83) rfl)), noat_ok (c.fa_ (.noat "File" "data") (List.mem_of_getElem? (i := 84) rfl)), noat_ok (c.fa_ (.noat "File" "size") (List.mem_of_getElem? (i := 85) rfl)), noat_ok (c.fa_ (.noat "File" "pieces") (List.mem_of_getElem? (i := 86) rfl)), noat_ok (c.fa_ (.noat "File" "target") (List.mem_of_getElem? (i := 87) rfl)), conZ_ok k1⟩, ⟨cls_ok (c.fa_ (.cls "Sparse") (List.mem_of_getElem? (i := 78) rfl)), noat_ok (c.fa_ (.noat "Sparse" "name") (List.mem_of_getElem? (i := 104) rfl)), noat_ok (c.fa_ (.noat "Sparse" "mode") (List.mem_of_getElem? (i := 105) rfl)), noat_ok (c.fa_ (.noat "Sparse" "time") (List.mem_of_getElem? (i := 106) rfl)), noat_ok (c.fa_ (.noat "Sparse" "key") (List.mem_of_getElem? (i := 107) rfl)), noat_ok (c.fa_ (.noat "Sparse" "data") (List.mem_of_getElem? (i := 108) rfl)), noat_ok (c.fa_ (.noat "Sparse" "size") (List.mem_of_getElem? (i := 109) rfl)), noat_ok (c.fa_ (.noat "Sparse" "pieces") (List.mem_of_getElem? (i := 110) rfl)), noat_ok (c.fa_ (.noat "Sparse" "target") (List.mem_of_getElem? (i := 111) rfl)), conZ_ok k4⟩, ⟨cls_ok (c.fa_ (.cls "Directory") (List.mem_of_getElem? (i := 76) rfl)), noat_ok (c.fa_ (.noat "Directory" "name") (List.mem_of_getElem? (i := 88) rfl)), noat_ok (c.fa_ (.noat "Directory" "mode") (List.mem_of_getElem? (i := 89) rfl)), noat_ok (c.fa_ (.noat "Directory" "time") (List.mem_of_getElem? (i := 90) rfl)), noat_ok (c.fa_ (.noat "Directory" "key") (List.mem_of_getElem? (i := 91) rfl)), noat_ok (c.fa_ (.noat "Directory" "data") (List.mem_of_getElem? (i := 92) rfl)), noat_ok (c.fa_ (.noat "Directory" "size") (List.mem_of_getElem? (i := 93) rfl)), noat_ok (c.fa_ (.noat "Directory" "pieces") (List.mem_of_getElem? (i := 94) rfl)), noat_ok (c.fa_ (.noat "Directory" "target") (List.mem_of_getElem? (i := 95) rfl)), conZ_ok k2⟩, ⟨cls_ok (c.fa_ (.cls "Symlink") (List.mem_of_getElem? (i := 77) rfl)), noat_ok (c.fa_ (.noat "Symlink" "name") (List.mem_of_getElem? (i := 96) rfl)), noat_ok (c.fa_ (.noat "Symlink" "mode") (List.mem_of_getElem? (i := 97) rfl)), noat_ok (c.fa_ (.noat "Symlink" "time") (List.mem_of_getElem? (i := 98) rfl)), noat_ok (c.fa_ (.noat "Symlink" "key") (List.mem_of_getElem? (i := 99) rfl)), noat_ok (c.fa_ (.noat "Symlink" "data") (List.mem_of_getElem? (i := 100) rfl)), noat_ok (c.fa_ (.noat "Symlink" "size") (List.mem_of_getElem? (i := 101) rfl)), noat_ok (c.fa_ (.noat "Symlink" "pieces") (List.mem_of_getElem? (i := 102) rfl)), noat_ok (c.fa_ (.noat "Symlink" "target") (List.mem_of_getElem? (i := 103) rfl)), conZ_ok k3⟩⟩,
    zH := ⟨(cls_ok (c.fa_ (.cls "House") (List.mem_of_getElem? (i := 79) rfl))), noat_ok (c.fa_ (.noat "House" "standing") (List.mem_of_getElem? (i := 112) rfl)), noat_ok (c.fa_ (.noat "House" "files") (List.mem_of_getElem? (i := 113) rfl)), noat_ok (c.fa_ (.noat "House" "rows") (List.mem_of_getElem? (i := 114) rfl))⟩,
    zM := ⟨⟨_, mkr_ok (c.fa_ (.mkr "House") (List.mem_of_getElem? (i := 119) rfl))⟩, (glo_ok X G (c.fa_ (.glo "House") (List.mem_of_getElem? (i := 46) rfl)))⟩,
    zI := ⟨(cls_ok (c.fa_ (.cls "House") (List.mem_of_getElem? (i := 79) rfl))), eqO_ok i1, eqO_ok i2, of_decide_eq_true i3, of_decide_eq_true i4, of_decide_eq_true i5⟩,
    nNe := eqO_ok n1,
    mem := IsZ.funW (c.fn_ z_mem (List.mem_of_getElem? (i := 52) rfl)) rfl,
    sFi := supZ_ok s1 (glo_ok X G (c.fa_ (.glo "File") (List.mem_of_getElem? (i := 42) rfl))) (mkr_ok (c.fa_ (.mkr "File") (List.mem_of_getElem? (i := 115) rfl))) (c.fn_ z_iFile (List.mem_of_getElem? (i := 56) rfl)) st' ty' fn htop,
    sDi := supZ_ok s2 (glo_ok X G (c.fa_ (.glo "Directory") (List.mem_of_getElem? (i := 43) rfl))) (mkr_ok (c.fa_ (.mkr "Directory") (List.mem_of_getElem? (i := 116) rfl))) (c.fn_ z_iDirectory (List.mem_of_getElem? (i := 57) rfl)) st' ty' fn htop,
    sSy := supZ_ok s3 (glo_ok X G (c.fa_ (.glo "Symlink") (List.mem_of_getElem? (i := 44) rfl))) (mkr_ok (c.fa_ (.mkr "Symlink") (List.mem_of_getElem? (i := 117) rfl))) (c.fn_ z_iSymlink (List.mem_of_getElem? (i := 58) rfl)) st' ty' fn htop,
    sSp := supZ_ok s4 (glo_ok X G (c.fa_ (.glo "Sparse") (List.mem_of_getElem? (i := 45) rfl))) (mkr_ok (c.fa_ (.mkr "Sparse") (List.mem_of_getElem? (i := 118) rfl))) (c.fn_ z_iSparse (List.mem_of_getElem? (i := 59) rfl)) st' ty' fn htop,
    of_ := ⟨fdO, FO, L2.Fun.binds FO fun _ _ _ _ _ _ us hl => match us, hl with | [_, _], _ => rfl⟩,
    rd := ⟨n2, eqO_ok n3⟩,
    mo := He5.cmet_of n4 n5,
    d_is_integer := ⟨_, fd_is_integer, F_is_integer, (glo_ok X G (c.fa_ (.glo "is_integer") (List.mem_of_getElem? (i := 0) rfl))), L2.Fun.binds F_is_integer fun _ _ _ _ _ _ us hl => match us, hl with | [_], _ => rfl⟩,
    d_is_within := ⟨_, fd_is_within, F_is_within, (glo_ok X G (c.fa_ (.glo "is_within") (List.mem_of_getElem? (i := 1) rfl))), L2.Fun.binds F_is_within fun _ _ _ _ _ _ us hl => match us, hl with | [_, _, _], _ => rfl⟩,
    d_blob := ⟨_, fd_blob, F_blob, (glo_ok X G (c.fa_ (.glo "blob") (List.mem_of_getElem? (i := 2) rfl))), L2.Fun.binds F_blob fun _ _ _ _ _ _ us hl => match us, hl with | [_], _ => rfl⟩,
    d_is_name := ⟨_, fd_is_name, F_is_name, (glo_ok X G (c.fa_ (.glo "is_name") (List.mem_of_getElem? (i := 3) rfl))), L2.Fun.binds F_is_name fun _ _ _ _ _ _ us hl => match us, hl with | [_], _ => rfl⟩,
    d_is_path := ⟨_, fd_is_path, F_is_path, (glo_ok X G (c.fa_ (.glo "is_path") (List.mem_of_getElem? (i := 4) rfl))), L2.Fun.binds F_is_path fun _ _ _ _ _ _ us hl => match us, hl with | [_], _ => rfl⟩,
    d_look_name := ⟨_, fd_look_name, F_look_name, (glo_ok X G (c.fa_ (.glo "look_name") (List.mem_of_getElem? (i := 5) rfl))), L2.Fun.binds F_look_name fun _ _ _ _ _ _ us hl => match us, hl with | [_], _ => rfl⟩,
    d_look_stamps := ⟨_, fd_look_stamps, F_look_stamps, (glo_ok X G (c.fa_ (.glo "look_stamps") (List.mem_of_getElem? (i := 6) rfl))), L2.Fun.binds F_look_stamps fun _ _ _ _ _ _ us hl => match us, hl with | [_, _], _ => rfl⟩,
    d_is_piece := ⟨_, fd_is_piece, F_is_piece, (glo_ok X G (c.fa_ (.glo "is_piece") (List.mem_of_getElem? (i := 7) rfl))), L2.Fun.binds F_is_piece fun _ _ _ _ _ _ us hl => match us, hl with | [_], _ => rfl⟩,
    d_are_spans := ⟨_, fd_are_spans, F_are_spans, (glo_ok X G (c.fa_ (.glo "are_spans") (List.mem_of_getElem? (i := 8) rfl))), L2.Fun.binds F_are_spans fun _ _ _ _ _ _ us hl => match us, hl with | [_, _], _ => rfl⟩,
    d_are_pieces := ⟨_, fd_are_pieces, F_are_pieces, (glo_ok X G (c.fa_ (.glo "are_pieces") (List.mem_of_getElem? (i := 9) rfl))), L2.Fun.binds F_are_pieces fun _ _ _ _ _ _ us hl => match us, hl with | [_, _], _ => rfl⟩,
    d_above := ⟨_, fd_above, F_above, (glo_ok X G (c.fa_ (.glo "above") (List.mem_of_getElem? (i := 10) rfl))), L2.Fun.binds F_above fun _ _ _ _ _ _ us hl => match us, hl with | [_], _ => rfl⟩,
    d_are_stamps := ⟨_, fd_are_stamps, F_are_stamps, (glo_ok X G (c.fa_ (.glo "are_stamps") (List.mem_of_getElem? (i := 11) rfl))), L2.Fun.binds F_are_stamps fun _ _ _ _ _ _ us hl => match us, hl with | [_, _], _ => rfl⟩,
    d_is_thing := ⟨_, fd_is_thing, F_is_thing, (glo_ok X G (c.fa_ (.glo "is_thing") (List.mem_of_getElem? (i := 12) rfl))), L2.Fun.binds F_is_thing fun _ _ _ _ _ _ us hl => match us, hl with | [_], _ => rfl⟩,
    d_is_entry := ⟨_, fd_is_entry, F_is_entry, (glo_ok X G (c.fa_ (.glo "is_entry") (List.mem_of_getElem? (i := 13) rfl))), L2.Fun.binds F_is_entry fun _ _ _ _ _ _ us hl => match us, hl with | [_], _ => rfl⟩,
    d_one_house := ⟨_, fd_one_house, F_one_house, (glo_ok X G (c.fa_ (.glo "are_of_one_house") (List.mem_of_getElem? (i := 14) rfl))), L2.Fun.binds F_one_house fun _ _ _ _ _ _ us hl => match us, hl with | [_], _ => rfl⟩,
    d_refusal_at := ⟨_, fd_refusal_at, F_refusal_at, (glo_ok X G (c.fa_ (.glo "refusal_at") (List.mem_of_getElem? (i := 15) rfl))), L2.Fun.binds F_refusal_at fun _ _ _ _ _ _ us hl => match us, hl with | [_, _, _, _], _ => rfl⟩,
    d_refusal := ⟨_, fd_refusal, F_refusal, (glo_ok X G (c.fa_ (.glo "refusal") (List.mem_of_getElem? (i := 16) rfl))), L2.Fun.binds F_refusal fun _ _ _ _ _ _ us hl => match us, hl with | [_, _], _ => rfl⟩,
    d_put_at := ⟨_, fd_put_at, F_put_at, (glo_ok X G (c.fa_ (.glo "put_at") (List.mem_of_getElem? (i := 17) rfl))), L2.Fun.binds F_put_at fun _ _ _ _ _ _ us hl => match us, hl with | [_, _, _, _], _ => rfl⟩,
    d_put_member := ⟨_, fd_put_member, F_put_member, (glo_ok X G (c.fa_ (.glo "put_member") (List.mem_of_getElem? (i := 18) rfl))), L2.Fun.binds F_put_member fun _ _ _ _ _ _ us hl => match us, hl with | [_, _], _ => rfl⟩,
    d_unpack_one := ⟨_, fd_unpack_one, F_unpack_one, (glo_ok X G (c.fa_ (.glo "unpack_one") (List.mem_of_getElem? (i := 19) rfl))), L2.Fun.binds F_unpack_one fun _ _ _ _ _ _ us hl => match us, hl with | [_, _, _], _ => rfl⟩,
    d_unpacked := ⟨_, fd_unpacked, F_unpacked, (glo_ok X G (c.fa_ (.glo "unpacked") (List.mem_of_getElem? (i := 20) rfl))), L2.Fun.binds F_unpacked fun _ _ _ _ _ _ us hl => match us, hl with | [_, _], _ => rfl⟩,
    d_source := ⟨_, fd_source, F_source, (glo_ok X G (c.fa_ (.glo "_law_source") (List.mem_of_getElem? (i := 21) rfl))), L2.Fun.binds F_source fun _ _ _ _ _ _ us hl => match us, hl with | [_, _], _ => rfl⟩,
    d_draw := ⟨_, fd_draw, F_draw, (glo_ok X G (c.fa_ (.glo "_law_draw") (List.mem_of_getElem? (i := 22) rfl))), L2.Fun.binds F_draw fun _ _ _ _ _ _ us hl => match us, hl with | [_, _], _ => rfl⟩,
    d_path := ⟨_, fd_path, F_path, (glo_ok X G (c.fa_ (.glo "_law_path") (List.mem_of_getElem? (i := 23) rfl))), L2.Fun.binds F_path fun _ _ _ _ _ _ us hl => match us, hl with | [_], _ => rfl⟩,
    d_nums := ⟨_, fd_nums, F_nums, (glo_ok X G (c.fa_ (.glo "_law_numbers") (List.mem_of_getElem? (i := 24) rfl))), L2.Fun.binds F_nums fun _ _ _ _ _ _ us hl => match us, hl with | [_], _ => rfl⟩,
    d_lstamps := ⟨_, fd_lstamps, F_lstamps, (glo_ok X G (c.fa_ (.glo "_law_stamps") (List.mem_of_getElem? (i := 25) rfl))), L2.Fun.binds F_lstamps fun _ _ _ _ _ _ us hl => match us, hl with | [_], _ => rfl⟩,
    d_lpieces := ⟨_, fd_lpieces, F_lpieces, (glo_ok X G (c.fa_ (.glo "_law_pieces") (List.mem_of_getElem? (i := 26) rfl))), L2.Fun.binds F_lpieces fun _ _ _ _ _ _ us hl => match us, hl with | [_], _ => rfl⟩,
    d_lspec := ⟨_, fd_lspec, F_lspec, (glo_ok X G (c.fa_ (.glo "_law_spec") (List.mem_of_getElem? (i := 27) rfl))), L2.Fun.binds F_lspec fun _ _ _ _ _ _ us hl => match us, hl with | [_, _, _], _ => rfl⟩,
    d_specs := ⟨_, fd_specs, F_specs, (glo_ok X G (c.fa_ (.glo "_law_specs") (List.mem_of_getElem? (i := 28) rfl))), L2.Fun.binds F_specs fun _ _ _ _ _ _ us hl => match us, hl with | [_, _], _ => rfl⟩,
    d_tree := ⟨_, fd_tree, F_tree, (glo_ok X G (c.fa_ (.glo "_law_tree") (List.mem_of_getElem? (i := 29) rfl))), L2.Fun.binds F_tree fun _ _ _ _ _ _ us hl => match us, hl with | [], _ => rfl⟩,
    d_lcopied := ⟨_, fd_lcopied, F_lcopied, (glo_ok X G (c.fa_ (.glo "_law_copied") (List.mem_of_getElem? (i := 30) rfl))), L2.Fun.binds F_lcopied fun _ _ _ _ _ _ us hl => match us, hl with | [_], _ => rfl⟩,
    d_lkind := ⟨_, fd_lkind, F_lkind, (glo_ok X G (c.fa_ (.glo "_law_kind") (List.mem_of_getElem? (i := 31) rfl))), L2.Fun.binds F_lkind fun _ _ _ _ _ _ us hl => match us, hl with | [_, _], _ => rfl⟩,
    d_lis_path := ⟨_, fd_lis_path, F_lis_path, (glo_ok X G (c.fa_ (.glo "_law_is_path") (List.mem_of_getElem? (i := 32) rfl))), L2.Fun.binds F_lis_path fun _ _ _ _ _ _ us hl => match us, hl with | [_], _ => rfl⟩,
    d_labove := ⟨_, fd_labove, F_labove, (glo_ok X G (c.fa_ (.glo "_law_above") (List.mem_of_getElem? (i := 33) rfl))), L2.Fun.binds F_labove fun _ _ _ _ _ _ us hl => match us, hl with | [_], _ => rfl⟩,
    d_lword := ⟨_, fd_lword, F_lword, (glo_ok X G (c.fa_ (.glo "_law_word") (List.mem_of_getElem? (i := 34) rfl))), L2.Fun.binds F_lword fun _ _ _ _ _ _ us hl => match us, hl with | [_, _], _ => rfl⟩,
    d_lcontent := ⟨_, fd_lcontent, F_lcontent, (glo_ok X G (c.fa_ (.glo "_law_content") (List.mem_of_getElem? (i := 35) rfl))), L2.Fun.binds F_lcontent fun _ _ _ _ _ _ us hl => match us, hl with | [_], _ => rfl⟩,
    d_lstepped := ⟨_, fd_lstepped, F_lstepped, (glo_ok X G (c.fa_ (.glo "_law_stepped") (List.mem_of_getElem? (i := 36) rfl))), L2.Fun.binds F_lstepped fun _ _ _ _ _ _ us hl => match us, hl with | [_, _], _ => rfl⟩,
    d_lentries := ⟨_, fd_lentries, F_lentries, (glo_ok X G (c.fa_ (.glo "_law_entries") (List.mem_of_getElem? (i := 37) rfl))), L2.Fun.binds F_lentries fun _ _ _ _ _ _ us hl => match us, hl with | [_], _ => rfl⟩,
    d_tree_of := ⟨_, fd_tree_of, F_tree_of, (glo_ok X G (c.fa_ (.glo "_law_tree_of") (List.mem_of_getElem? (i := 38) rfl))), L2.Fun.binds F_tree_of fun _ _ _ _ _ _ us hl => match us, hl with | [_, _], _ => rfl⟩,
    d_good := ⟨_, fd_good, F_good, (glo_ok X G (c.fa_ (.glo "_law_good") (List.mem_of_getElem? (i := 39) rfl))), L2.Fun.binds F_good fun _ _ _ _ _ _ us hl => match us, hl with | [_, _], _ => rfl⟩,
    d_made := ⟨_, fd_made, F_made, (glo_ok X G (c.fa_ (.glo "_law_made") (List.mem_of_getElem? (i := 40) rfl))), L2.Fun.binds F_made fun _ _ _ _ _ _ us hl => match us, hl with | [_], _ => rfl⟩,
    d_hidden := ⟨_, fd_hidden, F_hidden, (glo_ok X G (c.fa_ (.glo "_law_hidden") (List.mem_of_getElem? (i := 41) rfl))), L2.Fun.binds F_hidden fun _ _ _ _ _ _ us hl => match us, hl with | [_, _], _ => rfl⟩,
    d_hinit := ⟨_, fd_hinit, F_hinit, meth_ok (c.fa_ (.meth "House" "__init__") (List.mem_of_getElem? (i := 120) rfl)), L2.Fun.binds F_hinit fun _ _ _ _ _ _ us hl => match us, hl with | [_], _ => rfl, cls_ok (c.fa_ (.cls "House") (List.mem_of_getElem? (i := 79) rfl))⟩,
    d_hset := ⟨_, fd_hset, F_hset, meth_ok (c.fa_ (.meth "House" "set_thing") (List.mem_of_getElem? (i := 121) rfl)), L2.Fun.binds F_hset fun _ _ _ _ _ _ us hl => match us, hl with | [_, _, _], _ => rfl, cls_ok (c.fa_ (.cls "House") (List.mem_of_getElem? (i := 79) rfl))⟩,
    d_hshare := ⟨_, fd_hshare, F_hshare, meth_ok (c.fa_ (.meth "House" "share") (List.mem_of_getElem? (i := 122) rfl)), L2.Fun.binds F_hshare fun _ _ _ _ _ _ us hl => match us, hl with | [_, _, _], _ => rfl, cls_ok (c.fa_ (.cls "House") (List.mem_of_getElem? (i := 79) rfl))⟩,
    d_hhas := ⟨_, fd_hhas, F_hhas, meth_ok (c.fa_ (.meth "House" "has") (List.mem_of_getElem? (i := 123) rfl)), L2.Fun.binds F_hhas fun _ _ _ _ _ _ us hl => match us, hl with | [_, _], _ => rfl, cls_ok (c.fa_ (.cls "House") (List.mem_of_getElem? (i := 79) rfl))⟩,
    d_hkind := ⟨_, fd_hkind, F_hkind, meth_ok (c.fa_ (.meth "House" "kind_at") (List.mem_of_getElem? (i := 124) rfl)), L2.Fun.binds F_hkind fun _ _ _ _ _ _ us hl => match us, hl with | [_, _], _ => rfl, cls_ok (c.fa_ (.cls "House") (List.mem_of_getElem? (i := 79) rfl))⟩,
    d_hsettle := ⟨_, fd_hsettle, F_hsettle, meth_ok (c.fa_ (.meth "House" "settle") (List.mem_of_getElem? (i := 125) rfl)), L2.Fun.binds F_hsettle fun _ _ _ _ _ _ us hl => match us, hl with | [_], _ => rfl, cls_ok (c.fa_ (.cls "House") (List.mem_of_getElem? (i := 79) rfl))⟩,
    d_hcopied := ⟨_, fd_hcopied, F_hcopied, meth_ok (c.fa_ (.meth "House" "copied") (List.mem_of_getElem? (i := 126) rfl)), L2.Fun.binds F_hcopied fun _ _ _ _ _ _ us hl => match us, hl with | [_], _ => rfl, cls_ok (c.fa_ (.cls "House") (List.mem_of_getElem? (i := 79) rfl))⟩,
    d_heq := ⟨_, fd_heq, F_heq, meth_ok (c.fa_ (.meth "House" "__eq__") (List.mem_of_getElem? (i := 127) rfl)), L2.Fun.binds F_heq fun _ _ _ _ _ _ us hl => match us, hl with | [_, _], _ => rfl, cls_ok (c.fa_ (.cls "House") (List.mem_of_getElem? (i := 79) rfl))⟩,
    d_fcon := ⟨_, fd_fcon, F_fcon, meth_ok (c.fa_ (.meth "File" "content") (List.mem_of_getElem? (i := 128) rfl)), L2.Fun.binds F_fcon fun _ _ _ _ _ _ us hl => match us, hl with | [_], _ => rfl, cls_ok (c.fa_ (.cls "File") (List.mem_of_getElem? (i := 75) rfl))⟩,
    d_scon := ⟨_, fd_scon, F_scon, meth_ok (c.fa_ (.meth "Sparse" "content") (List.mem_of_getElem? (i := 129) rfl)), L2.Fun.binds F_scon fun _ _ _ _ _ _ us hl => match us, hl with | [_], _ => rfl, cls_ok (c.fa_ (.cls "Sparse") (List.mem_of_getElem? (i := 78) rfl))⟩
  }
end L2.K88

end
/-! K88Z4 -/
section
set_option Elab.async false
set_option linter.all false
set_option maxRecDepth 100000
set_option maxHeartbeats 0
namespace L2.K88
open PySem PySem.W PySem.Calls PyProof.Rows HandSHeadRun
abbrev Rw_ : OpenRow := OpenLaw.row PySem.Challenge.rw_tarhouse_k88_whole_unpacked_twice
abbrev qv : Program := view Rw_.prog [75]
def loose : List PySem.Str := (["_wall", "NoBlob", "NoData", "NoName", "NoMode", "NoTime", "NoSize", "NoPieces", "NoHouse", "Refused", "is_integer", "is_within", "blob", "LETTERS", "MOST_NAME", "MOST_DATA", "MOST_PIECES", "MOST_MODE", "MOST_TIME", "is_name", "is_path", "look_name", "look_stamps", "is_piece", "are_spans", "are_pieces", "Member", "File", "Sparse", "Directory"] : List PySem.Str) ++ (["Symlink", "Link", "TITLES", "above", "are_stamps", "is_thing", "is_entry", "are_of_one_house", "House", "MADE", "refusal", "refusal_at", "put_at", "put_member", "unpack_one", "unpacked", "_law_source", "_law_draw", "_law_path", "_law_numbers", "_law_stamps", "_law_pieces", "_law_spec", "_law_made", "_law_specs", "_law_tree", "_law_copied", "_law_above", "_law_kind", "_law_is_path"] : List PySem.Str) ++ (["_law_word", "_law_content", "_law_stepped", "_law_unpacked", "_law_entries", "_law_told", "_law_tree_of", "_law_good", "_law_hidden"] : List PySem.Str)
abbrev hk : Hook := hookZ 5 faL fnL (exB Pg)
def ob (s : SharedT) : AlZ := obsZ 5 faL fnL (exB Pg) (HandSHeadRun.getT s)
theorem ob_eq (s : SharedT) : ob s = hk.obs s.abs := obsZ_eq (HandSHeadRun.getT_eq s)
theorem run_f (w : World) : HandSHeadRun.RunEq Rw_ qv hk ob 9000 loose (w.withFollow "special-get-raises" false) := by
  intro os
  kernel_rfl
theorem run_t (w : World) : HandSHeadRun.RunEq Rw_ qv hk ob 9000 loose (w.withFollow "special-get-raises" true) := by
  intro os
  kernel_rfl
theorem run (w : World) : HandSHeadRun.RunEq Rw_ qv hk ob 9000 loose w :=
  byRow2 "special-get-raises" (P := fun w => HandSHeadRun.RunEq Rw_ qv hk ob 9000 loose w) run_f run_t w
end L2.K88

end
/-! K88Z5 -/
set_option Elab.async false
set_option linter.all false
set_option maxRecDepth 100000
set_option maxHeartbeats 0
namespace L2.K88
open PySem PySem.Spec PyProof.Rows He
theorem fetch {K : PySem.W.Frag} {h : Heap} {mg : Str → Option Value} {w : World} {f : Addr} (X : K.In h) (G : h.Ns mainGlobals mg) (c : SaysZ faL fnL (exB Pg) h K) (hm : mg "law" = some (.ref f)) :
    LamX.LawAtS PySem.Challenge.rw_tarhouse_k88_whole_unpacked_twice w K CX0 9 63 "_law_script" mg f h := by
  have e := hm.symm.trans (glo_ok X G (c.fa_ (.glo "law") (List.mem_of_getElem? (i := 50) rfl)))
  cases e
  have A := allF X G c (by first | rfl | kernel_rfl)
  obtain ⟨oc, od, kV, doc, pm, an, cdv, ct, osl, lk, hcd, kp⟩ := (c.fn_ z_law (List.mem_of_getElem? (i := 55) rfl)).plain rfl
  obtain ⟨c0, rfl⟩ := codeIn_ref hcd
  have hco : codeOf K ("law", none) = c0 := codeOf_eq (p := ("law", none)) lk rfl
  have h1 := c.hd
  have h2 := c.out
  have h3 := c.empty
  unfold cT at h1 h2 h3
  rw [hco] at h1 h2 h3
  dsimp only at h1 h2 h3
  refine ⟨PySem.W.fnOf "law" "law" (defArgs sLaw) (defBody sLaw) (defScope sLaw) .none kV doc pm an (.ref c0) ct, [(c0, tabOf K c0)], spLaw K (tabOf K c0), ?_, ?_, ?_, ?_, ?_, ?_⟩
  · intro p hp; rw [List.mem_singleton] at hp; subst hp; exact h3
  · intro p hp; rw [List.mem_singleton] at hp; subst hp; exact h2
  · intro p hp; rw [List.mem_singleton] at hp; subst hp; exact PySem.W.codeHd_of_K X h1
  · exact fun s u => .of_eq rfl
  · intro H a ns hl hb hT hS
    exact ⟨a, ns, rfl, hS, Nat.le_trans hl (by decide), (fun p hp => by rw [List.mem_singleton] at hp; subst hp; exact LamX.TabS.nil (hT _ (List.mem_singleton.mpr rfl))), fun _ => rfl⟩
  · intro base XB GB TB
    exact chain A lk hcd (TB _ (List.mem_singleton.mpr rfl))
end L2.K88
open PySem PySem.W PySem.Calls PyProof.Rows
theorem PySem.Challenge.cw_tarhouse_k88_whole_unpacked_twice_holds : PySem.Challenge.rw_tarhouse_k88_whole_unpacked_twice.Holds := by
  w_on; o_law
  refine HandSHeadRun.head_any (r := OpenLaw.row PySem.Challenge.rw_tarhouse_k88_whole_unpacked_twice) (q := L2.K88.qv) (H := L2.K88.hk) (ob := L2.K88.ob) (M := 9000) (loose := L2.K88.loose) (d := HandSHeadRun.topDef (OpenLaw.row PySem.Challenge.rw_tarhouse_k88_whole_unpacked_twice).prog 75) (kwd := []) L2.K88.ob_eq
    (by kernel_rfl) (fun s => by kernel_rfl) L2.K88.run (by kernel_rfl) (by kernel_rfl) (by kernel_rfl) (by rfl) (by first | assumption | decide +kernel) (by decide +kernel) ⟨rfl, rfl, rfl, rfl, rfl, by decide +kernel⟩ ?hw ?hc
  case hw => w_witness2
  case hc =>
    refine LamX.walk_ofTsE (l := PySem.Challenge.rw_tarhouse_k88_whole_unpacked_twice) (n := 63) (k := 9) (x := "_law_script") (CX := fun _ => L2.CX0) rfl (by decide) (by kernel_rfl) ⟨rfl, by decide, by decide⟩ ?F (fun _ _ _ _ _ z => z)
    intro w mg fa h Y G hmg0
    obtain ⟨K, KX, c⟩ := Y
    have hmg : mg ("law" : PySem.Str) = some (.ref fa) := by
      have e : (HandSHeadRun.topDef (OpenLaw.row PySem.Challenge.rw_tarhouse_k88_whole_unpacked_twice).prog 75).name = ("law" : PySem.Str) := by kernel_rfl
      rw [← e]
      exact hmg0
    exact ⟨K, KX, L2.K88.fetch KX G c hmg⟩

