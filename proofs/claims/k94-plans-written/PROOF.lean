import PyProof.Rows.All
import Wide.All
import OpenK.AllK
import Wide.FinOn
import KE.KSuper
import KE.KCallOwn
import HandS.ForMost
import HandS.ClsMeth
import HandS.OwnEq
import HandS.FStr
import HandS.IsInst
import HandS.Star
import HandS.SlotsOwn
import HandS.Defaults
import HandS.RaiseMore
import PyProof.NeKinds
import HandS.Walk
import HandS.Codes
import PySem.Challenge.RW_loopstow_k94_plans_written
import KE.RegKSuper
import KE.RegKIsAll
section
set_option Elab.async false
set_option linter.all false
set_option maxRecDepth 100000
set_option maxHeartbeats 4000000
/-! Own rules over the hand layer. -/
namespace Ls
open PySem PySem.Spec PyProof.Rows L2

/-! ### what a for walks: one of two kinds -/
theorem PI.or {X : Cx} {tg iter : Expr} {w1 w2 : TI} (h1 : PI X tg iter w1) (h2 : PI X tg iter w2) : PI X tg iter (fun σ H R => w1 σ H R ∨ w2 σ H R) :=
  ⟨fun pins s σ H R I h => h.elim (fun h => h1.run pins s σ H R I h) (fun h => h2.run pins s σ H R I h)⟩
/-- a list or a tuple -/
theorem pi_seq {X : Cx} {tg l : Expr} {tl : TE} (hl : PE X l tl) : PI X tg l (fun σ H R => iList X.K tl σ H R ∨ iTup X.K tl σ H R) := PI.or (pi_list hl) (pi_tup hl)

/-! ### f(k = v, ..), no positional argument -/
section
variable {X : Cx} {CX : CXT} {k : Nat} {f : Addr} {fd : FuncData} {ps ks : List Str} {sp : Sp} {E : XK} {x : Str} {p pos : Pos} {kws : List Keyword} {tk : TA} {g : List Value → List Value → List Value} {gV : List V → List V → List V}
theorem pe_callK0 (F : FnOk X.prog X.w X.K X.mg X.base CX k f fd ps sp) (hr : Room k X.A) (hg : Gl X x) (hm : X.mg x = some (.ref f)) (hk : PySem.W.keepIn X.K (.ref f) = true) (hb : KBn X.K fd ps 0 ks g gV) (hx : Passes CX X E)
    (hkw : PK X kws tk) (hall : (backToKw pos (keywordEach kws X.env)).all (·.1.isSome) = true := by rfl) (hks : (backToKw pos (keywordEach kws X.env)).filterMap (·.1) = ks := by rfl)
    (hdb : (x == ("__debug__" : Str)) = false := by decide)
    (hpl : ((backTo pos (starEach [] X.env)).any (·.1) || (backToKw pos (keywordEach kws X.env)).any (·.1.isNone)) = false := by rfl) :
    PE X (.Call (.Name x p) [] kws pos) (tCallN 0 ks.length sp gV E tNil tk) := by
  refine ⟨fun pins s σ H Q I h => ?_⟩
  refine wpAny_Call_Name_kw (ld_glob I hg hm ?_ hdb)
  refine PySem.W.callWith_KW0 (h₀ := X.base) I.ok.mod.kin hk hall ?_ hpl
  refine thn (hkw.run pos pins s σ H _ I h) fun ws s2 ⟨zs, H2, I2, rz, l1, l2, q2⟩ => ⟨I2.kIn, ?_⟩
  rw [hks]
  exact run_fnN (us := []) (vs := []) F hr hb hx I2 .nil rz l1 l2 q2
/-- one parameter, given by its name -/
theorem kbn_one {K : PySem.W.Frag} {x qual : Str} {st : Stmt} {f : Addr} {fd : FuncData} {a : Str} (F : Fun K x qual st f fd)
    (h : ∀ (kV doc pm : Value) (an : Option Addr) (cdv ct u : Value), bindArgs (PySem.W.fnOf x qual (defArgs st) (defBody st) (defScope st) .none kV doc pm an cdv ct) ⟨[], [(a, u)]⟩ = pure [(a, u)]) :
    KBn K fd [a] 0 [a] (fun _ ws => ws) (fun _ zs => zs) := by
  obtain ⟨oc, od, kV, doc, pm, an, cdv, ct, osl, rfl, lk, hcd⟩ := F.ex
  refine ⟨fun s us ws _ l1 l2 => ?_, fun _ r => r⟩
  match us, ws, l1, l2 with
  | [], [u], _, _ => exact .of_eq (h kV doc pm an cdv ct u)
end

/-! ### str(x), x an instance whose class has the text's own __str__ -/
def rStrOwn (K : PySem.W.Frag) (g : Addr) (sp : Sp) (E : XK) : List V → Hp → VK → Prop := fun xs H Q => ∃ a C dx fs, xs = [V.ref a] ∧ H a = some (.ins C dx fs) ∧ PySem.W.findIn K (.ref C) "__str__" = some (some (.ref g)) ∧ sp [.ref a] H (fun z H' => ∃ y, z = .str y ∧ Q z H') E
section
variable {X : Cx} {CX : CXT} {g : Addr} {n : Nat} {sp : Sp} {E : XK}
theorem call_strOwn (hf : PySem.W.isFn X.K (.ref g) = true) (F : FnR X.prog X.w X.K X.mg X.base CX n g sp) (hr : Room (n + 2) X.A) (hx : Passes CX X E) : CallR X (.type "str") (rStrOwn X.K g sp E) := by
  intro pins s σ H xs us Q I r h
  obtain ⟨a, C, dx, fs, rfl, ha, hs, q⟩ := h
  obtain ⟨u, rfl, ru⟩ := r.one
  cases (show u = Value.ref a from ru)
  obtain ⟨mA, O, _⟩ := ins_get I.hok ha
  obtain ⟨od, J, _⟩ := O.look
  have hr2 : Room n X.A.in1.in1 := (show Room (n + 1) X.A.in1 from Room.in1 hr).in1
  refine PySem.W.kso_call hr2.units0 I.kIn J hs hf (wpAny_mono (wpAny_call (SlX.run_at (us := [.ref a]) (ws := [.ref a]) F hr2 I.env0.in1.in1 hx I (.cons rfl .nil) q)) (fun w s' z => ?_) fun _ _ x => x)
  obtain ⟨z', H', I', rz, y, ey, qz⟩ := z
  subst ey
  obtain ⟨t, e⟩ := (show ∃ t, w = Value.str y t from rz)
  cases e
  exact ⟨.str y, H', I', ⟨t, rfl⟩, qz⟩
/-- .. the written part by its own name (for a block) -/
theorem call_strOwnK {P : Program} {w : World} {K : PySem.W.Frag} {mg : Str → Option Value} {base : Heap} (hf : PySem.W.isFn K (.ref g) = true) (F : FnR P w K mg base CX n g sp) {A : Around} (hr : Room (n + 2) A) (hP : X.prog = P) (hw : X.w = w) (hK : X.K = K) (hmg : X.mg = mg) (hb : X.base = base) (hA : X.A = A) (hx : Passes CX X E) :
    CallR X (.type "str") (rStrOwn K g sp E) := by
  subst hP hw hK hmg hb hA
  exact call_strOwn hf F hr hx
end
end Ls
end
section
set_option Elab.async false
set_option linter.all false
set_option maxRecDepth 100000
set_option maxHeartbeats 4000000
namespace Ls
open PySem PySem.Spec PyProof.Rows L2

/-! ### a def that closes over __class__, its first statement super().__init__(..) -/
structure ScS (N ps : List Str) (sc : Scope) : Prop where
  kind : sc.kind = .function
  co : sc.isCoroutine = false
  gen : sc.isGenerator = false
  nd : N.Nodup
  pre : N.take ps.length = ps
  par : ∀ x ∈ ps, sc.names.lookup x = some .local
  nocell : ∀ y ∈ sc.names, y.2 ≠ .cell
  free : ∀ y ∈ sc.names, y.2 = .free → y.1 = "__class__"

def cxS (CX : CXT) (P : Program) (w : World) (K : PySem.W.Frag) (mg : Str → Option Value) (base : Heap) (N : List Str) (qual : Str) (scope : Scope) (f : Addr) (cd : Value) (cc : Addr) (A : Around) (outer : List Env) (s : Shared) (H : Hp) (E : XK) : Cx where
  prog := P
  w := w
  K := K
  mg := mg
  base := base
  A := A.deeper (PySem.W.ksEnv qual scope s.heap.objs.size f cd cc)
  N := N
  s_0 := s
  H_0 := H
  env := PySem.W.ksEnv qual scope s.heap.objs.size f cd cc
  outer := outer
  stack := PySem.W.ksEnv qual scope s.heap.objs.size f cd cc :: outer
  ex := []
  calm := true
  fn := fun x => !(x == ("__class__" : Str))
  pn := []
  xe := fun e s' => wpAny (model P w) (A.deeper (PySem.W.ksEnv qual scope s.heap.objs.size f cd cc)) (leaving (PySem.W.ksEnv qual scope s.heap.objs.size f cd cc) e) (fun _ s'' => CX outer H s E e s'') (fun e' s'' => CX outer H s E e' s'') s'

theorem rev_lookup {x : Str} {v : Value} : ∀ {ps : List Str} {us : List Value} {i : Nat}, ps.Nodup → ps[i]? = some x → us[i]? = some v → (ps.zip us).reverse.lookup x = some v
  | [], _, _, _, h, _ => by simp at h
  | _ :: _, [], _, _, _, h => by simp at h
  | p :: ps, u :: us, 0, nd, h1, h2 => by
    simp at h1 h2
    subst h1; subst h2
    rw [List.zip_cons_cons, List.reverse_cons, List.lookup_append]
    have : (ps.zip us).reverse.lookup p = none := by
      rw [List.lookup_eq_none_iff]
      rintro ⟨a, b⟩ hm
      have hm' := List.mem_reverse.mp hm
      have ha := (List.of_mem_zip hm').1
      have : p ≠ a := fun e => (List.nodup_cons.mp nd).1 (e ▸ ha)
      simpa using this
    rw [this]
    simp [List.lookup]
  | p :: ps, u :: us, i + 1, nd, h1, h2 => by
    rw [List.zip_cons_cons, List.reverse_cons, List.lookup_append, rev_lookup (i := i) (List.nodup_cons.mp nd).2 (by simpa using h1) (by simpa using h2)]
    rfl

section
variable {CX : CXT} {P : Program} {w : World} {K : PySem.W.Frag} {mg : Str → Option Value} {base : Heap} {N ps : List Str} {qual : Str} {scope : Scope} {f cc : Addr} {cd : Value} {A : Around} {outer : List Env} {s : Shared} {H : Hp} {E : XK} {us : List Value} {vs : List V}

theorem inv_startS {h1 : Heap} {tk : Nat} {ocell : Obj} {vc : Option Value} (S : ScS N ps scope) (hd : A.handled = none) (e0 : Env0 P w K mg base A outer s H) (hl : vs.length = ps.length) (r : Vals vs us)
    (hcell : K.lookup cc = some ocell) (hcd : ocell.data = .cell vc)
    (hns : h1.Ns s.heap.objs.size (fun x => (ps.zip us).reverse.lookup x)) (hk : ∀ b o, s.heap.get? b = some o → h1.get? b = some o) :
    Inv (cxS CX P w K mg base N qual scope f cd cc A outer s H E) [] (start N vs) H { s with heap := h1, toks := tk } := by
  have hpl : ps.length ≤ N.length := by have := congrArg List.length S.pre; rw [List.length_take] at this; omega
  have hccb : base.get? cc = some ocell := e0.mod.kin _ _ hcell
  have lkc : ∀ x c, List.lookup x [(("__class__" : Str), cc)] = some c → x = "__class__" ∧ c = cc := fun x c e => by
    by_cases hx : x = "__class__"
    · subst hx
      simp [List.lookup] at e
      exact ⟨rfl, e.symm⟩
    · have : (x == ("__class__" : Str)) = false := by simpa using hx
      simp [List.lookup, this] at e
  have noA : ∀ b : Addr, b ∉ (cxS CX P w K mg base N qual scope f cd cc A outer s H E).ex := fun b z => absurd (show b ∈ ([] : List Addr) from z) (by simp)
  refine ⟨⟨e0.mod, S.kind, rfl, rfl, Nat.le_refl _, fun y z c q1 q2 => ?_, fun y hy => ?_, fun y c hfn h => ?_, fun _ => hd, Around.frames_deeper e0.frames, .inr ⟨rfl, rfl⟩, fun b z => absurd z (noA b), e0.bs, e0.bsz, fun b _ _ => noA b, fun b z => absurd z (noA b), e0.funs, e0.frf⟩,
    rfl, e0.bare, Un.kept hk, ⟨_, hns, fun i y v q1 q2 q3 => ?_⟩, fun y c h => ?_, e0.hok.fresh (Nat.le_refl _), fun y c h => ?_, fun p hp => absurd (show p ∈ ([] : List (Addr × Obj)) from hp) (by simp), e0.hok.kept hk, ?_⟩
  · rw [(lkc y c q1).1, (lkc z c q2).1]
  · have hy : scope.names.lookup y = some .cell ∨ scope.names.lookup y = some .free := hy
    rcases hy with hy | hy
    · exact absurd rfl (S.nocell _ (PySem.mem_of_lookup hy))
    · have e := S.free _ (PySem.mem_of_lookup hy) rfl
      have e' : y = "__class__" := e
      subst e'
      exact ⟨cc, by show List.lookup _ [_] = _; simp [List.lookup]⟩
  · have e := (lkc y c h).1
    subst e
    exact absurd (show (!(("__class__" : Str) == ("__class__" : Str))) = true from hfn) (by simp)
  · have hi : i < vs.length := by
      unfold L2.start at q2
      by_cases hi : i < vs.length
      · exact hi
      · rw [List.getElem?_append_right (by simpa using hi)] at q2
        rw [List.getElem?_replicate] at q2
        split at q2 <;> cases q2
    have ha : vs[i]? = some v := by
      unfold L2.start at q2
      rw [List.getElem?_append_left (by simpa using hi), List.getElem?_map] at q2
      cases e : vs[i]? with
      | none => rw [e] at q2; cases q2
      | some a => rw [e] at q2; cases q2; rfl
    obtain ⟨u, hu, rv⟩ := r.get ha
    have hp : ps[i]? = some y := by
      rw [← S.pre, List.getElem?_take_of_lt (by omega)]; exact q1
    have ndP : ps.Nodup := by rw [← S.pre]; exact S.nd.sublist (List.take_sublist _ _)
    exact ⟨u, rv, .inl ⟨S.par y (List.mem_of_getElem? hp), rev_lookup ndP hp hu⟩⟩
  · obtain ⟨_, e⟩ := lkc y c h
    subst e
    exact ⟨vc, ocell, hk _ _ (e0.bs _ _ hccb).1, hcd⟩
  · obtain ⟨_, e⟩ := lkc y c h
    subst e
    exact (e0.bs _ _ hccb).2
  · unfold L2.start
    show _ = N.length
    rw [List.length_append, List.length_map, List.length_replicate]
    omega
end

/-- what the written part says for super().__init__ in a def of the class at D, of an instance of the class at C -/
structure SupT (P : Program) (K : PySem.W.Frag) (mg : Str → Option Value) (C D cc cda : Addr) (m : Str) (f2 : Addr) : Prop where
  cell : ∃ cl cld csl, K.lookup cc = some ⟨cl, cld, .cell (some (.ref D)), csl⟩
  code : ∃ ccl cdd vs ccs file tf, K.lookup cda = some ⟨ccl, cdd, .fields vs, ccs⟩ ∧ vs[2]? = some (.str file tf) ∧ ((P.main.file : Str) == file) = true
  clD : ∃ cdD, PySem.W.clsIn K D = some cdD
  sub : PySem.W.mroIn K C (.ref D) = some true
  sup : mg "super" = none
  top : (P.main.scope.names.lookup ("super" : Str)).isSome = false
  any : PySem.W.nsIn K cStatics "thirdparty.any" = some none
  fnd : PySem.W.ks_superIn K C D m = some (some (.ref f2))
  ty : PySem.W.typeIn K (.ref f2) = some (.type "function")
  fi : PySem.W.fnIn K f2 = true

section
variable {CX : CXT} {P : Program} {w : World} {K : PySem.W.Frag} {mg : Str → Option Value} {base : Heap} {k : Nat} {f cc cda : Addr} {name qual : Str} {params : Arguments} {scope : Scope} {dV kV doc pm ct oc : Value} {an od : Option Addr}
    {osl : Array (Option Value)} {N ps : List Str} {sp : Sp} {e : PySem.Expr} {es : List PySem.Expr} {rest : List Stmt} {m : Str} {p0 p1 apos pos epos : Pos} {pl : Sem Bool}
theorem fn_super (lk : K.lookup f = some ⟨oc, od, .func (PySem.W.ksFn name qual params (.Expr (.Call (.Attribute (.Call (.Name "super" p0) [] [] p1) m apos) (e :: es) [] pos) epos :: rest) scope dV kV doc pm an (.ref cda) ct cc), osl⟩)
    (hcd : PySem.W.codeIn K (.ref cda) qual = true) (S : ScS N ps scope)
    {ar : Arg} (hp0 : (params.posonlyargs ++ params.args).head? = some ar) (hps : ps.head? = some ar.arg) (hN0 : N.head? = some ar.arg) (har : scope.names.lookup ar.arg = some .local)
    (hks : scope.names.lookup ("super" : Str) = some .globalImplicit) (hkc : scope.names.lookup ("__class__" : Str) = some .free) (hmc : (m == ("__class__" : Str)) = false)
    (len : ∀ vs H Q E, sp vs H Q E → vs.length = ps.length)
    (hbody : ∀ (A : Around) (outer : List Env) (s : Shared) (H : Hp) (vs : List V) (Q : VK) (E : XK), Room k (A.deeper (PySem.W.ksEnv qual scope s.heap.objs.size f (.ref cda) cc)) → sp vs H Q E →
      ∃ (x C D dx f2 : Addr) (fs : List (Str × V)) (vs' : List V) (ta : TA) (u : TS) (spM : Sp) (CX' : CXT) (E' : XK), vs = .ref x :: vs' ∧ H x = some (.ins C dx fs) ∧ SupT P K mg C D cc cda m f2 ∧
        PA (cxS CX P w K mg base N qual scope f (.ref cda) cc A outer s H E) (e :: es) ta ∧ FnR P w K mg base CX' k f2 spM ∧ Passes CX' (cxS CX P w K mg base N qual scope f (.ref cda) cc A outer s H E) E' ∧
        PSs (cxS CX P w K mg base N qual scope f (.ref cda) cc A outer s H E) rest u ∧
        ta (start N vs) H (fun ws H1 => spM (.ref x :: ws) H1 (fun _ H2 => u { nx := fun _ H' => Q .non H', rt := Q } (start N vs) H2) E'))
    (hi : ∀ L, interactive (PySem.W.ksEnv qual scope L f (.ref cda) cc) = false) (hsw : ∀ L, swapsWith (.Call (.Attribute (.Call (.Name "super" p0) [] [] p1) m apos) (e :: es) [] pos) none epos.line (PySem.W.ksEnv qual scope L f (.ref cda) cc) = pure false)
    (he : ∀ L, eval (.Call (.Attribute (.Call (.Name "super" p0) [] [] p1) m apos) (e :: es) [] pos) (PySem.W.ksEnv qual scope L f (.ref cda) cc) = (do
      let ov ← attributeBase (.Call (.Name "super" p0) [] [] p1) m (PySem.W.ksEnv qual scope L f (.ref cda) cc) (eval (.Call (.Name "super" p0) [] [] p1) (PySem.W.ksEnv qual scope L f (.ref cda) cc))
      standAt apos.atName
      let (fn, first) ← holding [ov] (getMethod ov m pl)
      callWith pos fn first (backTo pos (starEach (e :: es) (PySem.W.ksEnv qual scope L f (.ref cda) cc))) []))
    (hst : ∀ L, starEach (e :: es) (PySem.W.ksEnv qual scope L f (.ref cda) cc) = (false, eval e (PySem.W.ksEnv qual scope L f (.ref cda) cc)) :: starEach es (PySem.W.ksEnv qual scope L f (.ref cda) cc))
    (hpl : ∀ L, (backTo pos (starEach es (PySem.W.ksEnv qual scope L f (.ref cda) cc))).any (·.1) = false) :
    FnOk P w K mg base CX (k + 1) f (PySem.W.ksFn name qual params (.Expr (.Call (.Attribute (.Call (.Name "super" p0) [] [] p1) m apos) (e :: es) [] pos) epos :: rest) scope dV kV doc pm an (.ref cda) ct cc) ps sp := by
  refine ⟨len, fun A outer s H args us vs Q E hr e0 hb r hsp => ?_⟩
  have hl := len _ _ _ _ hsp
  have KX : K.In s.heap := e0.mod.kin.keeps fun b o e => (e0.bs b o e).1
  have lim : s.heap.NoLimit := e0.mod.nolimit.keeps fun b o e => (e0.bs b o e).1
  obtain ⟨x, C, D, dx, f2, fs, vs', ta, u, spM, CX', E', rfl, hx, T, hta, FM, hpx, hrest, hq⟩ := hbody A outer s H vs Q E (hr.deeper _) hsp
  obtain ⟨cl, cld, csl, hcell⟩ := T.cell
  obtain ⟨ccl, cdd, cvs, ccs, file, tf, hcode, hvs, hfile⟩ := T.code
  obtain ⟨cdD, hD⟩ := T.clD
  refine PySem.ks_codeAny_call_defAt (binds := ps.zip us) hr.depth (KX _ _ lk) rfl lim (PySem.W.codeRec_of KX hcd) rfl hb S.nocell (fun y hy => S.par y.1 (List.of_mem_zip hy).1) (fun h1 hns hk => ?_) S.co S.gen S.kind
  have I : Inv (cxS CX P w K mg base N qual scope f (.ref cda) cc A outer s H E) [] (start N (.ref x :: vs')) H { s with heap := h1, toks := s.toks + (ps.zip us).length } :=
    inv_startS (vs := .ref x :: vs') S hr.hd e0 hl r hcell rfl hns hk
  have hX : K.In h1 := I.kIn
  obtain ⟨mA, O, _⟩ := ins_get I.hok hx
  obtain ⟨odx, J, _⟩ := O.look
  obtain ⟨oD, hD1, hD2⟩ : ∃ oD, h1.get? D = some oD ∧ oD.data = .cls cdD := by
    unfold PySem.W.clsIn at hD
    split at hD
    · rename_i c d cd' sl ho
      cases hD
      exact ⟨_, hX _ _ ho, rfl⟩
    · cases hD
  have hbase : ∀ b o, s.heap.get? b = some o → h1.get? b = some o := hk
  refine PySem.ks_wpAt_execs_cons (PySem.ks_wpAt_Expr_any (PySem.ks_wpAt_MethodCall (pl := pl) ?_ (he _)) (hi _) (hsw _))
  refine PySem.ks_wpAt_super_base (env := PySem.W.ksEnv qual scope s.heap.objs.size f (.ref cda) cc) hks hkc hmc rfl (hX _ _ lk) rfl hp0 rfl (hX _ _ hcode) rfl hvs hfile T.top ?_
  obtain ⟨mb, hb1, hb2⟩ := I.mod.blt
  refine PySem.W.ks_loadName_global S.kind hks (Calls.loadGlobal_builtin (env := PySem.W.ksEnv qual scope s.heap.objs.size f (.ref cda) cc) (I.mod.glob.keeps I.bk) T.sup (hb1.keeps I.bk) ((hb2 _ (by decide +kernel)).trans (show bootBuiltins "super" = some (.type "super") by first | rfl | kernel_rfl)) ⟨rfl, ?_⟩)
  refine wpAny_loadName_free S.kind hkc (by show List.lookup _ [_] = _; simp [List.lookup]) ⟨_, hX _ _ hcell, rfl⟩ ?_
  have hself : (ps.zip us).reverse.lookup ar.arg = some (.ref x) := by
    match ps, us, hps, r with
    | p :: ps', u' :: us', hp', .cons ru _ =>
      have hp'' : p = ar.arg := by simpa using hp'
      subst hp''
      cases (show u' = Value.ref x from ru)
      have ndP : (ar.arg :: ps').Nodup := by
        have := S.pre
        rw [← this]
        exact S.nd.sublist (List.take_sublist _ _)
      exact rev_lookup (i := 0) ndP rfl rfl
  refine wpAny_loadName_local S.kind har hns hself ?_
  refine PySem.ks_wpAny_isType_cls hD1 hD2 ⟨rfl, ?_⟩
  refine PySem.ks_wpAny_call_super hD1 hD2 J.at_ J.cls (fun c e => ?_) (PySem.W.looks_mroIn hX T.sub) (fun h' hso k' => ?_)
  · have := J.no
    unfold PySem.W.notCls at this
    rw [e] at this
    exact Bool.noConfusion this
  -- the super object is pinned
  have I1 : Inv (cxS CX P w K mg base N qual scope f (.ref cda) cc A outer s H E) [(h1.objs.size, PySem.W.ks_superObj D x C)] (start N (.ref x :: vs')) H { s with heap := h', toks := s.toks + (ps.zip us).length } :=
    ClX.pin_new (s := { s with heap := h1, toks := s.toks + (ps.zip us).length }) (t' := s.toks + (ps.zip us).length) I k' (Nat.le_refl _) hso (fun v z => nomatch z)
  have hX' : K.In h' := I1.kIn
  have fnd := T.fnd
  cases hc : PySem.W.clsIn K C with
  | none => unfold PySem.W.ks_superIn at fnd; rw [hc] at fnd; cases fnd
  | some cdC =>
    unfold PySem.W.ks_superIn at fnd
    rw [hc] at fnd
    obtain ⟨of, hof, hofc⟩ : ∃ of, h'.get? f2 = some of ∧ of.cls = .type "function" := by
      have ht' : (K.lookup f2).map (·.cls) = some (.type "function") := T.ty
      cases z : K.lookup f2 with
      | none => rw [z] at ht'; cases ht'
      | some of => rw [z] at ht'; exact ⟨of, hX' _ _ z, Option.some.inj ht'⟩
    refine PySem.ks_wpAny_getMethod_super (h := h') hso (PySem.W.looks_opaque hX' T.any) (l₀ := cdC.mro) ?_ rfl hX' fnd hof hofc (PySem.W.ks_ne hX J hc) hmc ?_
    · exact fun A Q E s k q => wpAny_bind ((PySem.W.looks_clsIn hX' hc) A _ E s k (wpAny_pure q))
    · have I2 := ClX.pin_new (s := { s with heap := h', toks := s.toks + (ps.zip us).length }) (o := PySem.W.methodObj (.ref f2) (.ref x)) (t' := s.toks + (ps.zip us).length + 1) I1 (fun _ _ z => Heap.get?_push_of_some _ z) (Nat.le_refl _) (Heap.get?_push_size h' rfl) (fun v z => nomatch z)
      refine ClX.callwith_cm (X := cxS CX P w K mg base N qual scope f (.ref cda) cc A outer s H E) I2 (ClX.base_none I1 (Nat.le_refl _)) T.fi (thn (hta.run pos _ _ _ H _ I2 hq) fun us2 s3 ⟨ws, H2, I3, rv, q2⟩ => ⟨⟨ClX.pin_at I3, I3.kIn⟩, ?_⟩) (hst _) (hpl _)
      refine thn (ClX.run_cm FM (hr.deeper _) hpx I3 rv q2) fun v s4 h4 => ?_
      obtain ⟨v4, H4, I4, _, q4⟩ := ClX.unpinE h4
      refine wpAt_of_wpAny (wpAny_mono (hrest.run [] s4 _ H4 _ I4 q4) (fun fl s' hs => ?_) fun e s' hs => hs)
      have fin : ∀ {σ' : L2.St} {H' : Hp} {v : V} {u : Value}, Inv (cxS CX P w K mg base N qual scope f (.ref cda) cc A outer s H E) [] σ' H' s' → RelV v u → Q v H' → CE outer P w H s Q u s' :=
        fun {σ' H' v u} J rv q => ⟨v, H', J.os, J.bare, J.base, J.hok, rv, q⟩
      cases fl with
      | ret u =>
        obtain ⟨v, σ', H', J, rv, q⟩ := hs
        exact fin J rv q
      | next =>
        obtain ⟨σ', H', J, q⟩ := hs
        exact fin (v := V.non) (u := Value.none) J rfl q
      | brk =>
        obtain ⟨_, _, _, q⟩ := hs
        exact False.elim q
      | cont =>
        obtain ⟨_, _, _, q⟩ := hs
        exact False.elim q
end
end Ls
end
section
set_option Elab.async false
set_option linter.all false
set_option maxRecDepth 100000
set_option maxHeartbeats 4000000
namespace LsN
open PySem PySem.SeqAt
open AutoSeq1 (wpAny_loadPart')
open MeetsSeq MeetsSeq2 MeetsSeq3 SeqRoads2
section
variable {prog : Program} {w : World} {A : Around} {R : Result → Shared → Prop}
theorem ne_loopG (l b : Addr) (N : Nat) (I : Nat → Shared → Prop) (hl : GQ.ListI prog w A (fun e s' => R (.error e) s') l b N I)
    (fin : ∀ s, I N s → R (.ok (.ret (.bool false))) s) (k : Nat) :
    ∀ i : Nat, N - i = k → i ≤ N → ∀ s, I i s →
      wpAny (model prog w) A.in1 (Builtin.«list.__eq__.loop» ⟨[.ref l, .ref b, rawInt i, rawInt 3], []⟩) (GQ.FinOf prog w A R) (fun e s' => R (.error e) s') s := by
  induction k with
  | zero =>
    intro i hk hi s h
    obtain ⟨items, items2, n, n2, hl1, hb1, hs1, hs2, _⟩ := hl _ _ h
    have hi' : i = N := by omega
    have hR : R (.ok (.ret (.bool false))) s := fin s (hi' ▸ h)
    obtain ⟨hp, g, d, tk, os⟩ := s
    wp_walk using wpAny_loadPart' hl1, wpAny_loadPart' hb1
    have hi1 : items[((i : Nat) : Int).toNat]? = none := by simp; omega
    have hi2 : items2[((i : Nat) : Int).toNat]? = none := by simp; omega
    rw [hi1, hi2]
    wp_walk using wpAny_loadPart' hl1, wpAny_loadPart' hb1
    show R (.ok (.ret (.bool (items.size != items2.size)))) _
    rw [hs1, hs2]
    simpa using hR
  | succ k ih =>
    intro i hk hi s h
    obtain ⟨items, items2, n, n2, hl1, hb1, hs1, hs2, turn⟩ := hl _ _ h
    have hlt : i < items.size := by omega
    have hlt2 : i < items2.size := by omega
    have ht := turn hlt hlt2
    obtain ⟨hp, g, d, tk, os⟩ := s
    wp_walk using wpAny_loadPart' hl1, wpAny_loadPart' hb1
    have hi1 : items[((i : Nat) : Int).toNat]? = some items[i] := by simp [hlt]
    have hi2 : items2[((i : Nat) : Int).toNat]? = some items2[i] := by simp [hlt2]
    have hc : ((i : Int) + 1) = ((i + 1 : Nat) : Int) := by omega
    rw [hi1, hi2]
    refine wpAny_bind (wpAny_mono ht (fun r s2 h2 => ?_) fun _ _ x => x)
    obtain ⟨hr, h2⟩ := h2
    subst hr
    have hrec := ih (i + 1) (by omega) (by omega) s2 h2
    obtain ⟨hp2, g2, d2, tk2, os2⟩ := s2
    wp_walk
    rw [hc]
    exact ⟨plainId_quiet plain_eq_loop _, codeAny_builtin entry_eq_loop (by
      rw [Around.under_plainId plain_eq_loop _]
      exact hrec)⟩
theorem list_neG (l b : Addr) (N : Nat) (I : Nat → Shared → Prop) (hl : GQ.ListI prog w A (fun e s' => R (.error e) s') l b N I)
    (fin : ∀ s, I N s → R (.ok (.ret (.bool false))) s) {s : Shared} (h : I 0 s) :
    wpAny (model prog w) A.in1 (Builtin.«list.__ne__» ⟨[.ref l, .ref b], []⟩) (GQ.FinOf prog w A R) (fun e s' => R (.error e) s') s := by
  obtain ⟨items, items2, n, n2, hl1, hb1, hs1, hs2, _⟩ := hl _ _ h
  have hrec := ne_loopG (A := A) (R := R) l b N I hl fin _ 0 rfl (Nat.zero_le _) s h
  obtain ⟨hp, g, d, tk, os⟩ := s
  have f3 := AutoSeq1.sub_list_list
  have hne : ¬ (items.size != items2.size) = true := by simp [hs1, hs2]
  wp_walk using wpAny_loadPart' hl1, wpAny_loadPart' hb1
  exact ⟨plainId_quiet plain_eq_loop _, codeAny_builtin entry_eq_loop (by
    rw [Around.under_plainId plain_eq_loop _]
    exact hrec)⟩
end
section
variable {prog : Program} {w : World} {A : Around} {E : Value → Shared → Prop} {s : Shared}
theorem rc_listNe {l b : Addr} {N : Nat} {Q : Value → Shared → Prop} (hu : A.units < cLine) (I : Nat → Shared → Prop) (hl : GQ.ListI prog w A E l b N I)
    (fin : ∀ s, I N s → Q (.bool false) s) (h : I 0 s) : wpAny (model prog w) A (richCompare .NotEq (.ref l) (.ref b)) Q E s := by
  obtain ⟨items, items2, n, n2, hl1, hb1, _, _, _⟩ := hl _ _ h
  refine wpAny_richCompare_same_room (op := .NotEq) ⟨_, hl1, rfl⟩ ⟨_, hb1, rfl⟩ F.slot_list_ne (GQ.call_here F.slot_list_ne ⟨_, hl1, rfl⟩ F.entry_list_ne (F.args_list_ne_2 _ _) ?_) hu
  exact list_neG (R := wants (fun v s' => v ≠ .notImplemented ∧ Q v s') E) l b N I hl (fun s' q => ⟨(fun x => nomatch x), fin s' q⟩) h
end
end LsN
namespace Ls
open PySem PySem.Spec PyProof.Rows L2
section
variable {X : Cx} {n : Nat} {D : Eqv}
/-- x != y of two lists whose items are equal (by ==, which only makes objects): False -/
def rNeG (D : Eqv) : R2 := fun x y H Q => DList D x y H ∧ ∀ H', Ext H H' → Q (.bl false) H'
theorem op_neG (hD : Mon D) (h : EqG X n D) (hr : Room (n + 1) X.A) : OpR X (compareOp .NotEq) (rNeG D) := by
  intro pins s σ H x y v u Q I rx ry hq
  obtain ⟨⟨a, b, xs, ys, rfl, rfl, ha, hb, p⟩, q⟩ := hq
  cases (show v = Value.ref a from rx)
  cases (show u = Value.ref b from ry)
  show wpAny (model X.prog X.w) X.A (richCompare .NotEq (.ref a) (.ref b)) (EP X pins σ Q) X.xe s
  have sb : L2.Sub X (n + 1) X.A := ⟨hr, rfl⟩
  refine LsN.rc_listNe (N := xs.length) hr.units0 (fun _ s' => LoopI X pins σ H s') (fun i s' q => ?_) (fun s' q' => ?_) ⟨H, I, Ext.rfl'⟩
  · obtain ⟨H1, I1, e1⟩ := id q
    obtain ⟨z, its, k, r, e⟩ := I1.hok a _ (e1 _ _ ha)
    obtain ⟨z2, its2, k2, r2, e2⟩ := I1.hok b _ (e1 _ _ hb)
    refine ⟨its.toArray, its2.toArray, k, k2, e, e2, by rw [List.size_toArray, ← r.length], by rw [List.size_toArray, ← r2.length, ← p.1], fun h1 h2 => ?_⟩
    exact turnG hD h sb p r r2 i h1 h2 s' q
  · obtain ⟨H', I', e'⟩ := q'
    exact ⟨.bl false, H', I', rfl, q H' e'⟩
end
end Ls
end
section
set_option Elab.async false
set_option linter.all false
set_option maxRecDepth 100000
set_option maxHeartbeats 4000000
namespace Ls
open PySem PySem.Spec PyProof.Rows L2

/-! ### callees in one word -/
section
variable (P : Program) (w : World) (K : PySem.W.Frag) (mg : Str → Option Value) (base : Heap) (CX : CXT) (k : Nat)
/-- the def under the module's name x keeps sp -/
structure Cal (x : Str) (sp : Sp) : Prop where
  ex : ∃ f, mg x = some (.ref f) ∧ PySem.W.keepIn K (.ref f) = true ∧ FnR P w K mg base CX k f sp
/-- .. called with one keyword -/
structure CalK (x a : Str) (sp : Sp) : Prop where
  ex : ∃ f fd, mg x = some (.ref f) ∧ PySem.W.keepIn K (.ref f) = true ∧ KBn K fd [a] 0 [a] (fun _ ws => ws) (fun _ zs => zs) ∧ FnOk P w K mg base CX k f fd [a] sp
/-- the class at C under the module's name x; its __init__ keeps sp -/
structure Mkc (C : Addr) (x : Str) (sp : Sp) : Prop where
  ex : ∃ f, mg x = some (.ref C) ∧ Mk K C f ∧ FnR P w K mg base CX k f sp
/-- the classmethod m of the class at C keeps sp -/
structure Clm (C : Addr) (m : Str) (sp : Sp) : Prop where
  ex : ∃ mc p g, ClX.CRead K C mc ∧ ClX.CMet K C mc m p g ∧ FnR P w K mg base CX k g sp
end
def tCl (sp : Sp) (E : XK) (t : TA) : TE := fun σ H Q => t σ H fun vs H1 => sp vs H1 Q E
section
variable {X : Cx} {CX : CXT} {k : Nat} {C : Addr} {sp : Sp} {E : XK} {x m a : Str} {p pos apos : Pos} {e o : PySem.Expr} {es : List PySem.Expr} {kws : List Keyword} {ta : TE} {t tk : TA} {pl : Sem Bool}
theorem pe_cal (c : Cal X.prog X.w X.K X.mg X.base CX k x sp) (hr : Room k X.A) (hg : Gl X x) (hx : Passes CX X E) (ha : PA X (e :: es) t) (hd : (x == ("__debug__" : Str)) = false := by decide)
    (he : starEach (e :: es) X.env = (false, eval e X.env) :: starEach es X.env := by rfl) (hpl : (backTo pos (starEach es X.env)).any (·.1) = false := by rfl) :
    PE X (.Call (.Name x p) (e :: es) [] pos) (tCl sp E t) := by
  obtain ⟨f, hm, hk, F⟩ := c.ex
  refine ⟨fun pins s σ H Q I h => ?_⟩
  refine wpAny_Call_Name_kw (ld_glob I hg hm ?_ hd)
  refine PySem.W.callWith_K (h₀ := X.base) I.ok.mod.kin hk (thn (ha.run pos pins s σ H _ I h) fun us s1 ⟨vs, H1, I1, r, q⟩ => ⟨I1.kIn, ?_⟩) he hpl
  exact wpAny_call (run_fnR F hr hx I1 r q)
theorem pe_calk (c : CalK X.prog X.w X.K X.mg X.base CX k x a sp) (hr : Room k X.A) (hg : Gl X x) (hx : Passes CX X E)
    (hkw : PK X kws tk) (hall : (backToKw pos (keywordEach kws X.env)).all (·.1.isSome) = true := by rfl) (hks : (backToKw pos (keywordEach kws X.env)).filterMap (·.1) = [a] := by rfl)
    (hdb : (x == ("__debug__" : Str)) = false := by decide)
    (hpl : ((backTo pos (starEach [] X.env)).any (·.1) || (backToKw pos (keywordEach kws X.env)).any (·.1.isNone)) = false := by rfl) :
    PE X (.Call (.Name x p) [] kws pos) (tCallN 0 1 sp (fun _ zs => zs) E tNil tk) := by
  obtain ⟨f, fd, hm, hk, hb, F⟩ := c.ex
  exact pe_callK0 F hr hg hm hk hb hx hkw hall hks hdb hpl
theorem pe_mkc (c : Mkc X.prog X.w X.K X.mg X.base CX k C x sp) (hr : Room (k + 1) X.A) (hg : Gl X x) (hx : Passes CX X E) (ha : PA X (e :: es) t) (hdb : (x == ("__debug__" : Str)) = false := by decide)
    (he : starEach (e :: es) X.env = (false, eval e X.env) :: starEach es X.env := by rfl) (hpl : (backTo pos (starEach es X.env)).any (·.1) = false := by rfl) :
    PE X (.Call (.Name x p) (e :: es) [] pos) (StX.tMakeR C sp E t) := by
  obtain ⟨f, hm, M, F⟩ := c.ex
  exact StX.pe_makeR M F hr hg hm hx ha hdb he hpl
theorem pe_clm (c : Clm X.prog X.w X.K X.mg X.base CX k C m sp) (hr : Room k X.A) (ho : PE X o ta) (hx : Passes CX X E) (ha : PA X (e :: es) t)
    (hst : starEach (e :: es) X.env = (false, eval e X.env) :: starEach es X.env := by rfl) (hpl : (backTo pos (starEach es X.env)).any (·.1) = false := by rfl)
    (ht : eval (.Call (.Attribute o m apos) (e :: es) [] pos) X.env = (do
      let ov ← eval o X.env
      standAt apos.atName
      let (f, first) ← holding [ov] (getMethod ov m pl)
      callWith pos f first (backTo pos (starEach (e :: es) X.env)) (backToKw pos (keywordEach [] X.env))) := by rfl) :
    PE X (.Call (.Attribute o m apos) (e :: es) [] pos) (ClX.tCMeth C sp E ta t) := by
  obtain ⟨mc, p, g, r, c, F⟩ := c.ex
  exact ClX.pe_cmeth (pl := pl) ho r c F hr hx ha hst hpl ht
end

theorem iteNo {c : Bool} {A B : Prop} (hc : c = false) (h : B) : if c = true then A else B := by rw [hc, if_neg Bool.false_ne_true]; exact h
theorem strNo {a b : Str} (h : ¬ a = b) : decide (V.str a = V.str b) = false := decide_eq_false fun e => h (V.str.inj e)
theorem iteYes {c : Bool} {A B : Prop} (hc : c = true) (h : A) : if c = true then A else B := by rw [hc, if_pos rfl]; exact h
/-! ### constants of the module -/
section
variable {X : Cx} {x z : Str} {i : Int} {tk : Tok} {a : Addr} {pos : Pos}
theorem pe_gstr (hg : Gl X x) (hm : X.mg x = some (.str z tk)) (hd : (x == ("__debug__" : Str)) = false := by decide) : PE X (.Name x pos) (tC (.str z)) := pe_glob hg hm ⟨_, rfl⟩ hd
theorem pe_gint (hg : Gl X x) (hm : X.mg x = some (.int i tk)) (hd : (x == ("__debug__" : Str)) = false := by decide) : PE X (.Name x pos) (tC (.int i)) := pe_glob hg hm ⟨_, rfl⟩ hd
theorem pe_gref (hg : Gl X x) (hm : X.mg x = some (.ref a)) (hd : (x == ("__debug__" : Str)) = false := by decide) : PE X (.Name x pos) (tC (.ref a)) := pe_glob hg hm rfl hd
theorem pe_gty {T : String} (hg : Gl X x) (hm : X.mg x = none) (hv : bootBuiltins x = some (.type T)) (hn : x ≠ "__name__" := by decide) (hd : (x == ("__debug__" : Str)) = false := by decide) : PE X (.Name x pos) (tC (.ty T)) := pe_bltn hg hm hv rfl hn hd
end

/-! ### what a dict's table says behind a store -/
theorem len_put {κ : Type} [DecidableEq κ] {kvs : List (κ × V)} {k : κ} {x v : V} (h : valV kvs k = some x) : (putK kvs k v).length = kvs.length := by
  unfold putK
  rw [valV_any, h]
  simp
theorem val_same {κ : Type} [DecidableEq κ] {kvs : List (κ × V)} {k : κ} {v : V} : valV (putK kvs k v) k = some v := by rw [valV_put, if_pos rfl]
theorem val_other {κ : Type} [DecidableEq κ] {kvs : List (κ × V)} {k j : κ} {v : V} {r : Option V} (hne : ¬ j = k) (h : valV kvs j = r) : valV (putK kvs k v) j = r := by rw [valV_put, if_neg hne]; exact h

/-! ### heaps that keep all but two objects -/
def Keep (p c : Addr) (H H' : Hp) : Prop := ∀ b o, H b = some o → b ≠ p → b ≠ c → H' b = some o
theorem Keep.refl {p c : Addr} {H : Hp} : Keep p c H H := fun _ _ e _ _ => e
theorem Keep.trans {p c : Addr} {H H1 H2 : Hp} (a : Keep p c H H1) (b : Keep p c H1 H2) : Keep p c H H2 := fun d o e h1 h2 => b d o (a d o e h1 h2) h1 h2
theorem Keep.upd1 {p c : Addr} {H : Hp} {o : HO} : Keep p c H (upd H p o) := fun b u e h1 _ => by rw [upd_ne h1]; exact e
theorem Keep.upd2 {p c : Addr} {H : Hp} {o : HO} : Keep p c H (upd H c o) := fun b u e _ h2 => by rw [upd_ne h2]; exact e
theorem Keep.ext {p c : Addr} {H H' : Hp} (e : Ext H H') : Keep p c H H' := fun b o h _ _ => e b o h
theorem Keep.new {p c a : Addr} {H : Hp} {o : HO} (h : H a = none) : Keep p c H (upd H a o) := Keep.ext (Ext.upd h)

/-! ### rules within a comprehension's block: the written part by its own name -/
section
variable {X : Cx} {K : PySem.W.Frag}
theorem pi_listK {tg l : PySem.Expr} {tl : TE} (hK : X.K = K) (hl : PE X l tl) : PI X tg l (iList K tl) := by subst hK; exact pi_list hl
theorem pi_tupK {tg l : PySem.Expr} {tl : TE} (hK : X.K = K) (hl : PE X l tl) : PI X tg l (iTup K tl) := by subst hK; exact pi_tup hl
def rTupOf (K : PySem.W.Frag) : List V → Hp → VK → Prop := fun xs H Q => ∃ p ys, xs = [.ref p] ∧ ((SqL K H p ys ∧ ∀ l, H l = none → Q (.ref l) (upd H l (.tup ys))) ∨ (SqT K H p ys ∧ Q (.ref p) H))
theorem call_tupK (hK : X.K = K) : CallR X (.type "tuple") (rTupOf K) := by subst hK; exact call_tuple_of
def rLenSeq (K : PySem.W.Frag) : List V → Hp → VK → Prop := fun xs H Q => ∃ p ys, xs = [.ref p] ∧ (SqL K H p ys ∨ SqT K H p ys) ∧ Q (.int ys.length) H
theorem call_lenK (hK : X.K = K) : CallR X (.builtin "len") (rLenSeq K) := by subst hK; exact call_len_seq
theorem call_isiB (hK : X.K = K) : CallR X (.builtin "isinstance") (rIsi K) := by subst hK; exact call_isi
def rJoinK (K : PySem.W.Frag) : V → List V → Hp → VK → Prop := fun x xs H Q => ∃ a p, ∃ ys : List Str, x = .str a ∧ xs = [.ref p] ∧ (SqL K H p (ys.map V.str) ∨ SqT K H p (ys.map V.str)) ∧ (ys.map (·.length)).sum + ys.length * a.length ≤ 16777216 ∧ Q (.str (Txt.join a ys)) H
theorem pe_joinK {o e : PySem.Expr} {to te : TE} {apos pos : Pos} (hK : X.K = K) (ho : PE X o to) (he : PE X e te) (hs : starEach [e] X.env = [(false, eval e X.env)] := by rfl) (hbase : attributeBase o "join" X.env (eval o X.env) = eval o X.env := by rfl) (hline : (apos.endLine == pos.line) = true := by rfl) :
    PE X (.Call (.Attribute o "join" apos) [e] [] pos) (tM1 (rJoinK K) to te) := by subst hK; exact pe_join ho he hs hbase hline
end

/-! ### a list beside [] -/
def rNeNil : R2 := fun x y H Q => ∃ a b xs, x = .ref a ∧ y = .ref b ∧ H a = some (.lst xs) ∧ H b = some (.lst []) ∧ Q (.bl (!xs.isEmpty)) H
def rEqNil : R2 := fun x y H Q => ∃ a b xs, x = .ref a ∧ y = .ref b ∧ H a = some (.lst xs) ∧ H b = some (.lst []) ∧ Q (.bl xs.isEmpty) H
section
variable {X : Cx}
theorem op_neNil {k : Nat} (hr : Room k X.A) : OpR X (compareOp .NotEq) rNeNil := by
  intro pins s σ H x y v u Q I rx ry hq
  obtain ⟨a, b, xs, rfl, rfl, ha, hb, q⟩ := hq
  cases (show v = Value.ref a from rx)
  cases (show u = Value.ref b from ry)
  show wpAny (model X.prog X.w) X.A (richCompare .NotEq (.ref a) (.ref b)) (EP X pins σ Q) X.xe s
  obtain ⟨its, r, p1, _⟩ := I.list (SqL.of (K := X.K) ha)
  obtain ⟨its2, r2, p2, _⟩ := I.list (SqL.of (K := X.K) hb)
  cases r2
  cases r with
  | nil => exact SeqAt.RcNeAt.lists (e := fun _ => true) p1.isList p2.isList rfl hr.units0 (fun j h1 _ => absurd h1 (by simp)) X.prog X.w X.xe _ ⟨.bl false, H, I, rfl, q⟩
  | cons r0 r1 => exact SeqAt.RcNeAt.lists_lengths p1.isList p2.isList (by simp) hr.units0 X.prog X.w X.xe _ ⟨.bl true, H, I, rfl, q⟩
theorem op_eqNil {k : Nat} (hr : Room k X.A) : OpR X (compareOp .Eq) rEqNil := by
  intro pins s σ H x y v u Q I rx ry hq
  obtain ⟨a, b, xs, rfl, rfl, ha, hb, q⟩ := hq
  cases (show v = Value.ref a from rx)
  cases (show u = Value.ref b from ry)
  show wpAny (model X.prog X.w) X.A (richCompare .Eq (.ref a) (.ref b)) (EP X pins σ Q) X.xe s
  obtain ⟨its, r, p1, _⟩ := I.list (SqL.of (K := X.K) ha)
  obtain ⟨its2, r2, p2, _⟩ := I.list (SqL.of (K := X.K) hb)
  cases r2
  cases r with
  | nil => exact SeqAt.RcAt.lists (e := fun _ => true) p1.isList p2.isList rfl hr.units0 (fun j h1 _ => absurd h1 (by simp)) X.prog X.w X.xe _ ⟨.bl true, H, I, rfl, q⟩
  | cons r0 r1 => exact SeqAt.RcAt.lists_lengths p1.isList p2.isList (by simp) hr.units0 X.prog X.w X.xe _ ⟨.bl false, H, I, rfl, q⟩
end
end Ls
end
section
set_option Elab.async false
set_option linter.all false
set_option maxRecDepth 100000
set_option maxHeartbeats 4000000
namespace Ls
open PySem PySem.Spec PyProof.Rows L2

/-! ### parts of a heap -/
/-- what is new in H' beside H -/
def nw (H H' : Hp) : Hp := fun b => match H b with | none => H' b | some _ => none
theorem nw_at {H H' : Hp} {b : Addr} (h : H b = none) : nw H H' b = H' b := by unfold nw; rw [h]
theorem nw_some {H H' : Hp} {b : Addr} {o : HO} (h : nw H H' b = some o) : H b = none ∧ H' b = some o := by
  unfold nw at h
  cases e : H b with
  | none => rw [e] at h; exact ⟨rfl, h⟩
  | some u => rw [e] at h; cases h
theorem nw_ext {H H' : Hp} : Ext (nw H H') H' := fun a o e => (nw_some e).2
/-- new beside H1, where H1 has grown from H: new beside H -/
theorem nw_back {H H1 H2 : Hp} (e : Ext H H1) : Ext (nw H1 H2) (nw H H2) := fun a o h => by
  obtain ⟨h1, h2⟩ := nw_some h
  have : H a = none := by
    cases q : H a with
    | none => rfl
    | some u => rw [e a u q] at h1; cases h1
  rw [nw_at this]; exact h2
theorem nw_more {H H1 H2 : Hp} (e : Ext H1 H2) : Ext (nw H H1) (nw H H2) := fun a o h => by
  obtain ⟨h1, h2⟩ := nw_some h
  rw [nw_at h1]; exact e a o h2
/-- H without the objects at S -/
def hid (S : List Addr) (H : Hp) : Hp := fun b => if b ∈ S then none else H b
theorem hid_at {S : List Addr} {H : Hp} {b : Addr} (h : b ∉ S) : hid S H b = H b := by unfold hid; rw [if_neg h]
theorem hid_some {S : List Addr} {H : Hp} {b : Addr} {o : HO} (h : hid S H b = some o) : b ∉ S ∧ H b = some o := by
  unfold hid at h
  by_cases e : b ∈ S
  · rw [if_pos e] at h; cases h
  · rw [if_neg e] at h; exact ⟨e, h⟩
theorem hid_ext {S : List Addr} {H : Hp} : Ext (hid S H) H := fun a o e => (hid_some e).2
theorem hid_nil {H : Hp} : hid [] H = H := by funext b; unfold hid; simp
theorem hid_mono {S : List Addr} {H H' : Hp} (e : Ext H H') : Ext (hid S H) (hid S H') := fun a o h => by
  obtain ⟨h1, h2⟩ := hid_some h
  rw [hid_at h1]; exact e a o h2
/-- a fresh place more is hidden -/
theorem hid_cons {S : List Addr} {H : Hp} {D : Addr} (h : H D = none) : Ext (hid S H) (hid (D :: S) H) := fun a o e => by
  obtain ⟨h1, h2⟩ := hid_some e
  have : a ≠ D := ne_of_none h2 h
  rw [hid_at (by simp [this, h1])]; exact h2
theorem hid_less {S S' : List Addr} {H : Hp} (h : ∀ b ∈ S', b ∈ S) : Ext (hid S H) (hid S' H) := fun a o e => by
  obtain ⟨h1, h2⟩ := hid_some e
  rw [hid_at fun z => h1 (h a z)]; exact h2
theorem hid_upd {S : List Addr} {H : Hp} {D : Addr} {o : HO} (h : D ∈ S) : hid S (upd H D o) = hid S H := by
  funext b
  unfold hid
  by_cases e : b ∈ S
  · rw [if_pos e, if_pos e]
  · rw [if_neg e, if_neg e, upd_ne (show b ≠ D from fun z => e (by rw [z]; exact h))]
theorem hid_upd_new {S : List Addr} {H : Hp} {a : Addr} {o : HO} (h : H a = none) : Ext (hid S H) (hid S (upd H a o)) := hid_mono (Ext.upd h)
/-- what is new beside H lies outside of what stood -/
theorem nw_hid {S : List Addr} {H H' : Hp} (h : ∀ b ∈ S, H b ≠ none) : Ext (nw H H') (hid S H') := fun a o e => by
  obtain ⟨h1, h2⟩ := nw_some e
  rw [hid_at fun z => h a z h1]; exact h2
theorem hid_keep {p c : Addr} {H H' : Hp} (k : Keep p c H H') : Ext (hid [p, c] H) (hid [p, c] H') := fun a o e => by
  obtain ⟨h1, h2⟩ := hid_some e
  rw [hid_at h1]
  exact k a o h2 (fun z => h1 (by simp [z])) fun z => h1 (by simp [z])

theorem hid_keepS {p c : Addr} {S : List Addr} {H H' : Hp} (k : Keep p c H H') (hp : p ∈ S) (hc : c ∈ S) : Ext (hid S H) (hid S H') := fun a o e => by
  obtain ⟨h1, h2⟩ := hid_some e
  rw [hid_at h1]
  exact k a o h2 (fun z => h1 (by rw [z]; exact hp)) fun z => h1 (by rw [z]; exact hc)
theorem Ext.at' {S : List Addr} {H H' : Hp} (e : Ext (hid S H) (hid S H')) {a : Addr} {o : HO} (h : a ∉ S) (q : H a = some o) : H' a = some o := (hid_some (e a o (by rw [hid_at h]; exact q))).2

/-! ### a comprehension that makes one item a turn: R tells what the items are, in the heap without S -/
section
variable {J : It} {n : Nat} {G : Hp → Prop} {Y : Nat → Hp → V → Hp → Prop} {g : TG} {te : TE} {vs : List Nat} {σ : L2.St} {H1 : Hp} {D : Addr} {Qd : Hp → Prop}
theorem lc_map (w : Walk J n G Y) (S : List Addr) (hS : D ∈ S) (Iv : Hp → Prop) (R : Nat → V → Hp → Prop) (hn : n ≤ 100000) (hm : ∀ j y H H', Ext H H' → R j y H → R j y H')
    (hIv : ∀ H o, Iv H → Iv (upd H D o)) (h0 : Iv (upd H1 D (.lst []))) (hG : ∀ H, Ext (hid S H1) (hid S H) → Iv H → G H)
    (hs : ∀ i x H H' acc (C : VK), i < n → Ext (hid S H1) (hid S H) → Iv H → H D = some (.lst acc) → Y i H x H' → (∀ y H4, H4 D = some (.lst acc) → Ext (hid S H) (hid S H4) → Iv H4 → R i y (hid S H4) → C y H4) →
      g x (wipe σ vs) H' fun σ2 H2 => wipe σ2 vs = wipe σ vs ∧ te σ2 H2 C)
    (hd : ∀ H ys, Ext (hid S H1) (hid S H) → Iv H → H D = some (.lst ys) → ys.length = n → (∀ j y, ys[j]? = some y → R j y (hid S H)) → Qd H) :
    ∃ W : Nat → Nat → Hp → Prop, (∃ m, W 0 m (upd H1 D (.lst []))) ∧ ∀ i m H, W i m H →
      (J.stop i H ∧ Qd H) ∨ (J.go i H ∧ ∃ Nx : Hp → Prop, (∀ H', Nx H' → ∃ m', m' < m ∧ W (i + 1) m' H') ∧ ∀ x H', J.yld i H x H' → g x (wipe σ vs) H' fun σ2 H2 => wipe σ2 vs = wipe σ vs ∧ tYes σ2 H2 fun b H3 =>
        if b = true then te σ2 H3 fun y H4 => ∃ acc, H4 D = some (.lst acc) ∧ acc.length < sizeLine ∧ Nx (upd H4 D (.lst (acc ++ [y]))) else Nx H3) := by
  refine lc_it w (fun i H => ∃ ys : List V, H D = some (.lst ys) ∧ ys.length = i ∧ Ext (hid S H1) (hid S H) ∧ Iv H ∧ ∀ j y, ys[j]? = some y → R j y (hid S H))
    ⟨[], upd_same, rfl, by rw [hid_upd hS]; exact Ext.rfl', h0, fun j y e => by simp at e⟩ (fun i H _ ⟨_, _, _, e, iv, _⟩ => hG H e iv) ?_ ?_
  · rintro i x H H' hi ⟨ys, hD, hl, e, iv, r⟩ y
    refine hs i x H H' ys _ hi e iv hD y fun v H4 h4 e4 iv4 r4 => ?_
    refine ⟨ys, h4, Nat.lt_of_le_of_lt (show ys.length ≤ 100000 by omega) (by decide), ys ++ [v], upd_same, by rw [List.length_append, hl]; rfl, by rw [hid_upd hS]; exact e.trans e4, hIv _ _ iv4, fun j z hz => ?_⟩
    rw [hid_upd hS]
    by_cases hj : j < ys.length
    · rw [List.getElem?_append_left hj] at hz
      exact hm j z _ _ e4 (r j z hz)
    · rw [List.getElem?_append_right (by omega)] at hz
      have : j = i := by
        cases q : j - ys.length with
        | zero => omega
        | succ k => rw [q] at hz; simp at hz
      subst this
      rw [hl] at hz
      simp at hz
      subst hz
      exact r4
  · rintro H ⟨ys, hD, hl, e, iv, r⟩
    exact hd H ys e iv hD hl r
end
end Ls
end
section
set_option Elab.async false
set_option linter.all false
set_option maxRecDepth 100000
set_option maxHeartbeats 4000000
namespace K94
open PySem PySem.Spec PyProof.Rows L2 Ls
open C8 (pss_cut tCut)
def top (i : Nat) : Stmt := PySem.Challenge.pw_loopstow_k94_plans_written.main.body.getD i (.Pass ⟨0, 0, 0, 0⟩)
def bns : List Str := ["len", "int", "abs", "list", "str", "isinstance", "all", "enumerate", "range", "tuple", "super"]
def lettersS : Str := "abcdefghijklmnopqrstuvwxyz"
/-- what the top has left, for the defs -/
structure Tx (K : PySem.W.Frag) (mg : Str → Option Value) (CM CL CA CS CF mw : Addr) (tL tN : Tok) : Prop where
  bn : ∀ x ∈ bns, mg x = none
  m_LETTERS : mg "LETTERS" = some (.str lettersS tL)
  m_LONGEST_NAME : mg "LONGEST_NAME" = some (.int 6 tN)
  m_MOVE_WORDS : mg "MOVE_WORDS" = some (.ref mw)
  m_Move : mg "Move" = some (.ref CM)

/-! ### the pen -/
abbrev kC : Key := Sum.inr "cells"
abbrev kR : Key := Sum.inr "rest"
abbrev kS : Key := Sum.inr "seed"
abbrev kN : Key := Sum.inr "count"
structure PenS (kvs : List (Key × V)) (c : Addr) (r sd ct : Int) : Prop where
  len : kvs.length ≤ 4
  vc : valV kvs kC = some (.ref c)
  vr : valV kvs kR = some (.int r)
  vs : valV kvs kS = some (.int sd)
  vn : valV kvs kN = some (.int ct)
theorem PenS.putR {kvs : List (Key × V)} {c : Addr} {r sd ct : Int} (h : PenS kvs c r sd ct) (r' : Int) : PenS (putK kvs kR (.int r')) c r' sd ct :=
  ⟨by rw [len_put h.vr]; exact h.len, val_other (by decide +kernel) h.vc, val_same, val_other (by decide +kernel) h.vs, val_other (by decide +kernel) h.vn⟩
theorem PenS.putS {kvs : List (Key × V)} {c : Addr} {r sd ct : Int} (h : PenS kvs c r sd ct) (r' : Int) : PenS (putK kvs kS (.int r')) c r r' ct :=
  ⟨by rw [len_put h.vs]; exact h.len, val_other (by decide +kernel) h.vc, val_other (by decide +kernel) h.vr, val_same, val_other (by decide +kernel) h.vn⟩
theorem PenS.putN {kvs : List (Key × V)} {c : Addr} {r sd ct : Int} (h : PenS kvs c r sd ct) (r' : Int) : PenS (putK kvs kN (.int r')) c r sd r' :=
  ⟨by rw [len_put h.vn]; exact h.len, val_other (by decide +kernel) h.vc, val_other (by decide +kernel) h.vr, val_other (by decide +kernel) h.vs, val_same⟩
theorem PenS.small {kvs : List (Key × V)} {c : Addr} {r sd ct : Int} (h : PenS kvs c r sd ct) : kvs.length < sizeLine := small1000 (Nat.le_trans h.len (by decide))
/-- a pen stands at p, its cells at c -/
def PenAt (H : Hp) (p c : Addr) : Prop := ∃ (kvs : List (Key × V)) (ns : List Int) (r sd ct : Int), H p = some (.dK kvs) ∧ PenS kvs c r sd ct ∧ H c = some (.lst (ns.map V.int)) ∧ 0 ≤ r
theorem dg {H : Hp} {p : Addr} {kvs : List (Key × V)} {k : Key} {v : V} (hp : H p = some (.dK kvs)) (hv : valV kvs k = some v) : DGet H p (kV k) (some v) := hv ▸ DGet.k hp
def spDraw : Sp := fun vs H Q _ => ∃ (p c : Addr) (many : Int), vs = [.ref p, .int many] ∧ PenAt H p c ∧ 0 < many ∧ many < 1073741824 ∧
  ∀ (j : Int) (H' : Hp), 0 ≤ j → j < many → PenAt H' p c → Keep p c H H' → Q (.int j) H'
section
variable {P : Program} {w : World} {K : PySem.W.Frag} {mg : Str → Option Value} {base : Heap} {CM CL CA CS CF mw : Addr} {tL tN : Tok}
abbrev s__law_draw : Stmt := top 28
abbrev N__law_draw : List Str := ["_law_pen_here", "_law_many", "_law_cell", "_law_digit"]
theorem sc__law_draw : FnScope N__law_draw ["_law_pen_here", "_law_many"] (defScope s__law_draw) := ⟨rfl, rfl, rfl, by decide +kernel, rfl, by decide +kernel, by decide +kernel⟩
theorem ok_draw {f : Addr} {fd : FuncData} (F : Fun K "_law_draw" "_law_draw" s__law_draw f fd) (T : Tx K mg CM CL CA CS CF mw tL tN) : FnOk P w K mg base CX0 1 f fd ["_law_pen_here", "_law_many"] spDraw := by
  refine F.ok sc__law_draw (fun vs H Q E h => ?_) (fun cdv A outer s H vs Q E hr h => ?_)
  · obtain ⟨p, c, many, rfl, _⟩ := h
    rfl
  · obtain ⟨p, c, many, rfl, hpen, m0, m1, k⟩ := h
    have hu := hu_of hr
    refine ⟨_, (pss_cut (ps_if ((pw_and (pt_cmpR op_eq (pe_dget hu (pv 0) pe_str (fun _ _ => rfl)) pe_int (nomark _)) (pw_and1 (pt_cmpR (op_neNil hr) (pe_dget hu (pv 0) pe_str (fun _ _ => rfl)) (pe_lst pa_nil) (nomark _))))).pt (pss_cons (ps_set (i := 2) sc__law_draw.nd rfl (by first | exact Or.inl rfl | exact Or.inr rfl) (pe_callB call_abs (by rfl) (T.bn _ (by decide +kernel)) (by decide +kernel) (pa_cons (pe_callTy call_int1 (by rfl) (T.bn _ (by decide +kernel)) (by decide +kernel) (pa_cons (pe_bm PySem.F.plainAttrs_list PySem.F.slot_list_pop PySem.F.type_list_pop mt_popAt (pe_dget hu (pv 0) pe_str (fun _ _ => rfl)) (pa_cons pe_int pa_nil)) pa_nil)) pa_nil)))
      (pss_cons (ps_dput hu (pv 0) pe_str (pv 2) rfl)
      (pss_one (ps_dput hu (pv 0) pe_str (pe_op op_mod (pe_callTy call_int1 (by rfl) (T.bn _ (by decide +kernel)) (by decide +kernel) (pa_cons (pe_op op_add (pe_op op_mul (pe_callTy call_int1 (by rfl) (T.bn _ (by decide +kernel)) (by decide +kernel) (pa_cons (pe_dget hu (pv 0) pe_str (fun _ _ => rfl)) pa_nil)) pe_int) (pv 2)) pa_nil)) pe_int) rfl)))) pss_nil)
      (pss_cons (ps_if (pt_cmpR op_gt (pe_dget hu (pv 0) pe_str (fun _ _ => rfl)) pe_int (nomark _)) (pss_cons (ps_set (i := 3) sc__law_draw.nd rfl (by first | exact Or.inl rfl | exact Or.inr rfl) (pe_op op_mod (pe_callTy call_int1 (by rfl) (T.bn _ (by decide +kernel)) (by decide +kernel) (pa_cons (pe_dget hu (pv 0) pe_str (fun _ _ => rfl)) pa_nil)) (pv 1)))
      (pss_cons (ps_dput hu (pv 0) pe_str (pe_op op_fdiv (pe_callTy call_int1 (by rfl) (T.bn _ (by decide +kernel)) (by decide +kernel) (pa_cons (pe_dget hu (pv 0) pe_str (fun _ _ => rfl)) pa_nil)) (pv 1)) rfl)
      (pss_one (ps_ret (pv 3))))) pss_nil)
      (pss_cons (ps_dput hu (pv 0) pe_str (pe_op op_add (pe_callTy call_int1 (by rfl) (T.bn _ (by decide +kernel)) (by decide +kernel) (pa_cons (pe_dget hu (pv 0) pe_str (fun _ _ => rfl)) pa_nil)) pe_int) rfl)
      (pss_cons (ps_dput hu (pv 0) pe_str (pe_op op_mod (pe_callTy call_int1 (by rfl) (T.bn _ (by decide +kernel)) (by decide +kernel) (pa_cons (pe_op op_add (pe_op op_mul (pe_callTy call_int1 (by rfl) (T.bn _ (by decide +kernel)) (by decide +kernel) (pa_cons (pe_dget hu (pv 0) pe_str (fun _ _ => rfl)) pa_nil)) pe_int) (pe_op op_mul pe_int (pe_callTy call_int1 (by rfl) (T.bn _ (by decide +kernel)) (by decide +kernel) (pa_cons (pe_dget hu (pv 0) pe_str (fun _ _ => rfl)) pa_nil)))) pa_nil)) pe_int) rfl)
      (pss_one (ps_ret (pe_op op_mod (pe_callTy call_int1 (by rfl) (T.bn _ (by decide +kernel)) (by decide +kernel) (pa_cons (pe_op op_fdiv (pe_callTy call_int1 (by rfl) (T.bn _ (by decide +kernel)) (by decide +kernel) (pa_cons (pe_dget hu (pv 0) pe_str (fun _ _ => rfl)) pa_nil)) pe_int) pa_nil)) (pv 1)))))))), ?_⟩
    obtain ⟨kvs, ns, r, sd, ct, hp, S, hc, hr0⟩ := hpen
    have npc : p ≠ c := ne_of hp hc (by intro z; cases z)
    -- behind the first if: the pen again, with the same cells' place
    refine ⟨fun σ' H' => ∃ x, σ' = [some (.ref p), some (.int many), x, none] ∧ PenAt H' p c ∧ Keep p c H H', ?_, ?_⟩
    · refine ⟨_, rfl, p, _, rfl, dg (k := kR) hp S.vr, rfl, _, rfl, ?_⟩
      refine ite2 (fun _ => ?_) (fun _ => ?_)
      · refine ⟨_, rfl, p, _, rfl, dg (k := kC) hp S.vc, (by show 0 ≤ sizeLine; decide), fun l hl => ?_⟩
        have npl : p ≠ l := ne_of_none hp hl
        have ncl : c ≠ l := ne_of_none hc hl
        refine ⟨c, l, _, rfl, rfl, by rw [upd_ne ncl]; exact hc, upd_same, _, rfl, ?_⟩
        have hp1 : (upd H l (.lst [])) p = some (.dK kvs) := by rw [upd_ne npl]; exact hp
        have hc1 : (upd H l (.lst [])) c = some (.lst (ns.map V.int)) := by rw [upd_ne ncl]; exact hc
        cases ns with
        | nil =>
          refine iteF ?_
          exact ⟨_, rfl, ⟨kvs, [], r, sd, ct, hp1, S, hc1, hr0⟩, Keep.new hl⟩
        | cons n ns =>
          refine iteT ?_
          refine ⟨_, rfl, p, _, rfl, dg (k := kC) hp1 S.vc, .inl ⟨rfl, _, SqL.of hc1⟩, c, _, 0, 0, .int n, rfl, rfl, hc1, by decide, by decide, by simp [seqIndex?], rfl, ?_⟩
          refine .inl ⟨n, rfl, n, rfl, ?_⟩
          have hp2 : (upd (upd H l (.lst [])) c (.lst (ns.map V.int))) p = some (.dK kvs) := by rw [upd_ne npc]; exact hp1
          have hn : 0 ≤ (if n < 0 then -n else n) := by split <;> omega
          refine ⟨_, rfl, _, rfl, p, _, rfl, DPut.k (k := kR) hp2 S.small, ?_⟩
          have S3 := S.putR (if n < 0 then -n else n)
          refine ⟨_, rfl, p, _, rfl, dg (k := kS) upd_same S3.vs, .inl ⟨_, rfl, _, _, rfl, rfl, .inr ⟨by decide, by decide⟩, _, rfl, _, _, rfl, rfl, .inl ⟨_, rfl, _, _, rfl, rfl, (by show (0 : Int) < 2147483587; decide), ?_⟩⟩⟩
          refine ⟨_, rfl, p, _, rfl, DPut.k (k := kS) upd_same S3.small, ?_⟩
          refine ⟨_, rfl, ⟨_, ns, _, _, ct, upd_same, S3.putS _, ?_, hn⟩, ?_⟩
          · rw [upd_ne npc.symm, upd_ne npc.symm, upd_same]; rfl
          · intro b o e h1 h2
            rw [upd_ne h1, upd_ne h1, upd_ne h2, upd_ne (ne_of_none e hl)]
            exact e
      · exact ⟨_, rfl, ⟨kvs, ns, r, sd, ct, hp, S, hc, hr0⟩, Keep.refl⟩
    · rintro σ' H1 ⟨x, rfl, ⟨kvs, ns, r, sd, ct, hp, S, hc, hr0⟩, kp⟩
      refine ⟨_, rfl, p, _, rfl, dg (k := kR) hp S.vr, _, _, rfl, rfl, _, rfl, ?_⟩
      refine ite2 (fun hpos => ?_) (fun _ => ?_)
      · have hpos' : 0 < r := by simpa using hpos
        refine ⟨_, rfl, p, _, rfl, dg (k := kR) hp S.vr, .inl ⟨_, rfl, _, rfl, _, _, rfl, rfl, m0, ?_⟩⟩
        refine ⟨_, rfl, p, _, rfl, dg (k := kR) hp S.vr, .inl ⟨_, rfl, _, rfl, _, _, rfl, rfl, ⟨m0, m1⟩, ?_⟩⟩
        refine ⟨_, rfl, p, _, rfl, DPut.k (k := kR) hp S.small, ?_⟩
        refine ⟨_, rfl, k _ _ (Int.emod_nonneg _ (by omega)) (Int.emod_lt_of_pos _ m0) ⟨_, ns, _, sd, ct, upd_same, S.putR _, by rw [upd_ne npc.symm]; exact hc, Int.ediv_nonneg (by omega) (by omega)⟩ (kp.trans Keep.upd1)⟩
      · refine ⟨_, rfl, p, _, rfl, dg (k := kN) hp S.vn, .inl ⟨_, rfl, _, _, rfl, rfl, ?_⟩⟩
        refine ⟨_, rfl, p, _, rfl, DPut.k (k := kN) hp S.small, ?_⟩
        have S1 := S.putN (ct + 1)
        refine ⟨_, rfl, p, _, rfl, dg (k := kS) upd_same S1.vs, .inl ⟨_, rfl, _, _, rfl, rfl, .inr ⟨by decide, by decide⟩, ?_⟩⟩
        refine ⟨_, rfl, p, _, rfl, dg (k := kN) upd_same S1.vn, .inl ⟨_, rfl, _, _, rfl, rfl, .inl ⟨by decide, by decide⟩, _, _, rfl, rfl, .inl ⟨_, rfl, _, _, rfl, rfl, (by show (0 : Int) < 2147483587; decide), ?_⟩⟩⟩
        refine ⟨_, rfl, p, _, rfl, DPut.k (k := kS) upd_same S1.small, ?_⟩
        refine ⟨_, rfl, p, _, rfl, dg (k := kS) upd_same (S1.putS _).vs, .inl ⟨_, rfl, _, _, rfl, rfl, ⟨by decide, by decide⟩, .inl ⟨_, rfl, _, rfl, _, _, rfl, rfl, m0, ?_⟩⟩⟩
        refine k _ _ (Int.emod_nonneg _ (by omega)) (Int.emod_lt_of_pos _ m0) ⟨_, ns, r, _, _, upd_same, S1.putS _, ?_, hr0⟩ (kp.trans (Keep.upd1.trans Keep.upd1))
        rw [upd_ne npc.symm, upd_ne npc.symm]
        exact hc
end
end K94
end
section
set_option Elab.async false
set_option autoImplicit false
set_option linter.all false
set_option maxRecDepth 100000
set_option maxHeartbeats 4000000
namespace K94
open PySem PySem.Spec PyProof.Rows L2 Ls
open C8 (pss_cut tCut)
open TL

/-! ### the data -/
def W4 : List Str := ["load", "again", "store", "forget"]
def isName (z : Str) : Bool := decide (1 ≤ z.length) && (decide (z.length ≤ 6) && (tl z).all fun c => decide (c ∈ tl lettersS))
def textM (m : Str × Str) : Str := m.1 ++ " " ++ m.2
def Good (m : Str × Str) : Prop := m.1 ∈ W4 ∧ isName m.2 = true
theorem name_len {z : Str} (h : isName z = true) : 1 ≤ z.length ∧ z.length ≤ 6 := by
  unfold isName at h
  simp only [Bool.and_eq_true, decide_eq_true_eq] at h
  exact ⟨h.1, h.2.1⟩
theorem name_sub {z : Str} (h : isName z = true) : ∀ c ∈ tl z, c ∈ tl lettersS := by
  unfold isName at h
  simp only [Bool.and_eq_true, decide_eq_true_eq, List.all_eq_true] at h
  exact h.2.2
theorem name_no {z : Str} (h : isName z = true) {c : Nat} (hc : c ∉ tl lettersS) : c ∉ tl z := fun hm => hc (name_sub h c hm)
theorem w4_cases {w : Str} (h : w ∈ W4) : w = "load" ∨ w = "again" ∨ w = "store" ∨ w = "forget" := by simpa [W4] using h
theorem w4_name {w : Str} (h : w ∈ W4) : isName w = true := by
  rcases w4_cases h with rfl | rfl | rfl | rfl <;> decide +kernel
/-- the fields of a move -/
def flds (w n : Str) : List (Str × V) := putF "name" (.str n) (putF "word" (.str w) [])
theorem nwn : ¬ (("word" : Str) = "name") := by decide +kernel
theorem flds_word (w n : Str) : (flds w n).lookup ("word" : Str) = some (.str w) := by
  unfold flds
  rw [lookup_putF, if_neg nwn, lookup_putF, if_pos rfl]
theorem flds_name (w n : Str) : (flds w n).lookup ("name" : Str) = some (.str n) := by
  unfold flds
  rw [lookup_putF, if_pos rfl]
def clsOf (CL CA CS CF : Addr) (w : Str) : Addr := if w = "load" then CL else if w = "again" then CA else if w = "store" then CS else CF
/-- a move stands at a -/
def MoveAt (cl : Str → Addr) (H : Hp) (a : Addr) (m : Str × Str) : Prop := ∃ dx, H a = some (.ins (cl m.1) dx (flds m.1 m.2))
theorem MoveAt.mono {cl : Str → Addr} {H H' : Hp} {a : Addr} {m : Str × Str} (e : Ext H H') (h : MoveAt cl H a m) : MoveAt cl H' a m := let ⟨dx, q⟩ := h; ⟨dx, e _ _ q⟩
/-- what the top says of a class of moves -/
structure ClT (K : PySem.W.Frag) (CM C fs fe : Addr) : Prop where
  cl : Cls K C
  nW : NoAttr K C "word"
  nN : NoAttr K C "name"
  ha : PySem.W.findIn K (.ref C) "__class__" = some (some (.builtin "object.__class__"))
  hn : PySem.W.specialIn K (.builtin "object.__class__") "__get__" = some (some (.builtin "getset_descriptor.__get__"))
  htk : PySem.W.takesIn K (.builtin "object.__class__") = some true
  hm : PySem.W.mroIn K C (.type "object") = some true
  kit : PySem.W.kitOne K (.ref C) (.ref CM) = some true
  st : PySem.W.findIn K (.ref C) "__str__" = some (some (.ref fs))
  eq : PySem.W.findIn K (.ref C) "__eq__" = some (some (.ref fe))

section
variable {P : Program} {w : World} {K : PySem.W.Frag} {mg : Str → Option Value} {base : Heap} {CM CL CA CS CF mw : Addr} {tL tN : Tok}
/-! ### is_name -/
def spName : Sp := fun vs H Q _ => ∃ z : Str, vs = [.str z] ∧ z.length ≤ 1000 ∧ ∀ H', Ext H H' → Q (.bl (isName z)) H'
abbrev s_is_name : Stmt := top 10
abbrev N_is_name : List Str := ["value", "letter"]
theorem sc_is_name : FnScope N_is_name ["value"] (defScope s_is_name) := ⟨rfl, rfl, rfl, by decide +kernel, rfl, by decide +kernel, by decide +kernel⟩
theorem ok_name {f : Addr} {fd : FuncData} (F : Fun K "is_name" "is_name" s_is_name f fd) (T : Tx K mg CM CL CA CS CF mw tL tN) : FnOk P w K mg base CX0 1 f fd ["value"] spName := by
  refine F.ok sc_is_name (fun vs H Q E h => ?_) (fun cdv A outer s H vs Q E hr h => ?_)
  · obtain ⟨z, rfl, _⟩ := h
    rfl
  · obtain ⟨z, rfl, hz, k⟩ := h
    refine ⟨_, (pss_cons (ps_if ((pw_or (pt_not (pt_val (pe_callB call_isi (by rfl) (T.bn _ (by decide +kernel)) (by decide +kernel) (pa_cons (pv 0) (pa_cons (pe_gty (T := "str") (by rfl) (T.bn _ (by decide +kernel)) (by decide +kernel)) pa_nil))))) (pw_or1 (pt_not (pt_chain op_le op_le pe_int (pe_callB call_len_str (by rfl) (T.bn _ (by decide +kernel)) (by decide +kernel) (pa_cons (pv 0) pa_nil)) (pe_gint (by rfl) T.m_LONGEST_NAME)))))).pt (pss_one (ps_ret pe_bl)) pss_nil)
      (pss_one (ps_ret (pe_callB (cr_all rfl) (by rfl) (T.bn _ (by decide +kernel)) (by decide +kernel) (pa_cons (pe_lc (own := [("letter", 1)]) rfl sc_is_name.nd (pi_str (pv 0)) (blkOk_by (own := [("letter", 1)]) (N := N_is_name) (sc := defScope s_is_name) (by decide +kernel)) (fun _ _ _ _ _ => (pg_name (i := 1) sc_is_name.nd rfl (by first | exact Or.inl rfl | exact Or.inr rfl))) (fun _ _ _ _ _ => pts_nil) (fun _ _ _ _ _ => (pe_cmpR op_in_sign (pv 1) (pe_gstr (by rfl) T.m_LETTERS) rfl))) pa_nil))))), ?_⟩
    have hzl : z.length ≤ sizeLine := Nat.le_of_lt (small1000 hz)
    refine ⟨_, rfl, _, _, _, _, true, rfl, .ty "str", .base (.str z), kit_ty (by decide +kernel), _, rfl, ?_⟩
    refine iteF ?_
    refine ⟨_, rfl, z, rfl, hzl, _, _, rfl, rfl, ?_⟩
    by_cases h1 : 1 ≤ z.length
    · refine ⟨true, by simp; omega, ?_⟩
      refine iteT ?_
      refine ⟨_, _, rfl, rfl, ?_⟩
      by_cases h6 : z.length ≤ 6
      · refine ⟨true, by simp; omega, ?_⟩
        refine iteF ?_
        -- the signs
        refine ⟨_, rfl, z, rfl, fun D hD => ?_⟩
        refine lc_map walk_str [D] (by simp) (fun _ => True) (fun i y _ => ∃ c, z.cps[i]? = some c ∧ y = .bl (decide (c ∈ tl lettersS))) (by have : z.length = z.cps.size := rfl; omega) (fun _ _ _ _ _ h => h) (fun _ _ _ => trivial) trivial (fun _ _ _ => trivial) ?_ ?_
        · rintro i x H1 H2 acc C hi e _ hD1 ⟨rfl, c, hc, rfl⟩ hC
          refine ⟨rfl, _, rfl, c, _, rfl, rfl, hC _ _ hD1 Ext.rfl' trivial ⟨c, hc, rfl⟩⟩
        · intro H1 ys e _ hD1 hl hy
          have hys : ys = ((tl z).map fun c => decide (c ∈ tl lettersS)).map V.bl := by
            refine List.ext_getElem? fun j => ?_
            cases q : ys[j]? with
            | none =>
              have : ys.length ≤ j := List.getElem?_eq_none_iff.mp q
              symm
              rw [List.getElem?_eq_none_iff]
              simp
              have : z.cps.size ≤ j := by omega
              exact this
            | some y =>
              obtain ⟨c, hc, rfl⟩ := hy j y q
              have hc' : (tl z)[j]? = some c := by rw [← hc]; simp [tl]
              simp [List.getElem?_map, hc']
          subst hys
          refine ⟨D, _, rfl, SqL.of hD1, ?_⟩
          have e1 : isName z = (((tl z).map fun c => decide (c ∈ tl lettersS)).all id) := by
            unfold isName
            rw [decide_eq_true h1, decide_eq_true h6, Bool.true_and, Bool.true_and, List.all_map]
            rfl
          rw [← e1]
          refine k _ fun b o q => ?_
          have := e b o (by rw [hid_at (by simpa using ne_of_none q hD)]; exact q)
          exact (hid_some this).2
      · refine ⟨false, by simp; omega, ?_⟩
        refine iteT ?_
        have e1 : isName z = false := by unfold isName; rw [decide_eq_false h6, Bool.false_and, Bool.and_false]
        have := k H Ext.rfl'
        rw [e1] at this
        exact this
    · refine ⟨false, by simp; omega, ?_⟩
      refine iteF ?_
      refine ⟨false, rfl, ?_⟩
      refine iteT ?_
      have e1 : isName z = false := by unfold isName; rw [decide_eq_false h1, Bool.false_and]
      have := k H Ext.rfl'
      rw [e1] at this
      exact this
end
end K94
end
section
set_option Elab.async false
set_option autoImplicit false
set_option linter.all false
set_option maxRecDepth 100000
set_option maxHeartbeats 4000000
namespace K94
open PySem PySem.Spec PyProof.Rows L2 Ls
open C8 (pss_cut tCut)
open TL
section
variable {P : Program} {w : World} {K : PySem.W.Frag} {mg : Str → Option Value} {base : Heap} {CM CL CA CS CF mw : Addr} {tL tN : Tok}
/-! ### Move.__init__ -/
def spMI (K : PySem.W.Frag) : Sp := fun vs H Q _ => ∃ (x C dx : Addr) (wd n : Str), vs = [.ref x, .str wd, .str n] ∧ H x = some (.ins C dx []) ∧ Cls K C ∧ NoAttr K C "word" ∧ NoAttr K C "name" ∧ isName n = true ∧
  ∀ H', H' x = some (.ins C dx (flds wd n)) → (∀ b o, H b = some o → b ≠ x → H' b = some o) → Q .non H'
abbrev s_Move_init : Stmt := inClass (top 12) 0
abbrev N_Move_init : List Str := ["self", "word", "name"]
theorem sc_Move_init : FnScope N_Move_init ["self", "word", "name"] (defScope s_Move_init) := ⟨rfl, rfl, rfl, by decide +kernel, rfl, by decide +kernel, by decide +kernel⟩
theorem ok_MI {f : Addr} {fd : FuncData} (F : Fun K "__init__" "Move.__init__" s_Move_init f fd) (T : Tx K mg CM CL CA CS CF mw tL tN) (c_is_name : Cal P w K mg base CX0 1 "is_name" spName) : FnOk P w K mg base CX0 2 f fd ["self", "word", "name"] (spMI K) := by
  refine F.ok sc_Move_init (fun vs H Q E h => ?_) (fun cdv A outer s H vs Q E hr h => ?_)
  · obtain ⟨x, C, dx, wd, n, rfl, _⟩ := h
    rfl
  · obtain ⟨x, C, dx, wd, n, rfl, hx, cl, nW, nN, hn, k⟩ := h
    refine ⟨_, (pss_cons (ps_if (pt_not (pt_val (pe_cal c_is_name (hr.mono (by decide)) (by rfl) pass0 (pa_cons (pv 2) pa_nil)))) (pss_one ps_never) pss_nil)
      (pss_cons (ps_fld (pv 0) (pv 1) rfl)
      (pss_one (ps_fld (pv 0) (pv 2) rfl)))), ?_⟩
    refine ⟨_, rfl, n, rfl, Nat.le_trans (name_len hn).2 (by decide), fun H1 e1 => ⟨_, rfl, ?_⟩⟩
    rw [hn]
    refine iteF ?_
    have hx1 := e1 _ _ hx
    refine ⟨_, rfl, _, rfl, x, C, dx, _, rfl, hx1, cl, nW, (by show 0 < 1000; decide), ?_⟩
    refine ⟨_, rfl, _, rfl, x, C, dx, _, rfl, upd_same, cl, nN, (by show 1 < 1000; decide), ?_⟩
    refine k _ upd_same fun b o q hb => ?_
    rw [upd_ne hb, upd_ne hb]
    exact e1 b o q
/-! ### Load, Again, Store, Forget: __init__ -/
/-- the word of the class is written; the rest is Move's -/
def spCI (K : PySem.W.Frag) (wd : Str) (C : Addr) : Sp := fun vs H Q _ => ∃ (x dx : Addr) (n : Str), vs = [.ref x, .str n] ∧ H x = some (.ins C dx []) ∧ isName n = true ∧
  ∀ H', H' x = some (.ins C dx (flds wd n)) → (∀ b o, H b = some o → b ≠ x → H' b = some o) → Q .non H'
structure FunS (K : PySem.W.Frag) (x qual : Str) (st : Stmt) (f : Addr) (fd : FuncData) (cda cc : Addr) : Prop where
  ex : ∃ (oc : Value) (od : Option Addr) (kV doc pm : Value) (an : Option Addr) (ct : Value) (osl : Array (Option Value)),
    fd = PySem.W.ksFn x qual (defArgs st) (defBody st) (defScope st) .none kV doc pm an (.ref cda) ct cc ∧ K.lookup f = some ⟨oc, od, .func fd, osl⟩ ∧ PySem.W.codeIn K (.ref cda) qual = true
  kp : PySem.W.keepIn K (.ref f) = true
abbrev s_Load_init : Stmt := inClass (top 14) 0
abbrev s_Again_init : Stmt := inClass (top 15) 0
abbrev s_Store_init : Stmt := inClass (top 16) 0
abbrev s_Forget_init : Stmt := inClass (top 17) 0
abbrev N_CI : List Str := ["self", "name"]
theorem sc_Load_init : ScS N_CI ["self", "name"] (defScope s_Load_init) := ⟨rfl, rfl, rfl, by decide +kernel, rfl, by decide +kernel, by decide +kernel, by decide +kernel⟩
theorem ok_Load_init {f fMI cda cc C : Addr} {fd : FuncData} (F : FunS K "__init__" "Load.__init__" s_Load_init f fd cda cc) (cl : Cls K C) (nW : NoAttr K C "word") (nN : NoAttr K C "name") (S : SupT P K mg C C cc cda "__init__" fMI) (M : FnR P w K mg base CX0 2 fMI (spMI K)) :
    FnOk P w K mg base CX0 3 f fd ["self", "name"] (spCI K "load" C) := by
  obtain ⟨oc, od, kV, doc, pm, an, ct, osl, rfl, lk, hcd⟩ := F.ex
  refine fn_super (N := N_CI) lk hcd sc_Load_init rfl rfl rfl rfl rfl rfl (by decide) (fun vs H Q E h => ?_) (fun A outer s H vs Q E hr h => ?_) (fun _ => rfl) (fun _ => rfl) (fun _ => rfl) (fun _ => rfl) (fun _ => rfl)
  · obtain ⟨x, dx, n, rfl, _⟩ := h
    rfl
  · obtain ⟨x, dx, n, rfl, hx, hn, k⟩ := h
    refine ⟨x, C, C, dx, fMI, [], [.str n], _, _, spMI K, CX0, E0, rfl, hx, S, pa_cons pe_str (pa_cons (pv 1) pa_nil), M, pass0, pss_nil, ?_⟩
    exact ⟨_, rfl, x, C, dx, "load", n, rfl, hx, cl, nW, nN, hn, fun H' h1 h2 => k H' h1 h2⟩
theorem sc_Again_init : ScS N_CI ["self", "name"] (defScope s_Again_init) := ⟨rfl, rfl, rfl, by decide +kernel, rfl, by decide +kernel, by decide +kernel, by decide +kernel⟩
theorem ok_Again_init {f fMI cda cc C : Addr} {fd : FuncData} (F : FunS K "__init__" "Again.__init__" s_Again_init f fd cda cc) (cl : Cls K C) (nW : NoAttr K C "word") (nN : NoAttr K C "name") (S : SupT P K mg C C cc cda "__init__" fMI) (M : FnR P w K mg base CX0 2 fMI (spMI K)) :
    FnOk P w K mg base CX0 3 f fd ["self", "name"] (spCI K "again" C) := by
  obtain ⟨oc, od, kV, doc, pm, an, ct, osl, rfl, lk, hcd⟩ := F.ex
  refine fn_super (N := N_CI) lk hcd sc_Again_init rfl rfl rfl rfl rfl rfl (by decide) (fun vs H Q E h => ?_) (fun A outer s H vs Q E hr h => ?_) (fun _ => rfl) (fun _ => rfl) (fun _ => rfl) (fun _ => rfl) (fun _ => rfl)
  · obtain ⟨x, dx, n, rfl, _⟩ := h
    rfl
  · obtain ⟨x, dx, n, rfl, hx, hn, k⟩ := h
    refine ⟨x, C, C, dx, fMI, [], [.str n], _, _, spMI K, CX0, E0, rfl, hx, S, pa_cons pe_str (pa_cons (pv 1) pa_nil), M, pass0, pss_nil, ?_⟩
    exact ⟨_, rfl, x, C, dx, "again", n, rfl, hx, cl, nW, nN, hn, fun H' h1 h2 => k H' h1 h2⟩
theorem sc_Store_init : ScS N_CI ["self", "name"] (defScope s_Store_init) := ⟨rfl, rfl, rfl, by decide +kernel, rfl, by decide +kernel, by decide +kernel, by decide +kernel⟩
theorem ok_Store_init {f fMI cda cc C : Addr} {fd : FuncData} (F : FunS K "__init__" "Store.__init__" s_Store_init f fd cda cc) (cl : Cls K C) (nW : NoAttr K C "word") (nN : NoAttr K C "name") (S : SupT P K mg C C cc cda "__init__" fMI) (M : FnR P w K mg base CX0 2 fMI (spMI K)) :
    FnOk P w K mg base CX0 3 f fd ["self", "name"] (spCI K "store" C) := by
  obtain ⟨oc, od, kV, doc, pm, an, ct, osl, rfl, lk, hcd⟩ := F.ex
  refine fn_super (N := N_CI) lk hcd sc_Store_init rfl rfl rfl rfl rfl rfl (by decide) (fun vs H Q E h => ?_) (fun A outer s H vs Q E hr h => ?_) (fun _ => rfl) (fun _ => rfl) (fun _ => rfl) (fun _ => rfl) (fun _ => rfl)
  · obtain ⟨x, dx, n, rfl, _⟩ := h
    rfl
  · obtain ⟨x, dx, n, rfl, hx, hn, k⟩ := h
    refine ⟨x, C, C, dx, fMI, [], [.str n], _, _, spMI K, CX0, E0, rfl, hx, S, pa_cons pe_str (pa_cons (pv 1) pa_nil), M, pass0, pss_nil, ?_⟩
    exact ⟨_, rfl, x, C, dx, "store", n, rfl, hx, cl, nW, nN, hn, fun H' h1 h2 => k H' h1 h2⟩
theorem sc_Forget_init : ScS N_CI ["self", "name"] (defScope s_Forget_init) := ⟨rfl, rfl, rfl, by decide +kernel, rfl, by decide +kernel, by decide +kernel, by decide +kernel⟩
theorem ok_Forget_init {f fMI cda cc C : Addr} {fd : FuncData} (F : FunS K "__init__" "Forget.__init__" s_Forget_init f fd cda cc) (cl : Cls K C) (nW : NoAttr K C "word") (nN : NoAttr K C "name") (S : SupT P K mg C C cc cda "__init__" fMI) (M : FnR P w K mg base CX0 2 fMI (spMI K)) :
    FnOk P w K mg base CX0 3 f fd ["self", "name"] (spCI K "forget" C) := by
  obtain ⟨oc, od, kV, doc, pm, an, ct, osl, rfl, lk, hcd⟩ := F.ex
  refine fn_super (N := N_CI) lk hcd sc_Forget_init rfl rfl rfl rfl rfl rfl (by decide) (fun vs H Q E h => ?_) (fun A outer s H vs Q E hr h => ?_) (fun _ => rfl) (fun _ => rfl) (fun _ => rfl) (fun _ => rfl) (fun _ => rfl)
  · obtain ⟨x, dx, n, rfl, _⟩ := h
    rfl
  · obtain ⟨x, dx, n, rfl, hx, hn, k⟩ := h
    refine ⟨x, C, C, dx, fMI, [], [.str n], _, _, spMI K, CX0, E0, rfl, hx, S, pa_cons pe_str (pa_cons (pv 1) pa_nil), M, pass0, pss_nil, ?_⟩
    exact ⟨_, rfl, x, C, dx, "forget", n, rfl, hx, cl, nW, nN, hn, fun H' h1 h2 => k H' h1 h2⟩

/-! ### move_of -/
def spOf (cl : Str → Addr) : Sp := fun vs H Q _ => ∃ m : Str × Str, vs = [.str m.1, .str m.2] ∧ Good m ∧ ∀ a H', Ext H H' → MoveAt cl (nw H H') a m → Q (.ref a) H'
abbrev s_move_of : Stmt := top 18
abbrev N_move_of : List Str := ["word", "name"]
theorem sc_move_of : FnScope N_move_of ["word", "name"] (defScope s_move_of) := ⟨rfl, rfl, rfl, by decide +kernel, rfl, by decide +kernel, by decide +kernel⟩
theorem make_step {H : Hp} {x dx C : Addr} (nx : H x = none) (ndx : H dx = none) (ne : dx ≠ x) {H2 : Hp} {fs : List (Str × V)} (h1 : H2 x = some (.ins C dx fs)) (h2 : ∀ b o, (upd (upd H dx (.own x)) x (.ins C dx [])) b = some o → b ≠ x → H2 b = some o) :
    Ext H H2 ∧ nw H H2 x = some (.ins C dx fs) := by
  refine ⟨fun b o q => h2 b o ?_ (ne_of_none q nx), by rw [nw_at nx]; exact h1⟩
  rw [upd_ne (ne_of_none q nx), upd_ne (ne_of_none q ndx)]
  exact q
theorem ok_of {f : Addr} {fd : FuncData} (F : Fun K "move_of" "move_of" s_move_of f fd) (T : Tx K mg CM CL CA CS CF mw tL tN)
    (c_Load : Mkc P w K mg base CX0 3 CL "Load" (spCI K "load" CL)) (c_Again : Mkc P w K mg base CX0 3 CA "Again" (spCI K "again" CA)) (c_Store : Mkc P w K mg base CX0 3 CS "Store" (spCI K "store" CS)) (c_Forget : Mkc P w K mg base CX0 3 CF "Forget" (spCI K "forget" CF)) :
    FnOk P w K mg base CX0 5 f fd ["word", "name"] (spOf (clsOf CL CA CS CF)) := by
  refine F.ok sc_move_of (fun vs H Q E h => ?_) (fun cdv A outer s H vs Q E hr h => ?_)
  · obtain ⟨m, rfl, _⟩ := h
    rfl
  · obtain ⟨⟨wd, n⟩, rfl, ⟨hw, hn⟩, k⟩ := h
    refine ⟨_, (pss_cons (ps_if (pt_cmpR op_eq (pv 0) pe_str (nomark _)) (pss_one (ps_ret (pe_mkc c_Load (hr.mono (by decide)) (by rfl) pass0 (pa_cons (pv 1) pa_nil)))) pss_nil)
      (pss_cons (ps_if (pt_cmpR op_eq (pv 0) pe_str (nomark _)) (pss_one (ps_ret (pe_mkc c_Again (hr.mono (by decide)) (by rfl) pass0 (pa_cons (pv 1) pa_nil)))) pss_nil)
      (pss_one (ps_ret (pe_ifExp (pt_cmpR op_eq (pv 0) pe_str (nomark _)) (pe_mkc c_Store (hr.mono (by decide)) (by rfl) pass0 (pa_cons (pv 1) pa_nil)) (pe_mkc c_Forget (hr.mono (by decide)) (by rfl) pass0 (pa_cons (pv 1) pa_nil))))))), ?_⟩
    refine ⟨_, rfl, rfl, _, rfl, ?_⟩
    rcases w4_cases hw with rfl | rfl | rfl | rfl
    · refine iteT ?_
      refine ⟨_, rfl, fun x dx nx ndx ne => ⟨x, dx, n, rfl, upd_same, hn, fun H2 h1 h2 => ⟨rfl, ?_⟩⟩⟩
      obtain ⟨e, q⟩ := make_step nx ndx ne h1 h2
      exact k x H2 e ⟨dx, q⟩
    · refine iteNo (strNo (by dsimp only; decide +kernel)) ?_
      refine ⟨_, rfl, rfl, _, rfl, ?_⟩
      refine iteT ?_
      refine ⟨_, rfl, fun x dx nx ndx ne => ⟨x, dx, n, rfl, upd_same, hn, fun H2 h1 h2 => ⟨rfl, ?_⟩⟩⟩
      obtain ⟨e, q⟩ := make_step nx ndx ne h1 h2
      exact k x H2 e ⟨dx, q⟩
    · refine iteNo (strNo (by dsimp only; decide +kernel)) ?_
      refine ⟨_, rfl, rfl, _, rfl, ?_⟩
      refine iteNo (strNo (by dsimp only; decide +kernel)) ?_
      refine ⟨_, rfl, rfl, _, rfl, ?_⟩
      refine iteT ?_
      refine ⟨_, rfl, fun x dx nx ndx ne => ⟨x, dx, n, rfl, upd_same, hn, fun H2 h1 h2 => ⟨rfl, ?_⟩⟩⟩
      obtain ⟨e, q⟩ := make_step nx ndx ne h1 h2
      exact k x H2 e ⟨dx, q⟩
    · refine iteNo (strNo (by dsimp only; decide +kernel)) ?_
      refine ⟨_, rfl, rfl, _, rfl, ?_⟩
      refine iteNo (strNo (by dsimp only; decide +kernel)) ?_
      refine ⟨_, rfl, rfl, _, rfl, ?_⟩
      refine iteNo (strNo (by dsimp only; decide +kernel)) ?_
      refine ⟨_, rfl, fun x dx nx ndx ne => ⟨x, dx, n, rfl, upd_same, hn, fun H2 h1 h2 => ⟨rfl, ?_⟩⟩⟩
      obtain ⟨e, q⟩ := make_step nx ndx ne h1 h2
      exact k x H2 e ⟨dx, q⟩
end
end K94
end
section
set_option Elab.async false
set_option autoImplicit false
set_option linter.all false
set_option maxRecDepth 100000
set_option maxHeartbeats 4000000
namespace K94
open PySem PySem.Spec PyProof.Rows L2 Ls
open C8 (pss_cut tCut)
open TL
/-! ### words and texts -/
theorem sp_tl : tl (" " : Str) = [32] := by decide +kernel
theorem sp_notin : (32 : Nat) ∉ tl lettersS := by decide +kernel
theorem split_two {a b : Str} (ha : (32 : Nat) ∉ tl a) (hb : (32 : Nat) ∉ tl b) : Txt.split (a ++ " " ++ b) " " = [a, b] := by
  have e : a ++ " " ++ b = Txt.join " " [a, b] := by rw [join_eq]; rfl
  rw [e]
  exact split_join sp_tl (by decide +kernel) (by simp) (by
    intro p hp
    rcases List.mem_cons.mp hp with rfl | hp
    · exact ha
    · rw [List.mem_singleton.mp hp]; exact hb)
theorem split_text {m : Str × Str} (h : Good m) : Txt.split (textM m) " " = [m.1, m.2] := split_two (name_no (w4_name h.1) sp_notin) (name_no h.2 sp_notin)
theorem len_text {m : Str × Str} (h : Good m) : (textM m).length ≤ 13 := by
  unfold textM
  rw [Str.length_append, Str.length_append]
  have h1 := (name_len (w4_name h.1)).2
  have h2 := (name_len h.2).2
  have h3 : (" " : Str).length = 1 := by decide +kernel
  omega
section
variable {P : Program} {w : World} {K : PySem.W.Frag} {mg : Str → Option Value} {base : Heap} {CM CL CA CS CF mw : Addr} {tL tN : Tok}
/-! ### Move.read -/
def spRead (cl : Str → Addr) : Sp := fun vs H Q _ => ∃ (c : V) (m : Str × Str), vs = [c, .str (textM m)] ∧ Good m ∧ ∀ a H', Ext H H' → MoveAt cl (nw H H') a m → Q (.ref a) H'
abbrev s_Move_read : Stmt := inClass (top 12) 1
abbrev N_Move_read : List Str := ["cls", "text", "words"]
theorem sc_Move_read : FnScope N_Move_read ["cls", "text"] (defScope s_Move_read) := ⟨rfl, rfl, rfl, by decide +kernel, rfl, by decide +kernel, by decide +kernel⟩
theorem in_w4 {wd : Str} (h : wd ∈ W4) : inV (.str wd) ([.str "load", .str "again", .str "store", .str "forget"] : List V) = true := by
  rcases w4_cases h with rfl | rfl | rfl | rfl <;> decide +kernel
theorem ok_read {f : Addr} {fd : FuncData} (F : Fun K "read" "Move.read" s_Move_read f fd) (T : Tx K mg CM CL CA CS CF mw tL tN)
    (c_is_name : Cal P w K mg base CX0 1 "is_name" spName) (c_move_of : Cal P w K mg base CX0 5 "move_of" (spOf (clsOf CL CA CS CF))) :
    FnOk P w K mg base CX0 6 f fd ["cls", "text"] (spRead (clsOf CL CA CS CF)) := by
  refine F.ok sc_Move_read (fun vs H Q E h => ?_) (fun cdv A outer s H vs Q E hr h => ?_)
  · obtain ⟨c, m, rfl, _⟩ := h
    rfl
  · obtain ⟨c, m, rfl, hg, k⟩ := h
    refine ⟨_, (pss_cons (ps_set (i := 2) sc_Move_read.nd rfl (by first | exact Or.inl rfl | exact Or.inr rfl) (pe_ifExp (pt_val (pe_callB call_isi (by rfl) (T.bn _ (by decide +kernel)) (by decide +kernel) (pa_cons (pv 1) (pa_cons (pe_gty (T := "str") (by rfl) (T.bn _ (by decide +kernel)) (by decide +kernel)) pa_nil)))) (pe_split (pv 1) pe_str) (pe_lst pa_nil)))
      (pss_cons (ps_if ((pw_or (pt_cmpR op_ne (pe_callB call_len_seq (by rfl) (T.bn _ (by decide +kernel)) (by decide +kernel) (pa_cons (pv 2) pa_nil)) pe_int (nomark _)) (pw_or (pt_cmpR op_notIn_seq (pe_ix ix_list (pv 2) pe_int (fun _ _ => rfl)) (pe_tup (pa_cons pe_str (pa_cons pe_str (pa_cons pe_str (pa_cons pe_str pa_nil))))) rfl) (pw_or1 (pt_not (pt_val (pe_cal c_is_name (hr.mono (by decide)) (by rfl) pass0 (pa_cons (pe_ix ix_list (pv 2) pe_int (fun _ _ => rfl)) pa_nil)))))))).pt (pss_one ps_never) pss_nil)
      (pss_one (ps_ret (pe_cal c_move_of (hr.mono (by decide)) (by rfl) pass0 (pa_cons (pe_ix ix_list (pv 2) pe_int (fun _ _ => rfl)) (pa_cons (pe_ix ix_list (pv 2) pe_int (fun _ _ => rfl)) pa_nil))))))), ?_⟩
    refine ⟨_, rfl, _, _, _, _, true, rfl, .ty "str", .base (.str _), kit_ty (by decide +kernel), _, rfl, ?_⟩
    refine iteT ?_
    refine ⟨_, rfl, ⟨_, rfl⟩, _, _, rfl, rfl, (by decide +kernel), Nat.le_trans (Nat.add_le_add_right (len_text hg) 2) (by decide), fun l hl => ?_⟩
    rw [split_text hg]
    have hL : (upd H l (.lst ([m.1, m.2].map V.str))) l = some (.lst [.str m.1, .str m.2]) := upd_same
    have hE : Ext H (upd H l (.lst ([m.1, m.2].map V.str))) := Ext.upd hl
    generalize (upd H l (.lst ([m.1, m.2].map V.str))) = H1 at hL hE
    refine ⟨_, rfl, l, _, rfl, .inl (SqL.of hL), rfl, _, rfl, ?_⟩
    refine iteF ?_
    refine ⟨_, rfl, l, _, 0, .str m.1, rfl, rfl, SqL.of hL, atI_nat (j := 0) rfl, (by show 4 ≤ sizeLine; decide), fun t ht => ?_⟩
    have hL2 : (upd H1 t (.tup [.str "load", .str "again", .str "store", .str "forget"])) l = some (.lst [.str m.1, .str m.2]) := by rw [upd_ne (ne_of_none hL ht)]; exact hL
    refine ⟨t, _, rfl, .inr (SqT.of upd_same), rfl, rfl, _, rfl, ?_⟩
    have hE2 : Ext H (upd H1 t (.tup [.str "load", .str "again", .str "store", .str "forget"])) := hE.trans (Ext.upd ht)
    generalize (upd H1 t (.tup [.str "load", .str "again", .str "store", .str "forget"])) = H2 at hL2 hE2
    rw [in_w4 hg.1]
    refine iteF ?_
    refine ⟨_, rfl, l, _, 1, .str m.2, rfl, rfl, SqL.of hL2, atI_nat (j := 1) rfl, m.2, rfl, Nat.le_trans (name_len hg.2).2 (by decide), fun H3 e3 => ⟨_, rfl, ?_⟩⟩
    rw [hg.2]
    refine iteF ?_
    have hL3 := e3 _ _ hL2
    have hE3 := hE2.trans e3
    refine ⟨_, rfl, l, _, 0, .str m.1, rfl, rfl, SqL.of hL3, atI_nat (j := 0) rfl, _, rfl, l, _, 1, .str m.2, rfl, rfl, SqL.of hL3, atI_nat (j := 1) rfl, m, rfl, hg, fun a H4 e4 hm => ?_⟩
    exact k a H4 (hE3.trans e4) (hm.mono (nw_back hE3))
/-! ### Move.__eq__ and Move.__str__ -/
def ReqM (cl : Str → Addr) : Addr → Addr → Hp → Prop := fun a b H => ∃ m : Str × Str, MoveAt cl H a m ∧ MoveAt cl H b m ∧ Good m
abbrev s_Move_eq : Stmt := inClass (top 12) 2
abbrev N_Move_eq : List Str := ["self", "other"]
theorem sc_Move_eq : FnScope N_Move_eq ["self", "other"] (defScope s_Move_eq) := ⟨rfl, rfl, rfl, by decide +kernel, rfl, by decide +kernel, by decide +kernel⟩
theorem ok_eq {f fs fe : Addr} {fd : FuncData} (F : Fun K "__eq__" "Move.__eq__" s_Move_eq f fd) (T : Tx K mg CM CL CA CS CF mw tL tN) (TC : ∀ wd ∈ W4, ClT K CM (clsOf CL CA CS CF wd) fs fe) :
    FnOk P w K mg base CX0 1 f fd ["self", "other"] (spEq (ReqM (clsOf CL CA CS CF))) := by
  refine F.ok sc_Move_eq (fun vs H Q E h => ?_) (fun cdv A outer s H vs Q E hr h => ?_)
  · obtain ⟨a, b, rfl, _⟩ := h
    rfl
  · obtain ⟨a, b, rfl, ⟨m, ⟨dx, ha⟩, ⟨dy, hb⟩, hg⟩, k⟩ := h
    have C := TC m.1 hg.1
    refine ⟨_, (pss_one (ps_ret (pe_and (pe_callB call_isi (by rfl) (T.bn _ (by decide +kernel)) (by decide +kernel) (pa_cons (pv 1) (pa_cons (pe_gref (by rfl) T.m_Move) pa_nil))) (pe_and (pe_cmpR op_eq (pe_fld (pv 0) rfl) (pe_fld (pv 1) rfl) (nomark _)) (pe_one (pe_cmpR op_eq (pe_fld (pv 0) rfl) (pe_fld (pv 1) rfl) (nomark _))))))), ?_⟩
    refine ⟨_, rfl, _, _, _, _, true, rfl, .own CM, .base (.ins hb C.cl C.ha C.hn C.htk C.hm), C.kit, _, rfl, ?_⟩
    refine iteT ?_
    refine ⟨_, rfl, a, _, dx, _, _, rfl, ha, C.cl, C.nW, flds_word _ _, _, rfl, b, _, dy, _, _, rfl, hb, C.cl, C.nW, flds_word _ _, rfl, _, rfl, ?_⟩
    refine iteYes (by simp) ?_
    refine ⟨_, rfl, a, _, dx, _, _, rfl, ha, C.cl, C.nN, flds_name _ _, _, rfl, b, _, dy, _, _, rfl, hb, C.cl, C.nN, flds_name _ _, rfl, ?_⟩
    have := k H Ext.rfl'
    rw [decide_eq_true rfl]
    exact this
def spStr (cl : Str → Addr) : Sp := fun vs H Q _ => ∃ (a : Addr) (m : Str × Str), vs = [.ref a] ∧ MoveAt cl H a m ∧ Good m ∧ Q (.str (textM m)) H
abbrev s_Move_str : Stmt := inClass (top 12) 3
abbrev N_Move_str : List Str := ["self"]
theorem sc_Move_str : FnScope N_Move_str ["self"] (defScope s_Move_str) := ⟨rfl, rfl, rfl, by decide +kernel, rfl, by decide +kernel, by decide +kernel⟩
theorem ok_str {f fs fe : Addr} {fd : FuncData} (F : Fun K "__str__" "Move.__str__" s_Move_str f fd) (T : Tx K mg CM CL CA CS CF mw tL tN) (TC : ∀ wd ∈ W4, ClT K CM (clsOf CL CA CS CF wd) fs fe) :
    FnOk P w K mg base CX0 1 f fd ["self"] (spStr (clsOf CL CA CS CF)) := by
  refine F.ok sc_Move_str (fun vs H Q E h => ?_) (fun cdv A outer s H vs Q E hr h => ?_)
  · obtain ⟨a, m, rfl, _⟩ := h
    rfl
  · obtain ⟨a, m, rfl, ⟨dx, ha⟩, hg, k⟩ := h
    have C := TC m.1 hg.1
    have h1 := (name_len (w4_name hg.1)).2
    have h2 := (name_len hg.2).2
    have h3 : (" " : Str).length = 1 := by decide +kernel
    have h4 : sizeLine = 16777216 := sizeLine_eq
    refine ⟨_, (pss_one (ps_ret (pe_joined (.cons (pe_fmt (pe_fld (pv 0) rfl)) (.cons pe_str (.cons (pe_fmt (pe_fld (pv 0) rfl)) .nil)))))), ?_⟩
    refine ⟨_, rfl, a, _, dx, _, _, rfl, ha, C.cl, C.nW, flds_word _ _, .inl ⟨m.1, rfl, by omega, m.1, rfl, ?_, ?_⟩⟩
    · rw [Str.length_append]
      have : Str.empty.length = 0 := rfl
      omega
    refine ⟨" ", rfl, ?_, ?_⟩
    · rw [Str.length_append, Str.length_append]
      have : Str.empty.length = 0 := rfl
      omega
    refine ⟨_, rfl, a, _, dx, _, _, rfl, ha, C.cl, C.nN, flds_name _ _, .inl ⟨m.2, rfl, by omega, m.2, rfl, ?_, ?_⟩⟩
    · rw [Str.length_append, Str.length_append, Str.length_append]
      have : Str.empty.length = 0 := rfl
      omega
    have e : Str.empty ++ m.1 ++ " " ++ m.2 = textM m := by
      unfold textM
      refine ext_tl ?_
      rw [tl_append, tl_append, tl_append, tl_append, tl_append]
      rfl
    show Q (.str (Str.empty ++ m.1 ++ " " ++ m.2)) H
    rw [e]
    exact k
end
end K94
end
section
set_option Elab.async false
set_option autoImplicit false
set_option linter.all false
set_option maxRecDepth 100000
set_option maxHeartbeats 4000000
namespace K94
open PySem PySem.Spec PyProof.Rows L2 Ls
open TL
/-! ### the texts of plans, in plain Lean -/
def rowT (ts : List Str) : Str := if ts.isEmpty then "-" else Txt.join ", " ts
def planT (rows : List (List Str)) : Str := Txt.join "\n" (rows.map rowT)
/-- the words of a row -/
def wordsOf : List (Str × Str) → List Str
  | [] => []
  | [m] => [m.1, m.2]
  | m :: m2 :: r => m.1 :: (m.2 ++ ",") :: wordsOf (m2 :: r)
def rowW (ms : List (Str × Str)) : List Str := if ms.isEmpty then ["-"] else wordsOf ms
theorem words_ne : ∀ {ms : List (Str × Str)}, ms ≠ [] → wordsOf ms ≠ []
  | [], h => absurd rfl h
  | [_], _ => by simp [wordsOf]
  | _ :: _ :: _, _ => by simp [wordsOf]
theorem words_len : ∀ ms : List (Str × Str), (wordsOf ms).length = 2 * ms.length
  | [] => rfl
  | [_] => rfl
  | _ :: m2 :: r => by
    have := words_len (m2 :: r)
    simp only [wordsOf, List.length_cons] at this ⊢
    omega
theorem words_even : ∀ {ms : List (Str × Str)} {j : Nat} {m : Str × Str}, ms[j]? = some m → (wordsOf ms)[2 * j]? = some m.1
  | [], _, _, h => by simp at h
  | [a], 0, m, h => by simp at h; subst h; rfl
  | [a], j + 1, m, h => by simp at h
  | a :: b :: r, 0, m, h => by simp at h; subst h; rfl
  | a :: b :: r, j + 1, m, h => by
    have := words_even (ms := b :: r) (j := j) (m := m) (by simpa using h)
    show (a.1 :: (a.2 ++ ",") :: wordsOf (b :: r))[2 * j + 1 + 1]? = some m.1
    simpa using this
theorem words_odd : ∀ {ms : List (Str × Str)} {j : Nat} {m : Str × Str}, ms[j]? = some m → (wordsOf ms)[2 * j + 1]? = some (if j + 1 < ms.length then m.2 ++ "," else m.2)
  | [], _, _, h => by simp at h
  | [a], 0, m, h => by simp at h; subst h; rfl
  | [a], j + 1, m, h => by simp at h
  | a :: b :: r, 0, m, h => by simp at h; subst h; simp [wordsOf]
  | a :: b :: r, j + 1, m, h => by
    have := words_odd (ms := b :: r) (j := j) (m := m) (by simpa using h)
    show (a.1 :: (a.2 ++ ",") :: wordsOf (b :: r))[2 * j + 1 + 1 + 1]? = _
    simp only [List.getElem?_cons_succ]
    rw [this]
    have e : (j + 1 < (b :: r).length) = (j + 1 + 1 < (a :: b :: r).length) := by simp
    simp only [e]
theorem cs_tl : tl (", " : Str) = [44, 32] := by decide +kernel
theorem co_tl : tl ("," : Str) = [44] := by decide +kernel
theorem nl_tl : tl ("\n" : Str) = [10] := by decide +kernel
theorem join2 (y a b : Str) (r : List Str) : Str.join y (a :: b :: r) = a ++ y ++ Str.join y (b :: r) := rfl
theorem join_words : ∀ {ms : List (Str × Str)}, ms ≠ [] → Str.join ", " (ms.map textM) = Str.join " " (wordsOf ms)
  | [], h => absurd rfl h
  | [m], _ => rfl
  | m :: m2 :: r, _ => by
    have ih := join_words (ms := m2 :: r) (by simp)
    show Str.join ", " (textM m :: textM m2 :: r.map textM) = Str.join " " (m.1 :: (m.2 ++ ",") :: wordsOf (m2 :: r))
    rw [join2, show textM m2 :: r.map textM = (m2 :: r).map textM from rfl, ih, join2]
    cases e : wordsOf (m2 :: r) with
    | nil => exact absurd e (words_ne (by simp))
    | cons x xs =>
      rw [join2]
      unfold textM
      refine ext_tl ?_
      simp only [tl_append, cs_tl, co_tl, sp_tl, List.append_assoc]
      rfl
theorem mem_joinL {c : Nat} {S : List Nat} (hS : c ∉ S) : ∀ {parts : List (List Nat)}, (∀ p ∈ parts, c ∉ p) → c ∉ joinL S parts
  | [], _ => by simp [joinL]
  | [p], h => by simpa [joinL] using h p (by simp)
  | p :: q :: r, h => by
    have ih := mem_joinL hS (parts := q :: r) (fun z hz => h z (List.mem_cons_of_mem _ hz))
    show c ∉ p ++ (S ++ joinL S (q :: r))
    simp only [List.mem_append, not_or]
    exact ⟨h p (by simp), hS, ih⟩
theorem mem_join {c : Nat} {y : Str} (hS : c ∉ tl y) {parts : List Str} (h : ∀ p ∈ parts, c ∉ tl p) : c ∉ tl (Txt.join y parts) := by
  rw [join_eq, tl_join]
  refine mem_joinL hS fun p hp => ?_
  obtain ⟨z, hz, rfl⟩ := List.mem_map.mp hp
  exact h z hz
theorem words_no {c : Nat} (h1 : c ∉ tl lettersS) (h2 : c ≠ 44) : ∀ {ms : List (Str × Str)}, (∀ m ∈ ms, Good m) → ∀ p ∈ wordsOf ms, c ∉ tl p
  | [], _, p, hp => by simp [wordsOf] at hp
  | [m], h, p, hp => by
    have g := h m (by simp)
    simp only [wordsOf, List.mem_cons, List.not_mem_nil, or_false] at hp
    rcases hp with rfl | rfl
    · exact name_no (w4_name g.1) h1
    · exact name_no g.2 h1
  | m :: m2 :: r, h, p, hp => by
    have g := h m (by simp)
    simp only [wordsOf, List.mem_cons] at hp
    rcases hp with rfl | rfl | hp
    · exact name_no (w4_name g.1) h1
    · rw [tl_append, co_tl]
      simp only [List.mem_append, List.mem_singleton, not_or]
      exact ⟨name_no g.2 h1, h2⟩
    · exact words_no h1 h2 (ms := m2 :: r) (fun z hz => h z (List.mem_cons_of_mem _ hz)) p hp
theorem row_eq {ms : List (Str × Str)} : rowT (ms.map textM) = Txt.join " " (rowW ms) := by
  cases ms with
  | nil => rfl
  | cons m r =>
    show Txt.join ", " ((m :: r).map textM) = Txt.join " " (wordsOf (m :: r))
    rw [join_eq, join_eq]
    exact join_words (by simp)
theorem rowW_no {c : Nat} (h1 : c ∉ tl lettersS) (h2 : c ≠ 44) (h3 : c ≠ 45) {ms : List (Str × Str)} (h : ∀ m ∈ ms, Good m) : ∀ p ∈ rowW ms, c ∉ tl p := by
  intro p hp
  cases ms with
  | nil =>
    have hp' : p ∈ (["-"] : List Str) := hp
    rw [List.mem_singleton.mp hp']
    have : tl ("-" : Str) = [45] := by decide +kernel
    rw [this]
    simpa using h3
  | cons m r => exact words_no h1 h2 h p hp
theorem rowW_ne (ms : List (Str × Str)) : rowW ms ≠ [] := by
  cases ms with
  | nil => simp [rowW]
  | cons m r => exact words_ne (by simp)
/-- a row, read word by word -/
theorem split_row {ms : List (Str × Str)} (h : ∀ m ∈ ms, Good m) : Txt.split (rowT (ms.map textM)) " " = rowW ms := by
  rw [row_eq]
  exact split_join sp_tl (by decide +kernel) (rowW_ne ms) (rowW_no sp_notin (by decide) (by decide) h)
/-- a plan, read line by line -/
theorem split_plan {plan : List (List (Str × Str))} (hne : plan ≠ []) (h : ∀ ms ∈ plan, ∀ m ∈ ms, Good m) : Txt.split (planT (plan.map (·.map textM))) "\n" = plan.map fun ms => rowT (ms.map textM) := by
  unfold planT
  rw [List.map_map]
  refine split_join nl_tl (by decide +kernel) (by simpa using hne) fun p hp => ?_
  obtain ⟨ms, hm, rfl⟩ := List.mem_map.mp hp
  show (10 : Nat) ∉ tl (rowT (ms.map textM))
  rw [row_eq]
  exact mem_join (by rw [sp_tl]; decide) (rowW_no (by decide +kernel) (by decide) (by decide) (h ms hm))
/-! sizes -/
theorem sum_le {B : Nat} : ∀ {l : List Str}, (∀ z ∈ l, z.length ≤ B) → (l.map (·.length)).sum ≤ l.length * B
  | [], _ => by simp
  | z :: r, h => by
    have := sum_le (l := r) fun x hx => h x (List.mem_cons_of_mem _ hx)
    have h1 := h z (by simp)
    simp only [List.map_cons, List.sum_cons, List.length_cons, Nat.succ_mul]
    omega
theorem join_le {B : Nat} {y : Str} {l : List Str} (h : ∀ z ∈ l, z.length ≤ B) : (Txt.join y l).length ≤ l.length * B + l.length * y.length := by
  rw [join_eq]
  exact Nat.le_trans (StrLaws.join_length_le y l) (Nat.add_le_add_right (sum_le h) _)
/-- at most twenty rows of at most twenty texts of at most twenty signs -/
def Small (rows : List (List Str)) : Prop := rows.length ≤ 20 ∧ ∀ r ∈ rows, r.length ≤ 20 ∧ ∀ z ∈ r, z.length ≤ 20
theorem row_len {r : List Str} (h : r.length ≤ 20 ∧ ∀ z ∈ r, z.length ≤ 20) : (rowT r).length ≤ 440 := by
  unfold rowT
  split
  · decide +kernel
  · have h1 := join_le (B := 20) (y := ", ") h.2
    have h2 : (", " : Str).length = 2 := by decide +kernel
    have h3 := h.1
    rw [h2] at h1
    omega
theorem plan_len {rows : List (List Str)} (h : Small rows) : (planT rows).length ≤ 9000 := by
  unfold planT
  have h1 := join_le (B := 440) (y := "\n") (l := rows.map rowT) (fun z hz => by
    obtain ⟨r, hr, rfl⟩ := List.mem_map.mp hz
    exact row_len (h.2 r hr))
  have h2 : ("\n" : Str).length = 1 := by decide +kernel
  rw [h2, List.length_map] at h1
  have := h.1
  omega
theorem small_of {plan : List (List (Str × Str))} (h1 : plan.length ≤ 20) (h2 : ∀ ms ∈ plan, ms.length ≤ 20) (h3 : ∀ ms ∈ plan, ∀ m ∈ ms, Good m) : Small (plan.map (·.map textM)) := by
  refine ⟨by simpa using h1, fun r hr => ?_⟩
  obtain ⟨ms, hm, rfl⟩ := List.mem_map.mp hr
  refine ⟨by simpa using h2 ms hm, fun z hz => ?_⟩
  obtain ⟨m, hmm, rfl⟩ := List.mem_map.mp hz
  exact Nat.le_trans (len_text (h3 ms hm m hmm)) (by decide)
/-! the comma at a name's end -/
theorem cut_last_comma {n : Str} : cutS (n ++ ",") (some (-1)) none = "," := by
  refine ext_tl ?_
  show ((tl (n ++ ",")).drop _).take _ = _
  rw [tl_append, co_tl]
  have hl : (n ++ ("," : Str)).length = (tl n).length + 1 := by rw [Str.length_append]; rfl
  rw [hl]
  have e1 : HT.sIx ((tl n).length + 1) 0 (some (-1)) = (tl n).length := by
    show (if (-1 : Int) < 0 then ((-1 : Int) + (((tl n).length + 1 : Nat) : Int)).toNat else min (-1 : Int).toNat ((tl n).length + 1)) = _
    rw [if_pos (by decide)]; omega
  rw [e1, HT.sIx_none]
  simp
theorem cut_init_comma {n : Str} : cutS (n ++ ",") none (some (-1)) = n := by
  refine ext_tl ?_
  show ((tl (n ++ ",")).drop _).take _ = _
  rw [tl_append, co_tl]
  have hl : (n ++ ("," : Str)).length = (tl n).length + 1 := by rw [Str.length_append]; rfl
  rw [hl]
  have e1 : HT.sIx ((tl n).length + 1) ((tl n).length + 1) (some (-1)) = (tl n).length := by
    show (if (-1 : Int) < 0 then ((-1 : Int) + (((tl n).length + 1 : Nat) : Int)).toNat else min (-1 : Int).toNat ((tl n).length + 1)) = _
    rw [if_pos (by decide)]; omega
  rw [e1, HT.sIx_none]
  simp
theorem cut_last_name {n : Str} (h : isName n = true) : cutS n (some (-1)) none ≠ "," := by
  intro e
  have h1 : tl (cutS n (some (-1)) none) = [44] := by rw [e]; exact co_tl
  have h2 : (44 : Nat) ∈ tl n := by
    have h3 : (44 : Nat) ∈ ((tl n).drop (HT.sIx n.length 0 (some (-1)))).take (HT.sIx n.length n.length none - HT.sIx n.length 0 (some (-1))) := by
      have : tl (cutS n (some (-1)) none) = ((tl n).drop (HT.sIx n.length 0 (some (-1)))).take (HT.sIx n.length n.length none - HT.sIx n.length 0 (some (-1))) := rfl
      rw [← this, h1]
      simp
    exact List.mem_of_mem_drop (List.mem_of_mem_take h3)
  exact name_no h (by decide +kernel) h2
end K94
end
section
set_option Elab.async false
set_option autoImplicit false
set_option linter.all false
set_option maxRecDepth 100000
set_option maxHeartbeats 4000000
namespace K94
open PySem PySem.Spec PyProof.Rows L2 Ls
open C8 (pss_cut tCut)
open TL
theorem Paired.at_ {α β : Type} {F : α → β → Prop} : ∀ {l₁ : List α} {l₂ : List β} {i : Nat} {a : α}, Paired F l₁ l₂ → l₁[i]? = some a → ∃ b, l₂[i]? = some b ∧ F a b
  | _, _, _, _, .nil, h => by simp at h
  | _, _, 0, _, .cons r _, h => by simp at h; subst h; exact ⟨_, rfl, r⟩
  | _, _, i + 1, a, .cons _ t, h => by
    obtain ⟨b, h1, h2⟩ := Paired.at_ (i := i) (a := a) t (by simpa using h)
    exact ⟨b, by simpa using h1, h2⟩
theorem Paired.len {α β : Type} {F : α → β → Prop} {l₁ : List α} {l₂ : List β} (p : Paired F l₁ l₂) : l₁.length = l₂.length := Paired.length p
theorem Paired.of_get {α β : Type} {F : α → β → Prop} : ∀ {l₁ : List α} {l₂ : List β}, l₁.length = l₂.length → (∀ (i : Nat) a b, l₁[i]? = some a → l₂[i]? = some b → F a b) → Paired F l₁ l₂
  | [], [], _, _ => .nil
  | [], _ :: _, h, _ => by simp at h
  | _ :: _, [], h, _ => by simp at h
  | a :: l, b :: r, h, k => .cons (k 0 a b rfl rfl) (Paired.of_get (by simpa using h) fun i x y h1 h2 => k (i + 1) x y (by simpa using h1) (by simpa using h2))
theorem map_take_succ {α β : Type} (f : α → β) {l : List α} {i : Nat} {a : α} (h : l[i]? = some a) : (l.take (i + 1)).map f = (l.take i).map f ++ [f a] := by
  have hi : i < l.length := (List.getElem?_eq_some_iff.mp h).1
  have e : l[i] = a := (List.getElem?_eq_some_iff.mp h).2
  rw [List.take_succ, h, List.map_append]
  rfl
theorem list_of_get {ys : List V} {r : List Str} (hl : ys.length = r.length) (h : ∀ (j : Nat) (y : V), ys[j]? = some y → ∃ z, r[j]? = some z ∧ y = .str z) : ys = r.map V.str := by
  refine List.ext_getElem? fun j => ?_
  cases q : ys[j]? with
  | none =>
    have : ys.length ≤ j := List.getElem?_eq_none_iff.mp q
    symm
    rw [List.getElem?_eq_none_iff, List.length_map]
    omega
  | some y =>
    obtain ⟨z, hz, rfl⟩ := h j y q
    rw [List.getElem?_map, hz]
    rfl
section
variable {P : Program} {w : World} {K : PySem.W.Frag} {mg : Str → Option Value} {base : Heap} {CM CL CA CS CF mw : Addr} {tL tN : Tok}
/-! ### show_plan -/
/-- a list or tuple -/
def SeqV (K : PySem.W.Frag) (H : Hp) (v : V) (xs : List V) : Prop := ∃ a, v = .ref a ∧ (SqL K H a xs ∨ SqT K H a xs)
/-- a text, or a move with this text -/
def TextOf (cl : Str → Addr) (H : Hp) (v : V) (z : Str) : Prop := v = .str z ∨ ∃ a m, v = .ref a ∧ MoveAt cl H a m ∧ Good m ∧ z = textM m
def RowAt (cl : Str → Addr) (K : PySem.W.Frag) (H : Hp) (v : V) (ts : List Str) : Prop := ∃ xs, SeqV K H v xs ∧ Paired (TextOf cl H) xs ts
def spShow (cl : Str → Addr) (K : PySem.W.Frag) : Sp := fun vs H Q _ => ∃ (v : V) (xs : List V) (rows : List (List Str)), vs = [v] ∧ SeqV K H v xs ∧ Paired (RowAt cl K H) xs rows ∧ Small rows ∧
  ∀ H', Ext H H' → Q (.str (planT rows)) H'
abbrev s_show_plan : Stmt := top 1
abbrev N_show_plan : List Str := ["plan", "lines", "moves", "texts", "move"]
theorem sc_show_plan : FnScope N_show_plan ["plan"] (defScope s_show_plan) := ⟨rfl, rfl, rfl, by decide +kernel, rfl, by decide +kernel, by decide +kernel⟩
theorem ok_show {f fs fe : Addr} {fd : FuncData} (F : Fun K "show_plan" "show_plan" s_show_plan f fd) (T : Tx K mg CM CL CA CS CF mw tL tN) (TC : ∀ wd ∈ W4, ClT K CM (clsOf CL CA CS CF wd) fs fe)
    (hfs : PySem.W.isFn K (.ref fs) = true) (c_str : FnR P w K mg base CX0 1 fs (spStr (clsOf CL CA CS CF))) :
    FnOk P w K mg base CX0 4 f fd ["plan"] (spShow (clsOf CL CA CS CF) K) := by
  refine F.ok sc_show_plan (fun vs H Q E h => ?_) (fun cdv A outer s H vs Q E hr h => ?_)
  · obtain ⟨v, xs, rows, rfl, _⟩ := h
    rfl
  · obtain ⟨v, xs, rows, rfl, ⟨a, rfl, hseq⟩, hrows, hsm, k⟩ := h
    refine ⟨_, (pss_cons (ps_set (i := 1) sc_show_plan.nd rfl (by first | exact Or.inl rfl | exact Or.inr rfl) (pe_lst pa_nil))
      (pss_cons (ps_for PassesOwn.never rfl (pi_seq (pv 0)) (pg_name (i := 2) sc_show_plan.nd rfl (by first | exact Or.inl rfl | exact Or.inr rfl))
      (pss_cons (ps_setLc (i := 3) (own := [("move", 4)]) rfl sc_show_plan.nd rfl rfl (sw_true rfl rfl rfl (by decide +kernel)) (pi_seq (pv 2)) (blkOk_by (own := [("move", 4)]) (N := N_show_plan) (sc := defScope s_show_plan) (by decide +kernel)) (fun _ _ _ _ _ => (pg_name (i := 4) sc_show_plan.nd rfl (by first | exact Or.inl rfl | exact Or.inr rfl))) (fun _ _ _ _ _ => pts_nil) (fun _ _ _ _ _ => (pe_callTy (CallR.or SkE.call_str_str (call_strOwnK (n := 1) hfs c_str hr rfl rfl rfl rfl rfl rfl pass0)) (by rfl) (T.bn _ (by decide +kernel)) (by decide +kernel) (pa_cons (pv 4) pa_nil))))
      (pss_one (ps_expr (pe_bm PySem.F.plainAttrs_list PySem.F.slot_list_append PySem.F.type_list_append mt_append (pv 1) (pa_cons (pe_ifExp (pt_cmpR (op_neNil hr) (pv 3) (pe_lst pa_nil) (nomark _)) (pe_join pe_str (pv 3)) pe_str) pa_nil))))))
      (pss_one (ps_ret (pe_join pe_str (pv 1)))))), ?_⟩
    refine ⟨(by show 0 ≤ sizeLine; decide), fun l hl => ?_⟩
    have hlen := Paired.len hrows
    have hE0 : Ext H (upd H l (.lst [])) := Ext.upd hl
    rcases hseq with hseq | hseq
    case' inl =>
      refine .inl ⟨_, rfl, a, rfl, ⟨_, hseq.ext hE0⟩, for_it (walk_list (xs := xs)) (fun i σ H' => ∃ x2 x3, σ = [some (.ref a), some (.ref l), x2, x3, none] ∧ H' l = some (.lst (((rows.take i).map rowT).map V.str)) ∧ Ext H H') ⟨_, _, rfl, upd_same, hE0⟩ (fun i σ H' _ ⟨_, _, _, _, e⟩ => hseq.ext e) ?_ ?_⟩
    case' inr =>
      refine .inr ⟨_, rfl, a, rfl, ⟨_, hseq.ext hE0⟩, for_it (walk_tup (xs := xs)) (fun i σ H' => ∃ x2 x3, σ = [some (.ref a), some (.ref l), x2, x3, none] ∧ H' l = some (.lst (((rows.take i).map rowT).map V.str)) ∧ Ext H H') ⟨_, _, rfl, upd_same, hE0⟩ (fun i σ H' _ ⟨_, _, _, _, e⟩ => hseq.ext e) ?_ ?_⟩
    all_goals first
      | (-- a turn
         rintro i x σ H1 _ hi ⟨x2, x3, rfl, hL, hE⟩ ⟨rfl, hx⟩
         obtain ⟨r, hr', ys, ⟨b, rfl, hys⟩, hps⟩ := Paired.at_ hrows hx
         have hplen := Paired.len hps
         have hrs := hsm.2 r (List.mem_of_getElem? hr')
         rcases hys with hys | hys
         case' inl =>
           refine .inl ⟨_, rfl, b, rfl, ⟨_, hys.ext hE⟩, fun D hD => lc_map (walk_list (xs := ys)) [D] (by simp) (fun H' => H' l = some (.lst (((rows.take i).map rowT).map V.str)) ∧ Ext H H') (fun j y _ => ∃ z, r[j]? = some z ∧ y = .str z) (by omega) (fun _ _ _ _ _ h => h)
             (fun H' o hh => ?_) ?_ (fun H' _ hh => hys.ext hh.2) ?_ ?_⟩
         case' inr =>
           refine .inr ⟨_, rfl, b, rfl, ⟨_, hys.ext hE⟩, fun D hD => lc_map (walk_tup (xs := ys)) [D] (by simp) (fun H' => H' l = some (.lst (((rows.take i).map rowT).map V.str)) ∧ Ext H H') (fun j y _ => ∃ z, r[j]? = some z ∧ y = .str z) (by omega) (fun _ _ _ _ _ h => h)
             (fun H' o hh => ?_) ?_ (fun H' _ hh => hys.ext hh.2) ?_ ?_⟩
         all_goals have nlD : l ≠ D := ne_of_none hL hD
         all_goals first
           | (refine ⟨by rw [upd_ne nlD]; exact hh.1, fun b' o' q => ?_⟩
              rw [upd_ne (ne_of_none (hE b' o' q) hD)]
              exact hh.2 b' o' q)
           | exact ⟨by rw [upd_ne nlD]; exact hL, hE.trans (Ext.upd hD)⟩
           | (rintro j x H2 _ acc C hj e hh hD2 ⟨rfl, hxj⟩ hC
              obtain ⟨z, hz, htx⟩ := Paired.at_ hps hxj
              refine ⟨rfl, _, rfl, ?_⟩
              rcases htx with rfl | ⟨a2, m, rfl, hm, hg, rfl⟩
              · exact .inl ⟨_, rfl, hC _ _ hD2 Ext.rfl' hh ⟨_, hz, rfl⟩⟩
              · obtain ⟨dx, hm'⟩ := id hm
                exact .inr ⟨a2, _, dx, _, rfl, hh.2 _ _ hm', (TC m.1 hg.1).st, a2, m, rfl, hm.mono hh.2, hg, _, rfl, hC _ _ hD2 Ext.rfl' hh ⟨_, hz, rfl⟩⟩)
           | (intro H2 ws e hh hD2 hlw hw
              have hws : ws = r.map V.str := list_of_get (by omega) hw
              subst hws
              refine ⟨_, rfl, .inl ⟨rfl, _, SqL.of hh.1⟩, _, rfl, (by show 0 ≤ sizeLine; decide), fun e2 he2 => ?_⟩
              have hD3 : (upd H2 e2 (.lst [])) D = some (.lst (r.map V.str)) := by rw [upd_ne (ne_of_none hD2 he2)]; exact hD2
              have hL3 : (upd H2 e2 (.lst [])) l = some (.lst (((rows.take i).map rowT).map V.str)) := by rw [upd_ne (ne_of_none hh.1 he2)]; exact hh.1
              refine ⟨D, e2, _, rfl, rfl, hD3, upd_same, _, rfl, ?_⟩
              have hlen3 : (((rows.take i).map rowT).map V.str).length < sizeLine := by
                rw [List.length_map, List.length_map]
                have := List.length_take_le i rows
                have h20 := hsm.1
                exact small1000 (by omega)
              have fin : ∀ (H' : Hp), (upd (upd H2 e2 (.lst [])) l (.lst (((rows.take i).map rowT).map V.str ++ [.str (rowT r)]))) = H' → ∃ x2 x3, [some (V.ref a), some (V.ref l), some (V.ref b), some (V.ref D), none] = [some (V.ref a), some (V.ref l), x2, x3, none] ∧ H' l = some (.lst (((rows.take (i + 1)).map rowT).map V.str)) ∧ Ext H H' := by
                rintro H' rfl
                refine ⟨_, _, rfl, ?_, fun b' o' q => ?_⟩
                · rw [upd_same, map_take_succ rowT hr', List.map_append]
                  rfl
                · have h2 := hh.2 b' o' q
                  rw [upd_ne (ne_of_none q hl), upd_ne (ne_of_none h2 he2)]
                  exact h2
              cases r with
              | nil =>
                refine iteF ?_
                exact ⟨l, _, _, rfl, rfl, hL3, hlen3, fin _ rfl⟩
              | cons z0 r0 =>
                refine iteT ?_
                refine ⟨⟨_, rfl⟩, _, rfl, _, D, z0 :: r0, rfl, rfl, .inl (SqL.of hD3), ?_, l, _, _, rfl, rfl, hL3, hlen3, fin _ rfl⟩
                have h1 := sum_le (B := 20) hrs.2
                have h2 : (", " : Str).length = 2 := by decide +kernel
                have h3 := hrs.1
                rw [h2]
                omega))
      | (-- the end
         rintro σ H1 ⟨x2, x3, rfl, hL, hE⟩
         rw [hlen, List.take_length] at hL
         refine ⟨⟨_, rfl⟩, _, rfl, _, l, rows.map rowT, rfl, rfl, .inl (SqL.of hL), ?_, k H1 hE⟩
         have h1 := sum_le (B := 440) (l := rows.map rowT) (fun z hz => by
           obtain ⟨r, hr, rfl⟩ := List.mem_map.mp hz
           exact row_len (hsm.2 r hr))
         have h2 : ("\n" : Str).length = 1 := by decide +kernel
         have h3 := hsm.1
         rw [h2, List.length_map]
         rw [List.length_map] at h1
         omega)
end
end K94
end
section
set_option Elab.async false
set_option autoImplicit false
set_option linter.all false
set_option maxRecDepth 100000
set_option maxHeartbeats 4000000
namespace K94
open PySem PySem.Spec PyProof.Rows L2 Ls
open C8 (pss_cut tCut)
open TL
def PlanOk (plan : List (List (Str × Str))) : Prop := plan.length ≤ 20 ∧ (∀ ms ∈ plan, ms.length ≤ 20) ∧ ∀ ms ∈ plan, ∀ m ∈ ms, Good m
def textsOf (plan : List (List (Str × Str))) : List (List Str) := plan.map (·.map textM)
theorem PlanOk.small {plan : List (List (Str × Str))} (h : PlanOk plan) : Small (textsOf plan) := small_of h.1 h.2.1 h.2.2
/-- lists of words, new -/
def LinesAt (H : Hp) (l : Addr) (rows : List (List Str)) : Prop := ∃ xs, H l = some (.lst xs) ∧ Paired (fun v ws => ∃ a, v = V.ref a ∧ H a = some (.lst (ws.map V.str))) xs rows
def MovesAt (cl : Str → Addr) (H : Hp) (a : Addr) (ms : List (Str × Str)) : Prop := ∃ xs, H a = some (.lst xs) ∧ Paired (fun v m => ∃ b, v = V.ref b ∧ MoveAt cl H b m) xs ms
def PlanAt (cl : Str → Addr) (H : Hp) (a : Addr) (plan : List (List (Str × Str))) : Prop := ∃ xs, H a = some (.lst xs) ∧ Paired (fun v ms => ∃ b, v = V.ref b ∧ MovesAt cl H b ms) xs plan
theorem Paired.imp {α β : Type} {F G : α → β → Prop} (h : ∀ a b, F a b → G a b) : ∀ {l₁ : List α} {l₂ : List β}, Paired F l₁ l₂ → Paired G l₁ l₂
  | _, _, .nil => .nil
  | _, _, .cons r t => .cons (h _ _ r) (Paired.imp h t)
theorem MovesAt.mono {cl : Str → Addr} {H H' : Hp} {a : Addr} {ms : List (Str × Str)} (e : Ext H H') (h : MovesAt cl H a ms) : MovesAt cl H' a ms :=
  let ⟨xs, q, p⟩ := h; ⟨xs, e _ _ q, Paired.imp (fun _ _ ⟨b, e1, q1⟩ => ⟨b, e1, q1.mono e⟩) p⟩
theorem PlanAt.mono {cl : Str → Addr} {H H' : Hp} {a : Addr} {plan : List (List (Str × Str))} (e : Ext H H') (h : PlanAt cl H a plan) : PlanAt cl H' a plan :=
  let ⟨xs, q, p⟩ := h; ⟨xs, e _ _ q, Paired.imp (fun _ _ ⟨b, e1, q1⟩ => ⟨b, e1, q1.mono e⟩) p⟩
theorem rowW_len {ms : List (Str × Str)} (h : ms ≠ []) : (rowW ms).length = 2 * ms.length := by
  cases ms with
  | nil => exact absurd rfl h
  | cons m r => exact words_len (m :: r)
section
variable {P : Program} {w : World} {K : PySem.W.Frag} {mg : Str → Option Value} {base : Heap} {CM CL CA CS CF mw : Addr} {tL tN : Tok}
/-! ### lines_of -/
def spLines : Sp := fun vs H Q _ => ∃ plan : List (List (Str × Str)), vs = [.str (planT (textsOf plan))] ∧ plan ≠ [] ∧ PlanOk plan ∧ ∀ l H', Ext H H' → LinesAt (nw H H') l (plan.map rowW) → Q (.ref l) H'
abbrev s_lines_of : Stmt := top 20
abbrev N_lines_of : List Str := ["text", "line"]
theorem sc_lines_of : FnScope N_lines_of ["text"] (defScope s_lines_of) := ⟨rfl, rfl, rfl, by decide +kernel, rfl, by decide +kernel, by decide +kernel⟩
theorem ok_lines {f : Addr} {fd : FuncData} (F : Fun K "lines_of" "lines_of" s_lines_of f fd) (T : Tx K mg CM CL CA CS CF mw tL tN) : FnOk P w K mg base CX0 1 f fd ["text"] spLines := by
  refine F.ok sc_lines_of (fun vs H Q E h => ?_) (fun cdv A outer s H vs Q E hr h => ?_)
  · obtain ⟨plan, rfl, _⟩ := h
    rfl
  · obtain ⟨plan, rfl, hne, hok, k⟩ := h
    refine ⟨_, (pss_cons (ps_if (pt_not (pt_val (pe_callB call_isi (by rfl) (T.bn _ (by decide +kernel)) (by decide +kernel) (pa_cons (pv 0) (pa_cons (pe_gty (T := "str") (by rfl) (T.bn _ (by decide +kernel)) (by decide +kernel)) pa_nil))))) (pss_one ps_never) pss_nil)
      (pss_one (ps_ret (pe_lc (own := [("line", 1)]) rfl sc_lines_of.nd (pi_list (pe_split (pv 0) pe_str)) (blkOk_by (own := [("line", 1)]) (N := N_lines_of) (sc := defScope s_lines_of) (by decide +kernel)) (fun _ _ _ _ _ => (pg_name (i := 1) sc_lines_of.nd rfl (by first | exact Or.inl rfl | exact Or.inr rfl))) (fun _ _ _ _ _ => pts_nil) (fun _ _ _ _ _ => (pe_split (pv 1) pe_str)))))), ?_⟩
    have h4 : sizeLine = 16777216 := sizeLine_eq
    have hpl := plan_len hok.small
    refine ⟨_, rfl, _, _, _, _, true, rfl, .ty "str", .base (.str _), kit_ty (by decide +kernel), _, rfl, ?_⟩
    refine iteF ?_
    refine ⟨_, rfl, ⟨_, rfl⟩, _, _, rfl, rfl, (by decide +kernel), by omega, fun l0 hl0 => ?_⟩
    rw [show Txt.split (planT (textsOf plan)) "\n" = plan.map fun ms => rowT (ms.map textM) from split_plan hne hok.2.2]
    refine ⟨l0, rfl, ⟨_, SqL.of upd_same⟩, fun D hD => ?_⟩
    have n0D : l0 ≠ D := ne_of_none upd_same hD
    have hE0 : Ext H (upd H l0 (.lst ((plan.map fun ms => rowT (ms.map textM)).map V.str))) := Ext.upd hl0
    have hHD : H D = none := by
      cases q : H D with
      | none => rfl
      | some o => rw [hE0 _ _ q] at hD; cases hD
    have hc := hok.1
    refine lc_map (walk_list (xs := (plan.map fun ms => rowT (ms.map textM)).map V.str)) [D] (by simp) (fun H' => H' l0 = some (.lst ((plan.map fun ms => rowT (ms.map textM)).map V.str)) ∧ Ext H H')
      (fun j y Hx => ∃ ms a, plan[j]? = some ms ∧ y = V.ref a ∧ H a = none ∧ Hx a = some (.lst ((rowW ms).map V.str))) (by rw [List.length_map, List.length_map]; omega)
      (fun j y H1 H2 e ⟨ms, a, h1, h2, h3, h4⟩ => ⟨ms, a, h1, h2, h3, e _ _ h4⟩) (fun H' o hh => ⟨by rw [upd_ne n0D]; exact hh.1, fun b o' q => by rw [upd_ne (ne_of_none q hHD)]; exact hh.2 b o' q⟩)
      ⟨by rw [upd_ne n0D]; exact upd_same, hE0.trans (Ext.upd hD)⟩ (fun H' _ hh => SqL.of hh.1) ?_ ?_
    · rintro j x H2 _ acc C hj e hh hD2 ⟨rfl, hxj⟩ hC
      rw [List.getElem?_map, List.getElem?_map] at hxj
      cases q : plan[j]? with
      | none => rw [q] at hxj; cases hxj
      | some ms =>
        rw [q] at hxj
        have hx : x = .str (rowT (ms.map textM)) := (Option.some.inj hxj).symm
        subst hx
        have hms := List.mem_of_getElem? q
        have hrl := row_len (hok.small.2 (ms.map textM) (List.mem_map_of_mem hms))
        refine ⟨rfl, _, rfl, ⟨_, rfl⟩, _, _, rfl, rfl, (by decide +kernel), by omega, fun a ha => ?_⟩
        rw [split_row (hok.2.2 ms hms)]
        have naD : D ≠ a := ne_of_none hD2 ha
        have hHa : H a = none := by
          cases q' : H a with
          | none => rfl
          | some o => rw [hh.2 _ _ q'] at ha; cases ha
        refine hC _ _ (by rw [upd_ne naD]; exact hD2) (hid_upd_new ha) ⟨by rw [upd_ne (ne_of_none hh.1 ha)]; exact hh.1, hh.2.trans (Ext.upd ha)⟩ ⟨ms, a, q, rfl, hHa, ?_⟩
        rw [hid_at (by simpa using naD.symm)]
        exact upd_same
    · intro H2 ys e hh hD2 hl hy
      rw [List.length_map, List.length_map] at hl
      refine k D H2 hh.2 ⟨ys, by rw [nw_at hHD]; exact hD2, Paired.of_get (by rw [List.length_map]; exact hl) fun i v ws h1 h2 => ?_⟩
      obtain ⟨ms, a, g1, g2, g3, g4⟩ := hy i v h1
      rw [List.getElem?_map, g1] at h2
      have : ws = rowW ms := (Option.some.inj h2).symm
      subst this
      exact ⟨a, g2, by rw [nw_at g3]; exact (hid_some g4).2⟩
/-! ### need_words -/
def spNeed (K : PySem.W.Frag) : Sp := fun vs H Q _ => ∃ (v : V) (l : Addr) (xs : List V) (a b : Int), vs = [v, .ref l, .int a, .int b] ∧ SqL K H l xs ∧ a ≤ xs.length ∧ (xs.length : Int) ≤ b ∧ Q .non H
abbrev s_need_words : Stmt := top 21
abbrev N_need_words : List Str := ["at", "words", "least", "most"]
theorem sc_need_words : FnScope N_need_words ["at", "words", "least", "most"] (defScope s_need_words) := ⟨rfl, rfl, rfl, by decide +kernel, rfl, by decide +kernel, by decide +kernel⟩
theorem ok_need {f : Addr} {fd : FuncData} (F : Fun K "need_words" "need_words" s_need_words f fd) (T : Tx K mg CM CL CA CS CF mw tL tN) : FnOk P w K mg base CX0 1 f fd ["at", "words", "least", "most"] (spNeed K) := by
  refine F.ok sc_need_words (fun vs H Q E h => ?_) (fun cdv A outer s H vs Q E hr h => ?_)
  · obtain ⟨v, l, xs, a, b, rfl, _⟩ := h
    rfl
  · obtain ⟨v, l, xs, a, b, rfl, hl, ha, hb, k⟩ := h
    refine ⟨_, (pss_cons (ps_if (pt_cmpR op_lt (pe_callB call_len_seq (by rfl) (T.bn _ (by decide +kernel)) (by decide +kernel) (pa_cons (pv 1) pa_nil)) (pv 2) (nomark _)) (pss_one ps_never) pss_nil)
      (pss_one (ps_if (pt_cmpR op_gt (pe_callB call_len_seq (by rfl) (T.bn _ (by decide +kernel)) (by decide +kernel) (pa_cons (pv 1) pa_nil)) (pv 3) (nomark _)) (pss_one ps_never) pss_nil))), ?_⟩
    refine ⟨_, rfl, l, _, rfl, .inl hl, _, rfl, _, _, rfl, rfl, _, rfl, ?_⟩
    refine iteNo (decide_eq_false (by omega)) ?_
    refine ⟨_, rfl, l, _, rfl, .inl hl, _, rfl, _, _, rfl, rfl, _, rfl, ?_⟩
    refine iteNo (decide_eq_false (by omega)) ?_
    exact k
end
end K94
end
section
set_option Elab.async false
set_option autoImplicit false
set_option linter.all false
set_option maxRecDepth 100000
set_option maxHeartbeats 4000000
namespace K94
open PySem PySem.Spec PyProof.Rows L2 Ls
open C8 (pss_cut tCut)
open TL
theorem w4_nodash {wd : Str} (h : wd ∈ W4) : ¬ wd = "-" := by
  rcases w4_cases h with rfl | rfl | rfl | rfl <;> decide +kernel
theorem in_w4' {wd : Str} (h : wd ∈ W4) : inV (.str wd) (W4.map V.str) = true := by
  rcases w4_cases h with rfl | rfl | rfl | rfl <;> decide +kernel
theorem rowW_even {ms : List (Str × Str)} {j : Nat} {m : Str × Str} (h : ms[j]? = some m) : ((rowW ms).map V.str)[2 * j]? = some (.str m.1) := by
  cases ms with
  | nil => simp at h
  | cons a r =>
    show ((wordsOf (a :: r)).map V.str)[2 * j]? = _
    rw [List.getElem?_map, words_even h]
    rfl
theorem rowW_odd {ms : List (Str × Str)} {j : Nat} {m : Str × Str} (h : ms[j]? = some m) : ((rowW ms).map V.str)[2 * j + 1]? = some (.str (if j + 1 < ms.length then m.2 ++ "," else m.2)) := by
  cases ms with
  | nil => simp at h
  | cons a r =>
    show ((wordsOf (a :: r)).map V.str)[2 * j + 1]? = _
    rw [List.getElem?_map, words_odd h]
    rfl
theorem atI_at {xs : List V} {i : Int} {j : Nat} {v : V} (e : i = (j : Int)) (h : xs[j]? = some v) : atI xs i = some v := by rw [e]; exact atI_nat h
section
variable {P : Program} {w : World} {K : PySem.W.Frag} {mg : Str → Option Value} {base : Heap} {CM CL CA CS CF mw : Addr} {tL tN : Tok}
/-! ### read_row -/
def spRow (cl : Str → Addr) : Sp := fun vs H Q _ => ∃ (v : V) (l : Addr) (ms : List (Str × Str)), vs = [v, .ref l] ∧ H l = some (.lst ((rowW ms).map V.str)) ∧ ms.length ≤ 20 ∧ (∀ m ∈ ms, Good m) ∧ ∀ a H', Ext H H' → MovesAt cl (nw H H') a ms → Q (.ref a) H'
abbrev s_read_row : Stmt := top 24
abbrev N_read_row : List Str := ["at", "words", "moves", "index", "is_open", "name"]
theorem sc_read_row : FnScope N_read_row ["at", "words"] (defScope s_read_row) := ⟨rfl, rfl, rfl, by decide +kernel, rfl, by decide +kernel, by decide +kernel⟩
theorem ok_row {f : Addr} {fd : FuncData} (F : Fun K "read_row" "read_row" s_read_row f fd) (T : Tx K mg CM CL CA CS CF mw tL tN) (hmw : ∀ H : Hp, SqT K H mw (W4.map V.str))
    (c_is_name : Cal P w K mg base CX0 1 "is_name" spName) (c_need_words : Cal P w K mg base CX0 1 "need_words" (spNeed K)) (c_Move_read : Clm P w K mg base CX0 6 CM "read" (spRead (clsOf CL CA CS CF))) :
    FnOk P w K mg base CX0 7 f fd ["at", "words"] (spRow (clsOf CL CA CS CF)) := by
  refine F.ok sc_read_row (fun vs H Q E h => ?_) (fun cdv A outer s H vs Q E hr h => ?_)
  · obtain ⟨v, l, ms, rfl, _⟩ := h
    rfl
  · obtain ⟨v, l, ms, rfl, hL, hn, hg, k⟩ := h
    have h4 : sizeLine = 16777216 := sizeLine_eq
    refine ⟨_, (pss_cons (ps_if (pt_cmpR op_eq (pe_ix ix_list (pv 1) pe_int (fun _ _ => rfl)) pe_str (nomark _)) (pss_cons (ps_expr (pe_cal c_need_words (hr.mono (by decide)) (by rfl) pass0 (pa_cons (pv 0) (pa_cons (pv 1) (pa_cons pe_int (pa_cons pe_int pa_nil))))))
      (pss_one (ps_ret (pe_lst pa_nil)))) pss_nil)
      (pss_cons (ps_set (i := 2) sc_read_row.nd rfl (by first | exact Or.inl rfl | exact Or.inr rfl) (pe_lst pa_nil))
      (pss_cons (ps_set (i := 3) sc_read_row.nd rfl (by first | exact Or.inl rfl | exact Or.inr rfl) pe_int)
      (pss_cons (ps_set (i := 4) sc_read_row.nd rfl (by first | exact Or.inl rfl | exact Or.inr rfl) pe_bl)
      (pss_cons (ps_while PassesOwn.never (pt_val (pv 4))
      (pss_cons (ps_if ((pw_or (pt_cmpR op_ge (pv 3) (pe_callB call_len_seq (by rfl) (T.bn _ (by decide +kernel)) (by decide +kernel) (pa_cons (pv 1) pa_nil)) (nomark _)) (pw_or1 (pt_cmpR op_notIn_seq (pe_ix ix_list (pv 1) (pv 3) (fun _ _ => rfl)) (pe_gref (by rfl) T.m_MOVE_WORDS) rfl)))).pt (pss_one ps_never) pss_nil)
      (pss_cons (ps_if (pt_cmpR op_eq (pe_op op_add (pv 3) pe_int) (pe_callB call_len_seq (by rfl) (T.bn _ (by decide +kernel)) (by decide +kernel) (pa_cons (pv 1) pa_nil)) (nomark _)) (pss_one ps_never) pss_nil)
      (pss_cons (ps_set (i := 5) sc_read_row.nd rfl (by first | exact Or.inl rfl | exact Or.inr rfl) (pe_ix ix_list (pv 1) (pe_op op_add (pv 3) pe_int) (fun _ _ => rfl)))
      (pss_cons (ps_set (i := 4) sc_read_row.nd rfl (by first | exact Or.inl rfl | exact Or.inr rfl) (pe_cmpR op_eq (pe_slice sl_str (pv 5) (po_some (pe_un un_neg pe_int)) po_none) pe_str (nomark _)))
      (pss_cut (ps_if (pt_val (pv 4)) (pss_one (ps_set (i := 5) sc_read_row.nd rfl (by first | exact Or.inl rfl | exact Or.inr rfl) (pe_slice sl_str (pv 5) po_none (po_some (pe_un un_neg pe_int))))) pss_nil)
      (pss_cons (ps_if (pt_not (pt_val (pe_cal c_is_name (hr.mono (by decide)) (by rfl) pass0 (pa_cons (pv 5) pa_nil)))) (pss_one ps_never) pss_nil)
      (pss_cons (ps_expr (pe_bm PySem.F.plainAttrs_list PySem.F.slot_list_append PySem.F.type_list_append mt_append (pv 2) (pa_cons (pe_clm c_Move_read (hr.mono (by decide)) (pe_gref (by rfl) T.m_Move) pass0 (pa_cons (pe_joined (.cons (pe_fmt (pe_ix ix_list (pv 1) (pv 3) (fun _ _ => rfl))) (.cons pe_str (.cons (pe_fmt (pv 5)) .nil)))) pa_nil)) pa_nil)))
      (pss_one (ps_aug (i := 3) sc_read_row.nd rfl (by first | exact Or.inl rfl | exact Or.inr rfl) pe_int ip_add))))))))))
      (pss_cons (ps_expr (pe_cal c_need_words (hr.mono (by decide)) (by rfl) pass0 (pa_cons (pv 0) (pa_cons (pv 1) (pa_cons (pv 3) (pa_cons (pv 3) pa_nil))))))
      (pss_one (ps_ret (pv 2))))))))), ?_⟩
    cases hms : ms with
    | nil =>
      subst hms
      refine ⟨_, rfl, l, _, 0, .str "-", rfl, rfl, SqL.of hL, atI_nat (j := 0) rfl, rfl, _, rfl, ?_⟩
      refine iteT ?_
      refine ⟨_, rfl, _, rfl, _, l, _, 1, 1, rfl, SqL.of hL, by decide, by decide, ?_⟩
      refine ⟨(by show 0 ≤ sizeLine; decide), fun a ha => ?_⟩
      exact k a _ (Ext.upd ha) ⟨[], by rw [nw_at ha]; exact upd_same, .nil⟩
    | cons m0 r0 =>
      have hne : ms ≠ [] := by rw [hms]; simp
      have hm0 : ms[0]? = some m0 := by rw [hms]; rfl
      have hwl : ((rowW ms).map V.str).length = 2 * ms.length := by rw [List.length_map]; exact rowW_len hne
      clear hms
      refine ⟨_, rfl, l, _, 0, .str m0.1, rfl, rfl, SqL.of hL, atI_nat (j := 0) (rowW_even (j := 0) hm0), rfl, _, rfl, ?_⟩
      refine iteNo (strNo (w4_nodash (hg m0 (List.mem_of_getElem? hm0)).1)) ?_
      refine ⟨(by show 0 ≤ sizeLine; decide), fun mv hmv => ?_⟩
      refine while_by (fun σ H' => ∃ (j : Nat) (x5 : Option V) (xs : List V), j ≤ ms.length ∧ σ = [some v, some (.ref l), some (.ref mv), some (.int ((2 * j : Nat) : Int)), some (.bl (decide (j < ms.length))), x5] ∧ Ext H H' ∧ H' mv = some (.lst xs) ∧
          Paired (fun v m => ∃ b, v = V.ref b ∧ MoveAt (clsOf CL CA CS CF) (nw H H') b m) xs (ms.take j))
        (fun (σ : L2.St) _ => match σ[3]? with | some (some (V.int i)) => (2 * (ms.length : Int) - i).toNat | _ => 0) ?_ ?_ ?_
      · refine ⟨0, none, [], Nat.zero_le _, ?_, Ext.upd hmv, upd_same, .nil⟩
        have : decide (0 < ms.length) = true := decide_eq_true (by cases ms with | nil => exact absurd rfl hne | cons _ _ => simp)
        rw [this]
        rfl
      · rintro σ H1 ⟨j, x5, xs, hj, rfl, hE, hM, hP⟩
        refine ⟨_, rfl, _, rfl, ?_⟩
        by_cases hlt : j < ms.length
        · refine iteYes (decide_eq_true hlt) ?_
          obtain ⟨m, hm⟩ : ∃ m, ms[j]? = some m := ⟨ms[j], List.getElem?_eq_getElem hlt⟩
          have hgm := hg m (List.mem_of_getElem? hm)
          have hL1 := hE _ _ hL
          have hnl := (name_len hgm.2).2
          have hwl1 := (name_len (w4_name hgm.1)).2
          refine ⟨_, rfl, _, rfl, l, _, rfl, .inl (SqL.of hL1), _, _, rfl, rfl, _, rfl, ?_⟩
          refine iteNo (decide_eq_false (by rw [hwl]; omega)) ?_
          refine ⟨_, rfl, _, rfl, l, _, _, _, rfl, rfl, SqL.of hL1, atI_nat (rowW_even hm), mw, _, rfl, .inr (hmw H1), rfl, rfl, _, rfl, ?_⟩
          rw [in_w4' hgm.1]
          refine iteF ?_
          refine ⟨_, rfl, _, _, rfl, rfl, _, rfl, l, _, rfl, .inl (SqL.of hL1), rfl, _, rfl, ?_⟩
          refine iteNo (decide_eq_false fun q => ?_) ?_
          · have q' := V.int.inj q
            rw [hwl] at q'
            omega
          refine ⟨_, rfl, _, rfl, _, _, rfl, rfl, l, _, _, _, rfl, rfl, SqL.of hL1, atI_at (j := 2 * j + 1) (by omega) (rowW_odd hm), ?_⟩
          -- is_open, and the name without its comma
          have hcut : ∀ z : Str, z = (if j + 1 < ms.length then m.2 ++ "," else m.2) → decide (V.str (cutS z (some (-1)) none) = V.str ",") = decide (j + 1 < ms.length) ∧ z.length ≤ 100 ∧ (j + 1 < ms.length → cutS z none (some (-1)) = m.2) ∧ (¬ j + 1 < ms.length → z = m.2) := by
            rintro z rfl
            by_cases h1 : j + 1 < ms.length
            · rw [if_pos h1, cut_last_comma, cut_init_comma, decide_eq_true rfl, decide_eq_true h1]
              refine ⟨rfl, ?_, fun _ => rfl, fun h => absurd h1 h⟩
              rw [Str.length_append]
              have : ("," : Str).length = 1 := by decide +kernel
              omega
            · rw [if_neg h1, decide_eq_false h1]
              exact ⟨strNo (cut_last_name hgm.2), by omega, fun h => absurd h h1, fun _ => rfl⟩
          obtain ⟨c1, c2, c3, c4⟩ := hcut _ rfl
          generalize (if j + 1 < ms.length then m.2 ++ ("," : Str) else m.2) = z at c1 c2 c3 c4
          refine ⟨_, rfl, 1, rfl, -1, rfl, z, rfl, by omega, rfl, ?_⟩
          rw [c1]
          refine ⟨fun σ' H' => σ' = [some v, some (.ref l), some (.ref mv), some (.int ((2 * j : Nat) : Int)), some (.bl (decide (j + 1 < ms.length))), some (.str m.2)] ∧ H' = H1, ?_, ?_⟩
          · refine ⟨_, rfl, _, rfl, ?_⟩
            by_cases h1 : j + 1 < ms.length
            · refine iteYes (decide_eq_true h1) ?_
              refine ⟨_, rfl, 1, rfl, -1, rfl, z, rfl, by omega, ?_⟩
              rw [c3 h1]
              exact ⟨rfl, rfl⟩
            · refine iteNo (decide_eq_false h1) ?_
              rw [c4 h1]
              exact ⟨rfl, rfl⟩
          · rintro σ' H' ⟨rfl, rfl⟩
            refine ⟨_, rfl, m.2, rfl, by omega, fun H2 e2 => ⟨_, rfl, ?_⟩⟩
            rw [hgm.2]
            refine iteF ?_
            have hL2 := e2 _ _ hL1
            have hM2 := e2 _ _ hM
            refine ⟨_, rfl, .inl ⟨rfl, _, SqL.of hM2⟩, rfl, ?_⟩
            refine ⟨_, rfl, _, rfl, l, _, _, _, rfl, rfl, SqL.of hL2, atI_nat (rowW_even hm), .inl ⟨m.1, rfl, by omega, m.1, rfl, ?_, " ", rfl, ?_, _, rfl, .inl ⟨m.2, rfl, by omega, m.2, rfl, ?_, ?_⟩⟩⟩
            · rw [Str.length_append]
              have : Str.empty.length = 0 := rfl
              omega
            · rw [Str.length_append, Str.length_append]
              have : Str.empty.length = 0 := rfl
              have h3 : (" " : Str).length = 1 := by decide +kernel
              omega
            · rw [Str.length_append, Str.length_append, Str.length_append]
              have : Str.empty.length = 0 := rfl
              have h3 : (" " : Str).length = 1 := by decide +kernel
              omega
            have et : Str.empty ++ m.1 ++ " " ++ m.2 = textM m := by
              unfold textM
              refine ext_tl ?_
              rw [tl_append, tl_append, tl_append, tl_append, tl_append]
              rfl
            refine ⟨_, m, by rw [et], hgm, fun b H3 e3 hb => ?_⟩
            have hM3 := e3 _ _ hM2
            have hxl : xs.length < sizeLine := by
              have := Paired.len hP
              have h9 := List.length_take_le j ms
              exact small1000 (by omega)
            refine ⟨mv, xs, _, rfl, rfl, hM3, hxl, ?_⟩
            refine ⟨_, rfl, _, _, rfl, rfl, ?_⟩
            have hHmv : H mv = none := hmv
            have keepM : ∀ {b' : Addr} {m' : Str × Str} {Hx : Hp}, MoveAt (clsOf CL CA CS CF) (nw H Hx) b' m' → Ext Hx H3 → MoveAt (clsOf CL CA CS CF) (nw H (upd H3 mv (.lst (xs ++ [.ref b])))) b' m' := fun {b' m' Hx} q ex => by
              obtain ⟨dx, q⟩ := q
              obtain ⟨q1, q2⟩ := nw_some q
              have q3 := ex _ _ q2
              refine ⟨dx, ?_⟩
              rw [nw_at q1, upd_ne (ne_of q3 hM3 (by intro z; cases z))]
              exact q3
            have hE2 : Ext H H2 := hE.trans e2
            refine ⟨⟨j + 1, some (.str m.2), xs ++ [.ref b], hlt, ?_, ?_, upd_same, ?_⟩, ?_⟩
            · have : (((2 * j : Nat) : Int) + 2) = ((2 * (j + 1) : Nat) : Int) := by omega
              rw [← this]
              rfl
            · intro b' o q
              rw [upd_ne (ne_of_none q hHmv)]
              exact e3 b' o (hE2 b' o q)
            · rw [List.take_succ, hm]
              refine Paired.snoc (Paired.imp (fun v' m' ⟨b', q1, q2⟩ => ⟨b', q1, keepM q2 (e2.trans e3)⟩) hP) ⟨b, rfl, keepM (hb.mono (nw_back hE2)) Ext.rfl'⟩
            · show (2 * (ms.length : Int) - (((2 * j : Nat) : Int) + 2)).toNat < (2 * (ms.length : Int) - ((2 * j : Nat) : Int)).toNat
              omega
        · refine iteNo (decide_eq_false hlt) ?_
          have hjn : j = ms.length := by omega
          subst hjn
          have hL1 := hE _ _ hL
          refine ⟨_, rfl, _, rfl, _, rfl, _, rfl, _, l, _, _, _, rfl, SqL.of hL1, by rw [hwl]; omega, by rw [hwl]; omega, ?_⟩
          refine ⟨_, rfl, k mv H1 hE ⟨xs, by rw [nw_at hmv]; exact hM, ?_⟩⟩
          rw [List.take_length] at hP
          exact hP
      · rintro σ H1 Q1 Q2 hq ⟨v1, h1, c1, h2, h3⟩
        exact ⟨v1, h1, c1, h2, hq _ _ h3⟩
end
end K94
end
section
set_option Elab.async false
set_option autoImplicit false
set_option linter.all false
set_option maxRecDepth 100000
set_option maxHeartbeats 4000000
namespace K94
open PySem PySem.Spec PyProof.Rows L2 Ls
open C8 (pss_cut tCut)
open TL
theorem Ext.free {H H' : Hp} (e : Ext H H') {a : Addr} (h : H' a = none) : H a = none := by
  cases q : H a with
  | none => rfl
  | some o => rw [e a o q] at h; cases h
theorem nw_hid2 {S : List Addr} {H H3 H4 : Hp} (e : Ext H H3) (h : ∀ b ∈ S, H3 b ≠ none) : Ext (nw H3 H4) (nw H (hid S H4)) := fun a o q => by
  obtain ⟨h1, h2⟩ := nw_some q
  rw [nw_at (Ext.free e h1), hid_at fun z => h a z h1]
  exact h2
section
variable {P : Program} {w : World} {K : PySem.W.Frag} {mg : Str → Option Value} {base : Heap} {CM CL CA CS CF mw : Addr} {tL tN : Tok}
/-! ### read_plan -/
def spRP (cl : Str → Addr) : Sp := fun vs H Q _ => ∃ plan : List (List (Str × Str)), vs = [.str (planT (textsOf plan))] ∧ plan ≠ [] ∧ PlanOk plan ∧ ∀ a H', Ext H H' → PlanAt cl (nw H H') a plan → Q (.ref a) H'
abbrev s_read_plan : Stmt := top 25
abbrev N_read_plan : List Str := ["text", "at", "words"]
theorem sc_read_plan : FnScope N_read_plan ["text"] (defScope s_read_plan) := ⟨rfl, rfl, rfl, by decide +kernel, rfl, by decide +kernel, by decide +kernel⟩
theorem ok_plan {f : Addr} {fd : FuncData} (F : Fun K "read_plan" "read_plan" s_read_plan f fd) (T : Tx K mg CM CL CA CS CF mw tL tN)
    (c_lines_of : Cal P w K mg base CX0 1 "lines_of" spLines) (c_read_row : Cal P w K mg base CX0 7 "read_row" (spRow (clsOf CL CA CS CF))) :
    FnOk P w K mg base CX0 8 f fd ["text"] (spRP (clsOf CL CA CS CF)) := by
  refine F.ok sc_read_plan (fun vs H Q E h => ?_) (fun cdv A outer s H vs Q E hr h => ?_)
  · obtain ⟨plan, rfl, _⟩ := h
    rfl
  · obtain ⟨plan, rfl, hne, hok, k⟩ := h
    refine ⟨_, (pss_one (ps_ret (pe_lc (own := [("at", 1), ("words", 2)]) (g := gTup K 2 (gCons (gName 1) (gCons (gName 2) gNil))) rfl sc_read_plan.nd (pi_enum (by rfl) (T.bn _ (by decide +kernel)) (pa_cons (pe_cal c_lines_of (hr.mono (by decide)) (by rfl) pass0 (pa_cons (pv 0) pa_nil)) pa_nil)) (blkOk_by (own := [("at", 1), ("words", 2)]) (N := N_read_plan) (sc := defScope s_read_plan) (by decide +kernel)) (fun _ _ _ _ _ => (pg_tup rfl (pgs_cons (pg_name (i := 1) sc_read_plan.nd rfl (by first | exact Or.inl rfl | exact Or.inr rfl)) (pgs_cons (pg_name (i := 2) sc_read_plan.nd rfl (by first | exact Or.inl rfl | exact Or.inr rfl)) pgs_nil)))) (fun _ _ _ _ _ => pts_nil) (fun _ _ _ _ _ => (pe_cal c_read_row (hr.mono (by decide)) (by rfl) pass0 (pa_cons (pv 1) (pa_cons (pv 2) pa_nil))))))), ?_⟩
    refine ⟨_, rfl, plan, rfl, hne, hok, fun l H1 e1 hl => ?_⟩
    obtain ⟨xs, hl1, hp⟩ := hl
    have hlen := Paired.len hp
    rw [List.length_map] at hlen
    have hc := hok.1
    have hl2 : H1 l = some (.lst xs) := (nw_some hl1).2
    refine ⟨l, xs, rfl, SqL.of hl2, fun D hD => ?_⟩
    have nlD : l ≠ D := ne_of_none hl2 hD
    have hHD := Ext.free e1 hD
    refine lc_map (walk_enum (xs := xs)) [D] (by simp) (fun H' => Ext H1 H')
      (fun j y Hx => ∃ ms b, plan[j]? = some ms ∧ y = V.ref b ∧ MovesAt (clsOf CL CA CS CF) (nw H Hx) b ms) (by omega)
      (fun j y H1 H2 e ⟨ms, b, h1, h2, h3⟩ => ⟨ms, b, h1, h2, h3.mono (nw_more e)⟩) (fun H' o hh b o' q => by rw [upd_ne (ne_of_none q hD)]; exact hh b o' q)
      (Ext.upd hD) (fun H' _ hh => SqL.of (hh _ _ hl2)) ?_ ?_
    · rintro j x H2 H3 acc C hj e hh hD2 ⟨Tp, x1, y1, rfl, hT, rfl, h1, h2⟩ hC
      cases h1
      obtain ⟨ws, hws, b, rfl, hb⟩ := Paired.at_ hp h2
      rw [List.getElem?_map] at hws
      cases q : plan[j]? with
      | none => rw [q] at hws; cases hws
      | some ms =>
        rw [q] at hws
        have : ws = rowW ms := (Option.some.inj hws).symm
        subst this
        have hms := List.mem_of_getElem? q
        refine ⟨Tp, _, rfl, SqT.of upd_same, rfl, _, _, rfl, _, _, rfl, rfl, rfl, ?_⟩
        have eT : Ext H2 (upd H2 Tp (.tup [.int (j : Nat), .ref b])) := Ext.upd hT
        have hD3 := eT _ _ hD2
        have hE3 : Ext H (upd H2 Tp (.tup [.int (j : Nat), .ref b])) := (e1.trans hh).trans eT
        refine ⟨_, rfl, _, rfl, _, b, ms, rfl, eT _ _ (hh _ _ (nw_some hb).2), hok.2.1 ms hms, hok.2.2 ms hms, fun a H4 e4 hm => ?_⟩
        refine hC _ _ (e4 _ _ hD3) (hid_mono (eT.trans e4)) ((hh.trans eT).trans e4) ⟨ms, a, q, rfl, hm.mono (nw_hid2 hE3 ?_)⟩
        intro b' hb' z
        rw [List.mem_singleton.mp hb', hD3] at z
        cases z
    · intro H2 ys e hh hD2 hl3 hy
      refine k D H2 (e1.trans hh) ⟨ys, by rw [nw_at hHD]; exact hD2, Paired.of_get (by omega) fun i v ms g1 g2 => ?_⟩
      obtain ⟨ms', b, k1, k2, k3⟩ := hy i v g1
      rw [k1] at g2
      cases g2
      exact ⟨b, k2, k3.mono (nw_more hid_ext)⟩
/-! ### the pen made; a pick -/
def spPen (K : PySem.W.Frag) : Sp := fun vs H Q _ => ∃ (a : Addr) (ns : List Int), vs = [.ref a] ∧ SqL K H a (ns.map V.int) ∧ ns.length ≤ 1000 ∧ ∀ p c H', PenAt H' p c → Q (.ref p) H'
abbrev s__law_pen : Stmt := top 27
abbrev N__law_pen : List Str := ["_law_script"]
theorem sc__law_pen : FnScope N__law_pen ["_law_script"] (defScope s__law_pen) := ⟨rfl, rfl, rfl, by decide +kernel, rfl, by decide +kernel, by decide +kernel⟩
theorem ok_pen {f : Addr} {fd : FuncData} (F : Fun K "_law_pen" "_law_pen" s__law_pen f fd) (T : Tx K mg CM CL CA CS CF mw tL tN) : FnOk P w K mg base CX0 1 f fd ["_law_script"] (spPen K) := by
  refine F.ok sc__law_pen (fun vs H Q E h => ?_) (fun cdv A outer s H vs Q E hr h => ?_)
  · obtain ⟨a, ns, rfl, _⟩ := h
    rfl
  · obtain ⟨a, ns, rfl, ha, hn, k⟩ := h
    refine ⟨_, (pss_one (ps_ret (pe_disp (pps_cons pe_str (pe_callTy call_list_of (by rfl) (T.bn _ (by decide +kernel)) (by decide +kernel) (pa_cons (pe_slice sl_list (pv 0) po_none (po_some pe_int)) pa_nil)) (pps_cons pe_str pe_int (pps_cons pe_str pe_int (pps_cons pe_str pe_int pps_nil)))) (by rfl) (by rfl) (fun z => by cases z) (by decide)))), ?_⟩
    intro p hp
    refine ⟨_, rfl, 60, rfl, a, _, rfl, ha.ext (Ext.upd hp), fun q hq => ?_⟩
    have npq : p ≠ q := ne_of_none upd_same hq
    refine ⟨q, _, rfl, .inl (SqL.of upd_same), fun c hc => ?_⟩
    have nqc : q ≠ c := ne_of_none upd_same hc
    have npc : p ≠ c := ne_of_none (by rw [upd_ne npq]; exact upd_same) hc
    refine ⟨by rw [upd_ne npc, upd_ne npq]; exact upd_same, [(kC, .ref c), (kR, .int 0), (kS, .int 29), (kN, .int 0)], rfl, by show 4 ≤ 15; decide, ?_⟩
    refine k p c _ ⟨_, (ns.drop (HT.sIx (ns.map V.int).length 0 none)).take (HT.sIx (ns.map V.int).length (ns.map V.int).length (some 60) - HT.sIx (ns.map V.int).length 0 none), 0, 29, 0, upd_same, ?_, ?_, by decide⟩
    · exact ⟨Nat.le_of_eq (by kernel_rfl), by kernel_rfl, by kernel_rfl, by kernel_rfl, by kernel_rfl⟩
    · rw [upd_ne npc.symm, upd_same, List.map_take, List.map_drop]
      rfl
def spPick (K : PySem.W.Frag) : Sp := fun vs H Q _ => ∃ (p c l : Addr) (xs : List V), vs = [.ref p, .ref l] ∧ PenAt H p c ∧ l ≠ p ∧ l ≠ c ∧ H l = some (.lst xs) ∧ 0 < xs.length ∧ xs.length ≤ 1000 ∧
  ∀ x H', x ∈ xs → PenAt H' p c → Keep p c H H' → Q x H'
abbrev s__law_pick : Stmt := top 29
abbrev N__law_pick : List Str := ["_law_pen_here", "_law_some"]
theorem sc__law_pick : FnScope N__law_pick ["_law_pen_here", "_law_some"] (defScope s__law_pick) := ⟨rfl, rfl, rfl, by decide +kernel, rfl, by decide +kernel, by decide +kernel⟩
theorem ok_pick {f : Addr} {fd : FuncData} (F : Fun K "_law_pick" "_law_pick" s__law_pick f fd) (T : Tx K mg CM CL CA CS CF mw tL tN) (c__law_draw : Cal P w K mg base CX0 1 "_law_draw" spDraw) : FnOk P w K mg base CX0 2 f fd ["_law_pen_here", "_law_some"] (spPick K) := by
  refine F.ok sc__law_pick (fun vs H Q E h => ?_) (fun cdv A outer s H vs Q E hr h => ?_)
  · obtain ⟨p, c, l, xs, rfl, _⟩ := h
    rfl
  · obtain ⟨p, c, l, xs, rfl, hp, n1, n2, hl, h0, h1, k⟩ := h
    refine ⟨_, (pss_one (ps_ret (pe_ix ix_list (pv 1) (pe_cal c__law_draw (hr.mono (by decide)) (by rfl) pass0 (pa_cons (pv 0) (pa_cons (pe_callB call_len_seq (by rfl) (T.bn _ (by decide +kernel)) (by decide +kernel) (pa_cons (pv 1) pa_nil)) pa_nil))) (fun _ _ => rfl)))), ?_⟩
    refine ⟨_, rfl, _, rfl, _, rfl, l, _, rfl, .inl (SqL.of hl), p, c, _, rfl, hp, by omega, by omega, fun j H1 j0 j1 hp1 kp => ?_⟩
    have hl1 := kp l _ hl n1 n2
    have hj : j.toNat < xs.length := by omega
    exact ⟨l, xs, j, xs[j.toNat], rfl, rfl, SqL.of hl1, atI_at (j := j.toNat) (by omega) (List.getElem?_eq_getElem hj), k _ H1 (List.getElem_mem hj) hp1 kp⟩
end
end K94
end
section
set_option Elab.async false
set_option autoImplicit false
set_option linter.all false
set_option maxRecDepth 100000
set_option maxHeartbeats 4000000
namespace K94
open PySem PySem.Spec PyProof.Rows L2 Ls
open C8 (pss_cut tCut)
open TL
/-! ### two moves by == -/
def DMv (cl : Str → Addr) : Eqv := fun x y H => ∃ a b m, x = .ref a ∧ y = .ref b ∧ MoveAt cl H a m ∧ MoveAt cl H b m ∧ Good m
theorem mon_mv {cl : Str → Addr} : Mon (DMv cl) := fun x y H H' e ⟨a, b, m, h1, h2, h3, h4, h5⟩ => ⟨a, b, m, h1, h2, h3.mono e, h4.mono e, h5⟩
theorem eqG_mv {X : Cx} {cl : Str → Addr} {CM fs fe : Addr} {fd : FuncData} {ps : List Str} (F : FnOk X.prog X.w X.K X.mg X.base CX0 1 fe fd ps (spEq (ReqM cl))) (TC : ∀ wd ∈ W4, ClT X.K CM (cl wd) fs fe) (hf : PySem.W.isFn X.K (.ref fe) = true) (hb : Binds X.K fd ps []) :
    EqG X 1 (DMv cl) := by
  intro A pins s σ H x y u v sb I rx ry d
  obtain ⟨a, b, m, rfl, rfl, ⟨dx, ha⟩, ⟨dy, hb'⟩, hg⟩ := d
  exact eqG_ins (C := cl m.1) F (TC m.1 hg.1).eq hf hb (pass0 (X := X)) A pins s σ H _ _ u v sb I rx ry ⟨a, b, dx, dy, _, _, rfl, rfl, ha, hb', m, ⟨dx, ha⟩, ⟨dy, hb'⟩, hg⟩
/-! ### what the law keeps -/
/-- the entries: lists of texts -/
def EntAt (H : Hp) (v : V) (ms : List (Str × Str)) : Prop := ∃ e, v = V.ref e ∧ H e = some (.lst ((ms.map textM).map V.str))
def LinesM (H : Hp) (l : Addr) (plan : List (List (Str × Str))) : Prop := ∃ xs, H l = some (.lst xs) ∧ Paired (EntAt H) xs plan
def PassAt (cl : Str → Addr) (K : PySem.W.Frag) (H : Hp) (l : Addr) (plan : List (List (Str × Str))) : Prop := ∃ xs, H l = some (.lst xs) ∧ Paired (fun v ms => RowAt cl K H v (ms.map textM)) xs plan
theorem EntAt.mono {H H' : Hp} (e : Ext H H') {v : V} {ms : List (Str × Str)} (h : EntAt H v ms) : EntAt H' v ms := let ⟨a, h1, h2⟩ := h; ⟨a, h1, e _ _ h2⟩
theorem LinesM.mono {H H' : Hp} (e : Ext H H') {l : Addr} {plan : List (List (Str × Str))} (h : LinesM H l plan) : LinesM H' l plan := let ⟨xs, h1, h2⟩ := h; ⟨xs, e _ _ h1, Paired.imp (fun _ _ q => EntAt.mono e q) h2⟩
theorem TextOf.mono {cl : Str → Addr} {H H' : Hp} (e : Ext H H') {v : V} {z : Str} (h : TextOf cl H v z) : TextOf cl H' v z := by
  rcases h with h | ⟨a, m, h1, h2, h3⟩
  · exact .inl h
  · exact .inr ⟨a, m, h1, h2.mono e, h3⟩
theorem RowAt.mono {cl : Str → Addr} {K : PySem.W.Frag} {H H' : Hp} (e : Ext H H') {v : V} {ts : List Str} (h : RowAt cl K H v ts) : RowAt cl K H' v ts := by
  obtain ⟨xs, ⟨a, h1, h2⟩, h3⟩ := h
  refine ⟨xs, ⟨a, h1, ?_⟩, Paired.imp (fun _ _ q => TextOf.mono e q) h3⟩
  rcases h2 with h2 | h2
  · exact .inl (h2.ext e)
  · exact .inr (h2.ext e)
theorem PassAt.mono {cl : Str → Addr} {K : PySem.W.Frag} {H H' : Hp} (e : Ext H H') {l : Addr} {plan : List (List (Str × Str))} (h : PassAt cl K H l plan) : PassAt cl K H' l plan := let ⟨xs, h1, h2⟩ := h; ⟨xs, e _ _ h1, Paired.imp (fun _ _ q => RowAt.mono e q) h2⟩
theorem PenAt.ext {H H' : Hp} {p c : Addr} (e : Ext H H') (h : PenAt H p c) : PenAt H' p c := let ⟨kvs, ns, r, sd, ct, h1, h2, h3, h4⟩ := h; ⟨kvs, ns, r, sd, ct, e _ _ h1, h2, e _ _ h3, h4⟩
theorem PenAt.upd {H : Hp} {p c a : Addr} {o : HO} (h : PenAt H p c) (h1 : p ≠ a) (h2 : c ≠ a) : PenAt (L2.upd H a o) p c := let ⟨kvs, ns, r, sd, ct, q1, q2, q3, q4⟩ := h; ⟨kvs, ns, r, sd, ct, by rw [upd_ne h1]; exact q1, q2, by rw [upd_ne h2]; exact q3, q4⟩
theorem PenAt.ne {H : Hp} {p c a : Addr} (h : PenAt H p c) (ha : H a = none) : p ≠ a ∧ c ≠ a := let ⟨kvs, ns, r, sd, ct, q1, q2, q3, q4⟩ := h; ⟨ne_of_none q1 ha, ne_of_none q3 ha⟩
/-- a row of a list of moves -/
theorem row_moves {cl : Str → Addr} {K : PySem.W.Frag} {H : Hp} {a : Addr} {ms : List (Str × Str)} (h : MovesAt cl H a ms) (hg : ∀ m ∈ ms, Good m) : ∃ xs, H a = some (.lst xs) ∧ Paired (TextOf cl H) xs (ms.map textM) := by
  obtain ⟨xs, h1, h2⟩ := h
  refine ⟨xs, h1, ?_⟩
  clear h1
  induction h2 with
  | nil => exact .nil
  | cons r t ih =>
    obtain ⟨b, rfl, hb⟩ := r
    exact .cons (.inr ⟨b, _, rfl, hb, hg _ (by simp), rfl⟩) (ih fun m hm => hg m (List.mem_cons_of_mem _ hm))
theorem pair_map {α β γ : Type} {F : α → γ → Prop} {f : β → γ} : ∀ {l₁ : List α} {l₂ : List β}, Paired (fun a b => F a (f b)) l₁ l₂ → Paired F l₁ (l₂.map f)
  | _, _, .nil => .nil
  | _, _, .cons r t => .cons r (pair_map t)
/-- a plan of lists of moves, for show_plan -/
theorem rows_plan {cl : Str → Addr} {K : PySem.W.Frag} {H : Hp} {xs : List V} {plan : List (List (Str × Str))} (h : Paired (fun v ms => ∃ b, v = V.ref b ∧ MovesAt cl H b ms) xs plan) (hg : ∀ ms ∈ plan, ∀ m ∈ ms, Good m) : Paired (RowAt cl K H) xs (textsOf plan) := by
  refine pair_map (f := fun ms : List (Str × Str) => ms.map textM) ?_
  induction h with
  | nil => exact .nil
  | cons r t ih =>
    obtain ⟨b, rfl, hb⟩ := r
    obtain ⟨ys, h1, h2⟩ := row_moves (K := K) hb (hg _ (by simp))
    exact .cons ⟨ys, ⟨b, rfl, .inl (SqL.of h1)⟩, h2⟩ (ih fun ms hm => hg ms (List.mem_cons_of_mem _ hm))
theorem rows_lines {cl : Str → Addr} {K : PySem.W.Frag} {H : Hp} {xs : List V} {plan : List (List (Str × Str))} (h : Paired (EntAt H) xs plan) : Paired (RowAt cl K H) xs (textsOf plan) := by
  refine pair_map (f := fun ms : List (Str × Str) => ms.map textM) (Paired.imp (fun v ms ⟨e, h1, h2⟩ => ?_) h)
  refine ⟨_, ⟨e, h1, .inl (SqL.of h2)⟩, ?_⟩
  generalize ms.map textM = ts
  clear h2
  induction ts with
  | nil => exact .nil
  | cons z r ih => exact .cons (.inl rfl) ih
/-- two plans of lists of moves are equal by == -/
theorem eq_plans {cl : Str → Addr} {H : Hp} {a b : Addr} {plan : List (List (Str × Str))} (h1 : PlanAt cl H a plan) (h2 : PlanAt cl H b plan) (hg : ∀ ms ∈ plan, ∀ m ∈ ms, Good m) : DList (DList (DMv cl)) (.ref a) (.ref b) H := by
  obtain ⟨xs, ha, px⟩ := h1
  obtain ⟨ys, hb, py⟩ := h2
  refine ⟨a, b, xs, ys, rfl, rfl, ha, hb, by rw [Paired.len px, Paired.len py], fun i x y hx hy => ?_⟩
  obtain ⟨ms, hm, b1, rfl, xs1, g1, p1⟩ := Paired.at_ px hx
  obtain ⟨ms', hm', b2, rfl, ys1, g2, p2⟩ := Paired.at_ py hy
  rw [hm] at hm'
  cases hm'
  refine ⟨b1, b2, xs1, ys1, rfl, rfl, g1, g2, by rw [Paired.len p1, Paired.len p2], fun j u v hu hv => ?_⟩
  obtain ⟨m, km, c1, rfl, q1⟩ := Paired.at_ p1 hu
  obtain ⟨m', km', c2, rfl, q2⟩ := Paired.at_ p2 hv
  rw [km] at km'
  cases km'
  exact ⟨c1, c2, m, rfl, rfl, q1, q2, hg ms (List.mem_of_getElem? hm) m (List.mem_of_getElem? km)⟩
section
variable {P : Program} {w : World} {K : PySem.W.Frag} {mg : Str → Option Value} {base : Heap} {CM CL CA CS CF mw : Addr} {tL tN : Tok}
def spLaw (K : PySem.W.Frag) : Sp := fun vs H Q _ => ∃ (a : Addr) (ns : List Int), vs = [.ref a] ∧ SqL K H a (ns.map V.int) ∧ ns.length ≤ 63 ∧ ∀ H', Q (.bl true) H'
abbrev s_law : Stmt := top 30
abbrev N_law : List Str := ["_law_script", "_law_pen_here", "_law_lap", "_law_lines", "_law_at", "_law_entry", "_law_spot", "_law_word", "_law_moves", "_law_one", "_law_passed", "_law_some", "_law_due", "_law_back"]
theorem sc_law : FnScope N_law ["_law_script"] (defScope s_law) := ⟨rfl, rfl, rfl, by decide +kernel, rfl, by decide +kernel, by decide +kernel⟩
theorem ok_law {f fs fe : Addr} {fd fdE : FuncData} (F : Fun K "law" "law" s_law f fd) (T : Tx K mg CM CL CA CS CF mw tL tN) (TC : ∀ wd ∈ W4, ClT K CM (clsOf CL CA CS CF wd) fs fe)
    (c_eq : FnOk P w K mg base CX0 1 fe fdE ["self", "other"] (spEq (ReqM (clsOf CL CA CS CF)))) (hfe : PySem.W.isFn K (.ref fe) = true) (beq : Binds K fdE ["self", "other"] [])
    (c__law_pen : Cal P w K mg base CX0 1 "_law_pen" (spPen K)) (c__law_draw : Cal P w K mg base CX0 1 "_law_draw" spDraw) (c__law_pick : Cal P w K mg base CX0 2 "_law_pick" (spPick K))
    (c_Move_read : Clm P w K mg base CX0 6 CM "read" (spRead (clsOf CL CA CS CF))) (c_show_plan : Cal P w K mg base CX0 4 "show_plan" (spShow (clsOf CL CA CS CF) K)) (c_show_plan_kw : CalK P w K mg base CX0 4 "show_plan" "plan" (spShow (clsOf CL CA CS CF) K))
    (c_read_plan : Cal P w K mg base CX0 8 "read_plan" (spRP (clsOf CL CA CS CF))) (c_read_plan_kw : CalK P w K mg base CX0 8 "read_plan" "text" (spRP (clsOf CL CA CS CF))) :
    FnOk P w K mg base CX0 9 f fd ["_law_script"] (spLaw K) := by
  refine F.ok sc_law (fun vs H Q E h => ?_) (fun cdv A outer s H vs Q E hr h => ?_)
  · obtain ⟨a, ns, rfl, _⟩ := h
    rfl
  · obtain ⟨a, ns, rfl, ha, hn, k⟩ := h
    refine ⟨_, (pss_cons (ps_set (i := 1) sc_law.nd rfl (by first | exact Or.inl rfl | exact Or.inr rfl) (pe_cal c__law_pen (hr.mono (by decide)) (by rfl) pass0 (pa_cons (pv 0) pa_nil)))
      (pss_cons (ps_for PassesOwn.never rfl (pi_range1 rfl (T.bn _ (by decide +kernel)) (pa_cons pe_int pa_nil)) (pg_name (i := 2) sc_law.nd rfl (by first | exact Or.inl rfl | exact Or.inr rfl))
      (pss_cons (ps_set (i := 3) sc_law.nd rfl (by first | exact Or.inl rfl | exact Or.inr rfl) (pe_lst pa_nil))
      (pss_cut (ps_for PassesOwn.never rfl (pi_range1 rfl (T.bn _ (by decide +kernel)) (pa_cons (pe_op op_add pe_int (pe_cal c__law_draw (hr.mono (by decide)) (by rfl) pass0 (pa_cons (pv 1) (pa_cons pe_int pa_nil)))) pa_nil)) (pg_name (i := 4) sc_law.nd rfl (by first | exact Or.inl rfl | exact Or.inr rfl))
      (pss_cons (ps_set (i := 5) sc_law.nd rfl (by first | exact Or.inl rfl | exact Or.inr rfl) (pe_lst pa_nil))
      (pss_cons (ps_for PassesOwn.never rfl (pi_range1 rfl (T.bn _ (by decide +kernel)) (pa_cons (pe_cal c__law_draw (hr.mono (by decide)) (by rfl) pass0 (pa_cons (pv 1) (pa_cons pe_int pa_nil))) pa_nil)) (pg_name (i := 6) sc_law.nd rfl (by first | exact Or.inl rfl | exact Or.inr rfl))
      (pss_cons (ps_set (i := 7) sc_law.nd rfl (by first | exact Or.inl rfl | exact Or.inr rfl) (pe_cal c__law_pick (hr.mono (by decide)) (by rfl) pass0 (pa_cons (pv 1) (pa_cons (pe_lst (pa_cons pe_str (pa_cons pe_str (pa_cons pe_str (pa_cons pe_str pa_nil))))) pa_nil))))
      (pss_one (ps_expr (pe_bm PySem.F.plainAttrs_list PySem.F.slot_list_append PySem.F.type_list_append mt_append (pv 5) (pa_cons (pe_op op_add_str (pe_op op_add_str (pv 7) pe_str) (pe_cal c__law_pick (hr.mono (by decide)) (by rfl) pass0 (pa_cons (pv 1) (pa_cons (pe_lst (pa_cons pe_str (pa_cons pe_str (pa_cons pe_str (pa_cons pe_str (pa_cons pe_str (pa_cons pe_str pa_nil))))))) pa_nil)))) pa_nil))))))
      (pss_one (ps_expr (pe_bm PySem.F.plainAttrs_list PySem.F.slot_list_append PySem.F.type_list_append mt_append (pv 3) (pa_cons (pv 5) pa_nil)))))))
      (pss_cut (ps_setLc (i := 8) (own := [("_law_entry", 5)]) rfl sc_law.nd rfl rfl (sw_true rfl rfl rfl (by decide +kernel)) (pi_list (pv 3)) (blkOk_by (own := [("_law_entry", 5)]) (N := N_law) (sc := defScope s_law) (by decide +kernel)) (fun _ _ _ _ _ => (pg_name (i := 5) sc_law.nd rfl (by first | exact Or.inl rfl | exact Or.inr rfl))) (fun _ _ _ _ _ => pts_nil) (fun _ _ _ _ _ => (pe_lc (own := [("_law_one", 9)]) rfl sc_law.nd (pi_listK (K := K) rfl (pv 5)) (blkOk_by (own := [("_law_one", 9)]) (N := N_law) (sc := relS _ (defScope s_law)) (by decide +kernel)) (fun _ _ _ _ _ => (pg_name (i := 9) sc_law.nd rfl (by first | exact Or.inl rfl | exact Or.inr rfl))) (fun _ _ _ _ _ => pts_nil) (fun _ _ _ _ _ => (pe_clm c_Move_read (hr.mono (by decide)) (pe_gref (by rfl) T.m_Move) pass0 (pa_cons (pv 9) pa_nil))))))
      (pss_cut (ps_setLc (i := 10) (own := [("_law_some", 11)]) rfl sc_law.nd rfl rfl (sw_true rfl rfl rfl (by decide +kernel)) (pi_list (pv 8)) (blkOk_by (own := [("_law_some", 11)]) (N := N_law) (sc := defScope s_law) (by decide +kernel)) (fun _ _ _ _ _ => (pg_name (i := 11) sc_law.nd rfl (by first | exact Or.inl rfl | exact Or.inr rfl))) (fun _ _ _ _ _ => pts_nil) (fun _ _ _ _ _ => (pe_ifExp (pt_cmpR op_eq (pe_cal c__law_draw (hr.mono (by decide)) (by rfl) pass0 (pa_cons (pv 1) (pa_cons pe_int pa_nil))) pe_int (nomark _)) (pe_callTy (call_tupK (K := K) rfl) (by rfl) (T.bn _ (by decide +kernel)) (by decide +kernel) (pa_cons (pv 11) pa_nil)) (pv 11))))
      (pss_cut (ps_set (i := 12) sc_law.nd rfl (by first | exact Or.inl rfl | exact Or.inr rfl) (pe_join pe_str (pe_lc (own := [("_law_entry", 5)]) rfl sc_law.nd (pi_list (pv 3)) (blkOk_by (own := [("_law_entry", 5)]) (N := N_law) (sc := defScope s_law) (by decide +kernel)) (fun _ _ _ _ _ => (pg_name (i := 5) sc_law.nd rfl (by first | exact Or.inl rfl | exact Or.inr rfl))) (fun _ _ _ _ _ => pts_nil) (fun _ _ _ _ _ => (pe_ifExp (pt_cmpR (op_neNil hr) (pv 5) (pe_lst pa_nil) (nomark _)) (pe_joinK (K := K) rfl pe_str (pv 5)) pe_str)))))
      (pss_cut (ps_if ((pw_or (pt_cmpR op_ne (pe_cal c_show_plan (hr.mono (by decide)) (by rfl) pass0 (pa_cons (pv 10) pa_nil)) (pv 12) (nomark _)) (pw_or (pt_cmpR op_ne (pe_calk c_show_plan_kw (hr.mono (by decide)) (by rfl) pass0 (pk_cons (pe_callTy call_tuple_of (by rfl) (T.bn _ (by decide +kernel)) (by decide +kernel) (pa_cons (pv 8) pa_nil)) pk_nil)) (pv 12) (nomark _)) (pw_or1 (pt_cmpR op_ne (pe_cal c_show_plan (hr.mono (by decide)) (by rfl) pass0 (pa_cons (pv 3) pa_nil)) (pv 12) (nomark _)))))).pt (pss_one (ps_ret pe_bl)) pss_nil)
      (pss_cons (ps_set (i := 13) sc_law.nd rfl (by first | exact Or.inl rfl | exact Or.inr rfl) (pe_cal c_read_plan (hr.mono (by decide)) (by rfl) pass0 (pa_cons (pv 12) pa_nil)))
      (pss_cut (ps_if ((pw_or (pt_not (pt_val (pe_callB call_isi (by rfl) (T.bn _ (by decide +kernel)) (by decide +kernel) (pa_cons (pv 13) (pa_cons (pe_gty (T := "list") (by rfl) (T.bn _ (by decide +kernel)) (by decide +kernel)) pa_nil))))) (pw_or1 (pt_cmpR (op_neNil hr) (pe_lc (own := [("_law_some", 11)]) rfl sc_law.nd (pi_list (pv 13)) (blkOk_by (own := [("_law_some", 11)]) (N := N_law) (sc := defScope s_law) (by decide +kernel)) (fun _ _ _ _ _ => (pg_name (i := 11) sc_law.nd rfl (by first | exact Or.inl rfl | exact Or.inr rfl))) (fun _ _ _ _ _ => pts_one (pt_not (pt_val (pe_callB (call_isiB (K := K) rfl) (by rfl) (T.bn _ (by decide +kernel)) (by decide +kernel) (pa_cons (pv 11) (pa_cons (pe_gty (T := "list") (by rfl) (T.bn _ (by decide +kernel)) (by decide +kernel)) pa_nil)))))) (fun _ _ _ _ _ => (pv 11))) (pe_lst pa_nil) (nomark _))))).pt (pss_one (ps_ret pe_bl)) pss_nil)
      (pss_one (ps_if ((pw_or (pt_cmpR (op_neG (mon_list mon_mv) (eqG_list mon_mv (eqG_mv c_eq TC hfe beq)) (hr.mono (by decide))) (pv 13) (pv 8) (nomark _)) (pw_or (pt_cmpR (op_neG (mon_list mon_mv) (eqG_list mon_mv (eqG_mv c_eq TC hfe beq)) (hr.mono (by decide))) (pe_calk c_read_plan_kw (hr.mono (by decide)) (by rfl) pass0 (pk_cons (pv 12) pk_nil)) (pv 8) (nomark _)) (pw_or1 (pt_cmpR op_ne (pe_cal c_show_plan (hr.mono (by decide)) (by rfl) pass0 (pa_cons (pv 13) pa_nil)) (pv 12) (nomark _)))))).pt (pss_one (ps_ret pe_bl)) pss_nil)))))))))))
      (pss_one (ps_ret (pe_and (pe_cmpR op_eq (pe_cal c_show_plan (hr.mono (by decide)) (by rfl) pass0 (pa_cons (pe_lst (pa_cons (pe_lst pa_nil) pa_nil)) pa_nil)) pe_str (nomark _)) (pe_one (pe_cmpR (op_eqG (rcG_list (mon_list mon_flat) (eqG_list mon_flat eqG_flat)) (hr.mono (by decide))) (pe_cal c_read_plan (hr.mono (by decide)) (by rfl) pass0 (pa_cons pe_str pa_nil)) (pe_lst (pa_cons (pe_lst pa_nil) pa_nil)) (nomark _)))))))), ?_⟩
    refine ⟨_, rfl, a, ns, rfl, ha, by omega, fun p c H1 hpen => ?_⟩
    refine ⟨8, rfl, by decide, by decide, for_range (n := 8) (fun i σ H' => ∃ x2 x3 x4 x5 x6 x7 x8 x10 x12 x13, σ = [some (.ref a), some (.ref p), x2, x3, x4, x5, x6, x7, x8, none, x10, none, x12, x13] ∧ PenAt H' p c) ⟨_, _, _, _, _, _, _, _, _, _, rfl, hpen⟩ ?_ ?_⟩
    · rintro i σ H2 hi ⟨x2, x3, x4, x5, x6, x7, x8, x10, x12, x13, rfl, hpen2⟩
      refine ⟨(by show 0 ≤ sizeLine; decide), fun L hL => ?_⟩
      obtain ⟨npL, ncL⟩ := hpen2.ne hL
      have hLp : L ∉ [p, c] := by simp [npL.symm, ncL.symm]
      -- the entries
      refine ⟨fun σ H' => ∃ x2 x4 x5 x6 x7 x8 x10 x12 x13 plan, σ = [some (.ref a), some (.ref p), x2, some (.ref L), x4, x5, x6, x7, x8, none, x10, none, x12, x13] ∧ PenAt H' p c ∧ plan ≠ [] ∧ PlanOk plan ∧ LinesM (hid [p, c] H') L plan, ?_, ?_⟩
      · refine ⟨_, rfl, p, c, 8, rfl, hpen2.upd npL ncL, by decide, by decide, fun j H3 j0 j1 hpen3 kp3 => ⟨_, _, rfl, rfl, ?_⟩⟩
        refine ⟨_, rfl, by omega, by omega, for_range (n := (1 + j).toNat) (fun n σ H' => ∃ x2 x4 x5 x6 x7 x8 x10 x12 x13 plan xs, σ = [some (.ref a), some (.ref p), x2, some (.ref L), x4, x5, x6, x7, x8, none, x10, none, x12, x13] ∧ PenAt H' p c ∧ plan.length = n ∧ (∀ ms ∈ plan, ms.length ≤ 20) ∧ (∀ ms ∈ plan, ∀ m ∈ ms, Good m) ∧ H' L = some (.lst xs) ∧ Paired (EntAt (hid [L, p, c] H')) xs plan)
          ⟨_, _, _, _, _, _, _, _, _, [], [], rfl, hpen3, rfl, by simp, by simp, kp3 L _ upd_same npL.symm ncL.symm, .nil⟩ ?_ ?_⟩
        · rintro n σ H4 hn4 ⟨x2, x4, x5, x6, x7, x8, x10, x12, x13, plan, xs, rfl, hpen4, hpl, hp20, hpg, hL4, hP4⟩
          refine ⟨(by show 0 ≤ sizeLine; decide), fun En hEn => ?_⟩
          obtain ⟨npE, ncE⟩ := hpen4.ne hEn
          have nLE : L ≠ En := ne_of_none hL4 hEn
          refine ⟨_, rfl, p, c, 5, rfl, hpen4.upd npE ncE, by decide, by decide, fun j5 H5 j50 j51 hpen5 kp5 => ?_⟩
          refine ⟨_, rfl, by omega, by omega, for_range (n := j5.toNat) (fun q σ H' => ∃ x2 x4 x6 x7 x8 x10 x12 x13 ms, σ = [some (.ref a), some (.ref p), x2, some (.ref L), x4, some (.ref En), x6, x7, x8, none, x10, none, x12, x13] ∧ PenAt H' p c ∧ ms.length = q ∧ (∀ m ∈ ms, Good m) ∧ H' En = some (.lst ((ms.map textM).map V.str)) ∧ H' L = some (.lst xs) ∧ Paired (EntAt (hid [En, L, p, c] H')) xs plan)
            ⟨_, _, _, _, _, _, _, _, [], rfl, hpen5, rfl, by simp, kp5 En _ upd_same npE.symm ncE.symm, kp5 L _ (by rw [upd_ne nLE]; exact hL4) npL.symm ncL.symm, Paired.imp (fun v ms h => h.mono (((hid_cons hEn).trans (hid_upd_new hEn)).trans (hid_keepS kp5 (by simp) (by simp)))) hP4⟩ ?_ ?_⟩
          · rintro q σ H6 hq ⟨x2, x4, x6, x7, x8, x10, x12, x13, ms, rfl, hpen6, hml, hmg, hE6, hL6, hP6⟩
            -- word = pick(..)
            refine ⟨_, rfl, (by show 4 ≤ sizeLine; decide), fun l hl => ?_⟩
            obtain ⟨npl, ncl⟩ := hpen6.ne hl
            refine ⟨p, c, l, _, rfl, hpen6.upd npl ncl, npl.symm, ncl.symm, upd_same, by decide, by decide, fun x H7 hx hpen7 kp7 => ?_⟩
            obtain ⟨wd, hwd, rfl⟩ : ∃ wd ∈ W4, x = V.str wd := by
              simp only [List.mem_cons, List.not_mem_nil, or_false] at hx
              rcases hx with rfl | rfl | rfl | rfl
              · exact ⟨"load", by decide +kernel, rfl⟩
              · exact ⟨"again", by decide +kernel, rfl⟩
              · exact ⟨"store", by decide +kernel, rfl⟩
              · exact ⟨"forget", by decide +kernel, rfl⟩
            have hE7 : H7 En = some (.lst ((ms.map textM).map V.str)) := kp7 En _ (by rw [upd_ne (ne_of_none hE6 hl)]; exact hE6) npE.symm ncE.symm
            have hL7 : H7 L = some (.lst xs) := kp7 L _ (by rw [upd_ne (ne_of_none hL6 hl)]; exact hL6) npL.symm ncL.symm
            have hP7 : Paired (EntAt (hid [En, L, p, c] H7)) xs plan := Paired.imp (fun v ms h => h.mono ((hid_upd_new hl).trans (hid_keepS kp7 (by simp) (by simp)))) hP6
            -- entry.append(word + ' ' + pick(..))
            have hwl := (name_len (w4_name hwd)).2
            have h4 : sizeLine = 16777216 := sizeLine_eq
            have hsp : (" " : Str).length = 1 := by decide +kernel
            refine ⟨_, rfl, .inl ⟨rfl, _, SqL.of hE7⟩, _, rfl, _, _, rfl, rfl, by omega, ?_⟩
            refine ⟨_, rfl, (by show 6 ≤ sizeLine; decide), fun l2 hl2 => ?_⟩
            obtain ⟨npl2, ncl2⟩ := hpen7.ne hl2
            refine ⟨p, c, l2, _, rfl, hpen7.upd npl2 ncl2, npl2.symm, ncl2.symm, upd_same, by decide, by decide, fun y H8 hy hpen8 kp8 => ?_⟩
            obtain ⟨nm, hnm, rfl⟩ : ∃ nm, isName nm = true ∧ y = V.str nm := by
              simp only [List.mem_cons, List.not_mem_nil, or_false] at hy
              rcases hy with rfl | rfl | rfl | rfl | rfl | rfl
              all_goals exact ⟨_, by decide +kernel, rfl⟩
            have hnl := (name_len hnm).2
            have hE8 : H8 En = some (.lst ((ms.map textM).map V.str)) := kp8 En _ (by rw [upd_ne (ne_of_none hE7 hl2)]; exact hE7) npE.symm ncE.symm
            have hL8 : H8 L = some (.lst xs) := kp8 L _ (by rw [upd_ne (ne_of_none hL7 hl2)]; exact hL7) npL.symm ncL.symm
            have hP8 : Paired (EntAt (hid [En, L, p, c] H8)) xs plan := Paired.imp (fun v ms h => h.mono ((hid_upd_new hl2).trans (hid_keepS kp8 (by simp) (by simp)))) hP7
            refine ⟨_, _, rfl, rfl, ?_, En, _, _, rfl, rfl, hE8, ?_, ?_⟩
            · rw [Str.length_append]
              omega
            · rw [List.length_map, List.length_map]
              exact small1000 (by omega)
            refine ⟨_, _, _, _, _, _, _, _, ms ++ [(wd, nm)], rfl, hpen8.upd npE ncE, by simp [hml], ?_, ?_, by rw [upd_ne nLE]; exact hL8, ?_⟩
            · intro m hm
              rcases List.mem_append.mp hm with hm | hm
              · exact hmg m hm
              · rw [List.mem_singleton.mp hm]
                exact ⟨hwd, hnm⟩
            · rw [upd_same, List.map_append, List.map_append]
              rfl
            · rw [hid_upd (by simp)]
              exact hP8
          · rintro σ H6 ⟨x2, x4, x6, x7, x8, x10, x12, x13, ms, rfl, hpen6, hml, hmg, hE6, hL6, hP6⟩
            have hxl := Paired.len hP6
            refine ⟨_, rfl, .inl ⟨rfl, _, SqL.of hL6⟩, _, rfl, L, xs, _, rfl, rfl, hL6, ?_, ?_⟩
            · exact small1000 (by omega)
            refine ⟨_, _, _, _, _, _, _, _, _, plan ++ [ms], xs ++ [.ref En], rfl, hpen6.upd npL ncL, by simp [hpl], ?_, ?_, upd_same, ?_⟩
            · intro z hz
              rcases List.mem_append.mp hz with hz | hz
              · exact hp20 z hz
              · rw [List.mem_singleton.mp hz]
                omega
            · intro z hz
              rcases List.mem_append.mp hz with hz | hz
              · exact hpg z hz
              · rw [List.mem_singleton.mp hz]
                exact hmg
            · rw [hid_upd (by simp)]
              refine Paired.snoc (Paired.imp (fun v ms h => h.mono (hid_less (by intro b hb; exact List.mem_cons_of_mem _ hb))) hP6) ⟨En, rfl, ?_⟩
              rw [hid_at (by simp [nLE.symm, npE.symm, ncE.symm])]
              exact hE6
        · rintro σ H4 ⟨x2, x4, x5, x6, x7, x8, x10, x12, x13, plan, xs, rfl, hpen4, hpl, hp20, hpg, hL4, hP4⟩
          refine ⟨_, _, _, _, _, _, _, _, _, plan, rfl, hpen4, ?_, ⟨by omega, hp20, hpg⟩, xs, by rw [hid_at hLp]; exact hL4, Paired.imp (fun v ms h => h.mono (hid_less (by intro b hb; exact List.mem_cons_of_mem _ hb))) hP4⟩
          intro e
          rw [e] at hpl
          have : (1 + j).toNat = 0 := by rw [← hpl]; rfl
          omega
      · rintro σ H3 ⟨x2, x4, x5, x6_, x7, x8, x10, x12, x13, plan, rfl, hpen3, hne, hok, hlines3⟩
        obtain ⟨xs, hL3, hP3⟩ := id hlines3
        have hxl := Paired.len hP3
        have h20 := hok.1
        have hL3' : H3 L = some (.lst xs) := hid_ext _ _ hL3
        -- moves
        refine ⟨fun σ H' => ∃ MV, σ = [some (.ref a), some (.ref p), x2, some (.ref L), x4, x5, x6_, x7, some (.ref MV), none, x10, none, x12, x13] ∧ PenAt H' p c ∧ LinesM (hid [p, c] H') L plan ∧ PlanAt (clsOf CL CA CS CF) (hid [p, c] H') MV plan, ?_, ?_⟩
        · refine ⟨_, rfl, L, rfl, ⟨_, SqL.of hL3'⟩, fun D hD => ?_⟩
          refine lc_map (walk_list (xs := xs)) [D] (by simp) (fun Hx => Ext H3 Hx) (fun j y Hx => ∃ ms b, plan[j]? = some ms ∧ y = V.ref b ∧ MovesAt (clsOf CL CA CS CF) (nw H3 Hx) b ms) (by omega)
            (fun j y H1 H2 e ⟨ms, b, h1, h2, h3⟩ => ⟨ms, b, h1, h2, h3.mono (nw_more e)⟩) (fun H' o hh b o' q => by rw [upd_ne (ne_of_none q hD)]; exact hh b o' q) (Ext.upd hD) (fun H' _ hh => SqL.of (hh _ _ hL3')) ?_ ?_
          · rintro j x _ H4 acc C hj e hh hD4 ⟨rfl, hx⟩ hC
            obtain ⟨ms, hms, en, rfl, hen⟩ := Paired.at_ hP3 hx
            have hmem := List.mem_of_getElem? hms
            have hen4 : H4 en = some (.lst ((ms.map textM).map V.str)) := hh _ _ (hid_ext _ _ hen)
            have hm20 := hok.2.1 ms hmem
            refine ⟨rfl, _, rfl, en, rfl, ⟨_, SqL.of hen4⟩, fun D2 hD2 => ?_⟩
            have nDD : D ≠ D2 := ne_of_none hD4 hD2
            refine lc_map (walk_list (xs := (ms.map textM).map V.str)) [D2] (by simp) (fun Hx => Ext H4 Hx) (fun k y Hx => ∃ m b, ms[k]? = some m ∧ y = V.ref b ∧ MoveAt (clsOf CL CA CS CF) (nw H4 Hx) b m) (by rw [List.length_map, List.length_map]; omega)
              (fun j y H1 H2 e ⟨m, b, h1, h2, h3⟩ => ⟨m, b, h1, h2, h3.mono (nw_more e)⟩) (fun H' o hh b o' q => by rw [upd_ne (ne_of_none q hD2)]; exact hh b o' q) (Ext.upd hD2) (fun H' _ hh => SqL.of (hh _ _ hen4)) ?_ ?_
            · rintro k x _ H5 acc2 C2 hk e5 hh5 hD5 ⟨rfl, hx5⟩ hC2
              rw [List.getElem?_map, List.getElem?_map] at hx5
              cases q : ms[k]? with
              | none => rw [q] at hx5; cases hx5
              | some m =>
                rw [q] at hx5
                have : x = .str (textM m) := (Option.some.inj hx5).symm
                subst this
                refine ⟨rfl, rfl, _, rfl, _, m, rfl, hok.2.2 ms hmem m (List.mem_of_getElem? q), fun b H6 e6 hb => ?_⟩
                refine hC2 _ _ (e6 _ _ hD5) (hid_mono e6) (hh5.trans e6) ⟨m, b, q, rfl, hb.mono (nw_hid2 hh5 ?_)⟩
                intro b' hb' z
                rw [List.mem_singleton.mp hb', hD5] at z
                cases z
            · intro H5 ys e5 hh5 hD5 hl5 hy5
              rw [List.length_map, List.length_map] at hl5
              refine hC _ _ (hh5 _ _ hD4) (hid_mono hh5) (hh.trans hh5) ⟨ms, D2, hms, rfl, ys, ?_, Paired.of_get hl5 fun i v m g1 g2 => ?_⟩
              · rw [nw_at (Ext.free hh hD2), hid_at (by simpa using nDD.symm)]
                exact hD5
              · obtain ⟨m', b, k1, k2, k3⟩ := hy5 i v g1
                rw [k1] at g2
                cases g2
                refine ⟨b, k2, (k3.mono (nw_more hid_ext)).mono (nw_hid2 hh ?_)⟩
                intro b' hb' z
                rw [List.mem_singleton.mp hb', hD4] at z
                cases z
          · intro H4 ys e hh hD4 hl4 hy4
            have hpc : ∀ b ∈ [p, c], H3 b ≠ none := by
              obtain ⟨kvs, ns', r, sd, ct, q1, q2, q3, q4⟩ := hpen3
              intro b hb z
              simp only [List.mem_cons, List.not_mem_nil, or_false] at hb
              rcases hb with rfl | rfl
              · rw [q1] at z; cases z
              · rw [q3] at z; cases z
            obtain ⟨npD, ncD⟩ := hpen3.ne hD
            refine ⟨D, rfl, hpen3.ext hh, hlines3.mono (hid_mono hh), ys, by rw [hid_at (by simp [npD.symm, ncD.symm])]; exact hD4, Paired.of_get (by omega) fun i v ms g1 g2 => ?_⟩
            obtain ⟨ms', b, k1, k2, k3⟩ := hy4 i v g1
            rw [k1] at g2
            cases g2
            exact ⟨b, k2, (k3.mono (nw_more hid_ext)).mono (nw_hid hpc)⟩
        rintro σ H4 ⟨MV, rfl, hpen4, hlines4, hplan4⟩
        clear hlines3 hL3 hP3 hL3' hxl
        obtain ⟨ws, hM4, hPM4⟩ := id hplan4
        have hwl := Paired.len hPM4
        have hM4' : H4 MV = some (.lst ws) := hid_ext _ _ hM4
        -- passed
        refine ⟨fun σ H' => ∃ PS, σ = [some (.ref a), some (.ref p), x2, some (.ref L), x4, x5, x6_, x7, some (.ref MV), none, some (.ref PS), none, x12, x13] ∧ PenAt H' p c ∧ LinesM (hid [p, c] H') L plan ∧ PlanAt (clsOf CL CA CS CF) (hid [p, c] H') MV plan ∧ PassAt (clsOf CL CA CS CF) K (hid [p, c] H') PS plan, ?_, ?_⟩
        · refine ⟨_, rfl, MV, rfl, ⟨_, SqL.of hM4'⟩, fun D hD => ?_⟩
          obtain ⟨npD, ncD⟩ := hpen4.ne hD
          have hMs : hid [D, p, c] H4 MV = some (.lst ws) := hid_cons hD _ _ hM4
          refine lc_map (walk_list (xs := ws)) [D, p, c] (by simp) (fun Hx => PenAt Hx p c) (fun j y Hx => ∃ ms, plan[j]? = some ms ∧ RowAt (clsOf CL CA CS CF) K Hx y (ms.map textM)) (by omega)
            (fun j y H1 H2 e ⟨ms, h1, h2⟩ => ⟨ms, h1, h2.mono e⟩) (fun H' o hh => hh.upd npD ncD) (hpen4.upd npD ncD) (fun H' e _ => SqL.of (hid_ext _ _ (e _ _ hMs))) ?_ ?_
          · rintro j x _ H5 acc C hj e hh hD5 ⟨rfl, hx⟩ hC
            obtain ⟨ms, hms, b, rfl, hb⟩ := Paired.at_ hPM4 hx
            have hmg := hok.2.2 ms (List.mem_of_getElem? hms)
            have hb5 : MovesAt (clsOf CL CA CS CF) (hid [D, p, c] H5) b ms := (hb.mono (hid_cons hD)).mono e
            refine ⟨rfl, _, rfl, p, c, 2, rfl, hh, by decide, by decide, fun j6 H6 _ _ hpen6 kp6 => ⟨rfl, _, rfl, ?_⟩⟩
            have e6 : Ext (hid [D, p, c] H5) (hid [D, p, c] H6) := hid_keepS kp6 (by simp) (by simp)
            have hD6 : H6 D = some (.lst acc) := kp6 D _ hD5 npD.symm ncD.symm
            obtain ⟨zs, hz, hpz⟩ := row_moves (K := K) (hb5.mono e6) hmg
            refine ite2 (fun _ => ?_) (fun _ => ?_)
            · refine ⟨_, rfl, b, zs, rfl, .inl ⟨SqL.of (hid_ext _ _ hz), fun t ht => ?_⟩⟩
              have nDt : D ≠ t := ne_of_none hD6 ht
              obtain ⟨npt, nct⟩ := hpen6.ne ht
              refine hC _ _ (by rw [upd_ne nDt]; exact hD6) (e6.trans (hid_upd_new ht)) (hpen6.upd npt nct) ⟨ms, hms, zs, ⟨t, rfl, .inr (SqT.of ?_)⟩, Paired.imp (fun _ _ q => TextOf.mono (hid_upd_new ht) q) hpz⟩
              rw [hid_at (by simp [nDt.symm, npt.symm, nct.symm])]
              exact upd_same
            · exact ⟨_, rfl, hC _ _ hD6 e6 hpen6 ⟨ms, hms, zs, ⟨b, rfl, .inl (SqL.of hz)⟩, hpz⟩⟩
          · intro H5 ys e hh hD5 hl5 hy5
            have hle : Ext (hid [p, c] H4) (hid [p, c] H5) := ((hid_cons hD).trans e).trans (hid_less (by intro b hb; exact List.mem_cons_of_mem _ hb))
            refine ⟨D, rfl, hh, hlines4.mono hle, hplan4.mono hle, ys, by rw [hid_at (by simp [npD.symm, ncD.symm])]; exact hD5, Paired.of_get (by omega) fun i v ms g1 g2 => ?_⟩
            obtain ⟨ms', k1, k2⟩ := hy5 i v g1
            rw [k1] at g2
            cases g2
            exact k2.mono (hid_less (by intro b hb; exact List.mem_cons_of_mem _ hb))
        rintro σ H5 ⟨PS, rfl, hpen5, hlines5, hplan5, hpass5⟩
        clear hlines4 hplan4 hM4 hPM4 hM4' hwl
        obtain ⟨xs5, hL5, hP5⟩ := id hlines5
        have hxl5 := Paired.len hP5
        have hL5' : H5 L = some (.lst xs5) := hid_ext _ _ hL5
        have h4 : sizeLine = 16777216 := sizeLine_eq
        have hsmall := hok.small
        -- due
        refine ⟨fun σ H' => σ = [some (.ref a), some (.ref p), x2, some (.ref L), x4, x5, x6_, x7, some (.ref MV), none, some (.ref PS), none, some (.str (planT (textsOf plan))), x13] ∧ PenAt H' p c ∧ LinesM (hid [p, c] H') L plan ∧ PlanAt (clsOf CL CA CS CF) (hid [p, c] H') MV plan ∧ PassAt (clsOf CL CA CS CF) K (hid [p, c] H') PS plan, ?_, ?_⟩
        · refine ⟨⟨_, rfl⟩, _, rfl, L, rfl, ⟨_, SqL.of hL5'⟩, fun D hD => ?_⟩
          refine lc_map (walk_list (xs := xs5)) [D] (by simp) (fun Hx => Ext H5 Hx) (fun j y _ => ∃ z, (plan.map fun ms => rowT (ms.map textM))[j]? = some z ∧ y = V.str z) (by omega)
            (fun _ _ _ _ _ h => h) (fun H' o hh b o' q => by rw [upd_ne (ne_of_none q hD)]; exact hh b o' q) (Ext.upd hD) (fun H' _ hh => SqL.of (hh _ _ hL5')) ?_ ?_
          · rintro j x _ H6 acc C hj e hh hD6 ⟨rfl, hx⟩ hC
            obtain ⟨ms, hms, en, rfl, hen⟩ := Paired.at_ hP5 hx
            have hmem := List.mem_of_getElem? hms
            have hrs := hsmall.2 (ms.map textM) (List.mem_map_of_mem hmem)
            have hen6 : H6 en = some (.lst ((ms.map textM).map V.str)) := hh _ _ (hid_ext _ _ hen)
            refine ⟨rfl, _, rfl, (by show 0 ≤ sizeLine; decide), fun e2 he2 => ?_⟩
            have hen7 : (upd H6 e2 (.lst [])) en = some (.lst ((ms.map textM).map V.str)) := by rw [upd_ne (ne_of_none hen6 he2)]; exact hen6
            refine ⟨en, e2, _, rfl, rfl, hen7, upd_same, _, rfl, ?_⟩
            have hz : (plan.map fun ms => rowT (ms.map textM))[j]? = some (rowT (ms.map textM)) := by rw [List.getElem?_map, hms]; rfl
            have fin : C (.str (rowT (ms.map textM))) (upd H6 e2 (.lst [])) := hC _ _ (by rw [upd_ne (ne_of_none hD6 he2)]; exact hD6) (hid_upd_new he2) (hh.trans (Ext.upd he2)) ⟨_, hz, rfl⟩
            cases ms with
            | nil =>
              refine iteF ?_
              exact fin
            | cons m0 r0 =>
              refine iteT ?_
              refine ⟨⟨_, rfl⟩, _, rfl, _, en, (m0 :: r0).map textM, rfl, rfl, .inl (SqL.of hen7), ?_, fin⟩
              have h1 := sum_le (B := 20) hrs.2
              have h2 : (", " : Str).length = 2 := by decide +kernel
              have h3 := hrs.1
              rw [h2]
              omega
          · intro H6 ys e hh hD6 hl6 hy6
            have hys : ys = (plan.map fun ms => rowT (ms.map textM)).map V.str := list_of_get (by rw [List.length_map]; omega) hy6
            subst hys
            have eT : Txt.join "\n" (plan.map fun ms => rowT (ms.map textM)) = planT (textsOf plan) := by
              unfold planT textsOf
              rw [List.map_map]
              rfl
            refine ⟨_, D, plan.map fun ms => rowT (ms.map textM), rfl, rfl, .inl (SqL.of hD6), ?_, ?_⟩
            · have h1 := sum_le (B := 440) (l := plan.map fun ms => rowT (ms.map textM)) (fun z hz => by
                obtain ⟨ms, hm, rfl⟩ := List.mem_map.mp hz
                exact row_len (hsmall.2 _ (List.mem_map_of_mem hm)))
              have h2 : ("\n" : Str).length = 1 := by decide +kernel
              rw [h2]
              rw [List.length_map] at h1 ⊢
              omega
            · rw [eT]
              exact ⟨rfl, hpen5.ext hh, hlines5.mono (hid_mono hh), hplan5.mono (hid_mono hh), hpass5.mono (hid_mono hh)⟩
        rintro σ H6 ⟨rfl, hpen6, hlines6, hplan6, hpass6⟩
        clear hlines5 hplan5 hpass5 hL5 hP5 hL5' hxl5
        obtain ⟨xs6, hL6, hP6⟩ := id hlines6
        obtain ⟨ws6, hM6, hPM6⟩ := id hplan6
        obtain ⟨zs6, hS6, hPS6⟩ := id hpass6
        have x6 : Ext (hid [p, c] H6) H6 := hid_ext
        -- show_plan three times
        refine ⟨fun σ H' => σ = [some (.ref a), some (.ref p), x2, some (.ref L), x4, x5, x6_, x7, some (.ref MV), none, some (.ref PS), none, some (.str (planT (textsOf plan))), x13] ∧ Ext H6 H', ?_, ?_⟩
        · refine ⟨_, rfl, _, zs6, textsOf plan, rfl, ⟨PS, rfl, .inl (SqL.of (x6 _ _ hS6))⟩, pair_map (f := fun ms : List (Str × Str) => ms.map textM) (Paired.imp (fun _ _ q => RowAt.mono x6 q) hPS6), hsmall, fun H7 e7 => ⟨_, rfl, rfl, _, rfl, ?_⟩⟩
          refine iteNo (by simp) ?_
          refine ⟨_, rfl, MV, ws6, rfl, .inl ⟨SqL.of (e7 _ _ (x6 _ _ hM6)), fun t ht => ?_⟩⟩
          refine ⟨rfl, rfl, _, ws6, textsOf plan, rfl, ⟨t, rfl, .inr (SqT.of upd_same)⟩, rows_plan (Paired.imp (fun v ms ⟨b, q1, q2⟩ => ⟨b, q1, q2.mono ((x6.trans e7).trans (Ext.upd ht))⟩) hPM6) hok.2.2, hsmall, fun H8 e8 => ⟨_, rfl, rfl, _, rfl, ?_⟩⟩
          refine iteNo (by simp) ?_
          have e68 : Ext H6 H8 := (e7.trans (Ext.upd ht)).trans e8
          refine ⟨_, rfl, _, xs6, textsOf plan, rfl, ⟨L, rfl, .inl (SqL.of (e68 _ _ (x6 _ _ hL6)))⟩, rows_lines (Paired.imp (fun v ms q => EntAt.mono (x6.trans e68) q) hP6), hsmall, fun H9 e9 => ⟨_, rfl, rfl, _, rfl, ?_⟩⟩
          refine iteNo (by simp) ?_
          exact ⟨rfl, e68.trans e9⟩
        rintro σ H7 ⟨rfl, e67⟩
        have hpen7 := hpen6.ext e67
        have hplan7 := hplan6.mono (x6.trans e67)
        -- back = read_plan(due)
        refine ⟨_, rfl, plan, rfl, hne, hok, fun B H8 e8 hB => ?_⟩
        have hB8 : PlanAt (clsOf CL CA CS CF) H8 B plan := hB.mono nw_ext
        obtain ⟨bs, hb1, hb2⟩ := id hB8
        have hbl := Paired.len hb2
        have hplan8 := hplan7.mono e8
        refine ⟨fun σ H' => σ = [some (.ref a), some (.ref p), x2, some (.ref L), x4, x5, x6_, x7, some (.ref MV), none, some (.ref PS), none, some (.str (planT (textsOf plan))), some (.ref B)] ∧ Ext H8 H', ?_, ?_⟩
        · refine ⟨_, rfl, _, _, _, _, true, rfl, .ty "list", .base (.lst hb1), kit_ty (by decide +kernel), _, rfl, ?_⟩
          refine iteF ?_
          refine ⟨_, rfl, B, rfl, ⟨_, SqL.of hb1⟩, fun D hD => ?_⟩
          refine lc_it (walk_list (xs := bs)) (fun i Hx => Hx D = some (.lst []) ∧ Ext H8 Hx) ⟨upd_same, Ext.upd hD⟩ (fun i Hx _ hh => SqL.of (hh.2 _ _ hb1)) ?_ ?_
          · rintro i x _ H9 hi hh ⟨rfl, hx⟩
            obtain ⟨ms, hms, b, rfl, ys, hys, _⟩ := Paired.at_ hb2 hx
            refine ⟨rfl, _, rfl, _, _, _, _, true, rfl, .ty "list", .base (.lst (hh.2 _ _ hys)), kit_ty (by decide +kernel), _, rfl, ?_⟩
            refine iteF ?_
            exact hh
          · rintro H9 ⟨hD9, e9⟩
            refine ⟨(by show 0 ≤ sizeLine; decide), fun e2 he2 => ?_⟩
            refine ⟨D, e2, [], rfl, rfl, by rw [upd_ne (ne_of_none hD9 he2)]; exact hD9, upd_same, _, rfl, ?_⟩
            refine iteF ?_
            exact ⟨rfl, e9.trans (Ext.upd he2)⟩
        rintro σ H9 ⟨rfl, e89⟩
        have hB9 := hB8.mono e89
        have hM9 := hplan8.mono e89
        refine ⟨_, rfl, _, rfl, eq_plans hB9 hM9 hok.2.2, fun H10 e10 => ⟨_, rfl, ?_⟩⟩
        refine iteF ?_
        refine ⟨_, rfl, rfl, rfl, plan, rfl, hne, hok, fun B2 H11 e11 hB2 => ?_⟩
        refine ⟨_, rfl, eq_plans (hB2.mono nw_ext) ((hM9.mono e10).mono e11) hok.2.2, fun H12 e12 => ⟨_, rfl, ?_⟩⟩
        refine iteF ?_
        have e9c : Ext H9 H12 := (e10.trans e11).trans e12
        obtain ⟨bs2, hb3, hb4⟩ := hB9.mono e9c
        refine ⟨_, rfl, _, bs2, textsOf plan, rfl, ⟨B, rfl, .inl (SqL.of hb3)⟩, rows_plan hb4 hok.2.2, hsmall, fun H13 e13 => ⟨_, rfl, rfl, _, rfl, ?_⟩⟩
        refine iteNo (by simp) ?_
        exact ⟨_, _, _, _, _, _, _, _, _, _, rfl, (((hpen7.ext e8).ext e89).ext e9c).ext e13⟩
    · rintro σ H2 ⟨x2, x3, x4, x5, x6, x7, x8, x10, x12, x13, rfl, hpen2⟩
      have dash : planT [[]] = "-" := by decide +kernel
      have dash2 : planT (textsOf [[]]) = "-" := dash
      refine ⟨(by show 0 ≤ sizeLine; decide), fun l1 h1 => ⟨(by show 1 ≤ sizeLine; decide), fun l2 h2 => ?_⟩⟩
      have n12 : l1 ≠ l2 := ne_of_none upd_same h2
      refine ⟨_, [.ref l1], [[]], rfl, ⟨l2, rfl, .inl (SqL.of upd_same)⟩, .cons ⟨[], ⟨l1, rfl, .inl (SqL.of (by rw [upd_ne n12]; exact upd_same))⟩, .nil⟩ .nil, ⟨by decide, by simp⟩, fun H3 e3 => ⟨rfl, _, rfl, ?_⟩⟩
      rw [dash]
      refine iteYes (by simp) ?_
      refine ⟨[[]], by rw [dash2], by simp, ⟨by decide, by simp, by simp⟩, fun B H4 e4 hB => ?_⟩
      obtain ⟨bs, hb1, hb2⟩ := hB.mono nw_ext
      refine ⟨(by show 0 ≤ sizeLine; decide), fun l3 h3 => ⟨(by show 1 ≤ sizeLine; decide), fun l4 h4 => ?_⟩⟩
      have n34 : l3 ≠ l4 := ne_of_none upd_same h4
      cases hb2 with
      | cons r t =>
        cases t
        obtain ⟨b, rfl, ys, hy, hyp⟩ := r
        cases hyp
        have k3 : ∀ {x : Addr} {o : HO}, H4 x = some o → (upd (upd H4 l3 (.lst [])) l4 (.lst [.ref l3])) x = some o := fun {x o} q => by
          rw [upd_ne (ne_of_none (by rw [upd_ne (ne_of_none q h3)]; exact q) h4), upd_ne (ne_of_none q h3)]
          exact q
        refine ⟨⟨B, l4, [.ref b], [.ref l3], rfl, rfl, k3 hb1, upd_same, rfl, fun i x y hx hy' => ?_⟩, fun H5 _ => k H5⟩
        cases i with
        | zero =>
          simp at hx hy'
          subst hx; subst hy'
          exact ⟨b, l3, [], [], rfl, rfl, k3 hy, by rw [upd_ne n34]; exact upd_same, Prs.nil⟩
        | succ i => simp at hx
end
end K94
end
section
set_option Elab.async false
set_option linter.all false
set_option maxRecDepth 100000
set_option maxHeartbeats 8000000
namespace K94
open PySem PySem.Spec PyProof.Rows L2 Ls
theorem all_mk {l : PySem.W.OpenLaw} {w : World} {K : PySem.W.Frag} {h : Heap} {mg : Str → Option Value} {fa : Addr} (X : K.In h) (G : h.Ns mainGlobals mg) (hfa : mg "law" = some (.ref fa))
    {tL tN t1 t2 t3 t4 : Tok} {zL z1 z2 z3 z4 : Str} {mw CM : Addr} {ddW : Option Addr} {nW_ : Nat} {slW : Array (Option Value)}
    {fMI fE fS fR pR : Addr} {mc : Value} {restR : List Value}
    {odMI anMI : Option Addr} {slMI : Array (Option Value)} {ocMI kVMI dcMI pmMI ctMI : Value}
    {cdMI : Value}
    {odE anE : Option Addr} {slE : Array (Option Value)} {ocE kVE dcE pmE ctE : Value}
    {cdE : Value}
    {odS anS : Option Addr} {slS : Array (Option Value)} {ocS kVS dcS pmS ctS : Value}
    {cdS : Value}
    {odR anR : Option Addr} {slR : Array (Option Value)} {ocR kVR dcR pmR ctR : Value}
    {cdR : Value}
    {CL fL_ ccL cdaL : Addr} {clL cclL : Value} {cldL cddL : Option Addr} {cslL ccsL : Array (Option Value)} {vsL : Array Value} {fileL : Str} {tfL : Tok} {cdatL : ClassData}
    {odIL anIL : Option Addr} {slIL : Array (Option Value)} {ocIL kVIL dcIL pmIL ctIL : Value}
    {CA fA_ ccA cdaA : Addr} {clA cclA : Value} {cldA cddA : Option Addr} {cslA ccsA : Array (Option Value)} {vsA : Array Value} {fileA : Str} {tfA : Tok} {cdatA : ClassData}
    {odIA anIA : Option Addr} {slIA : Array (Option Value)} {ocIA kVIA dcIA pmIA ctIA : Value}
    {CS fS_ ccS cdaS : Addr} {clS cclS : Value} {cldS cddS : Option Addr} {cslS ccsS : Array (Option Value)} {vsS : Array Value} {fileS : Str} {tfS : Tok} {cdatS : ClassData}
    {odIS anIS : Option Addr} {slIS : Array (Option Value)} {ocIS kVIS dcIS pmIS ctIS : Value}
    {CF fF_ ccF cdaF : Addr} {clF cclF : Value} {cldF cddF : Option Addr} {cslF ccsF : Array (Option Value)} {vsF : Array Value} {fileF : Str} {tfF : Tok} {cdatF : ClassData}
    {odIF anIF : Option Addr} {slIF : Array (Option Value)} {ocIF kVIF dcIF pmIF ctIF : Value}
    {f_is_name : Addr}
    {od_is_name an_is_name : Option Addr} {sl_is_name : Array (Option Value)} {oc_is_name kV_is_name dc_is_name pm_is_name ct_is_name : Value}
    {cd_is_name : Value}
    {f_show_plan : Addr}
    {od_show_plan an_show_plan : Option Addr} {sl_show_plan : Array (Option Value)} {oc_show_plan kV_show_plan dc_show_plan pm_show_plan ct_show_plan : Value}
    {cd_show_plan : Value}
    {f_move_of : Addr}
    {od_move_of an_move_of : Option Addr} {sl_move_of : Array (Option Value)} {oc_move_of kV_move_of dc_move_of pm_move_of ct_move_of : Value}
    {cd_move_of : Value}
    {f_lines_of : Addr}
    {od_lines_of an_lines_of : Option Addr} {sl_lines_of : Array (Option Value)} {oc_lines_of kV_lines_of dc_lines_of pm_lines_of ct_lines_of : Value}
    {cd_lines_of : Value}
    {f_need_words : Addr}
    {od_need_words an_need_words : Option Addr} {sl_need_words : Array (Option Value)} {oc_need_words kV_need_words dc_need_words pm_need_words ct_need_words : Value}
    {cd_need_words : Value}
    {f_read_row : Addr}
    {od_read_row an_read_row : Option Addr} {sl_read_row : Array (Option Value)} {oc_read_row kV_read_row dc_read_row pm_read_row ct_read_row : Value}
    {cd_read_row : Value}
    {f_read_plan : Addr}
    {od_read_plan an_read_plan : Option Addr} {sl_read_plan : Array (Option Value)} {oc_read_plan kV_read_plan dc_read_plan pm_read_plan ct_read_plan : Value}
    {cd_read_plan : Value}
    {f__law_pen : Addr}
    {od__law_pen an__law_pen : Option Addr} {sl__law_pen : Array (Option Value)} {oc__law_pen kV__law_pen dc__law_pen pm__law_pen ct__law_pen : Value}
    {cd__law_pen : Value}
    {f__law_draw : Addr}
    {od__law_draw an__law_draw : Option Addr} {sl__law_draw : Array (Option Value)} {oc__law_draw kV__law_draw dc__law_draw pm__law_draw ct__law_draw : Value}
    {cd__law_draw : Value}
    {f__law_pick : Addr}
    {od__law_pick an__law_pick : Option Addr} {sl__law_pick : Array (Option Value)} {oc__law_pick kV__law_pick dc__law_pick pm__law_pick ct__law_pick : Value}
    {cd__law_pick : Value}
    {f_law : Addr}
    {od_law an_law : Option Addr} {sl_law : Array (Option Value)} {oc_law kV_law dc_law pm_law ct_law : Value}
    {cd_law : Value}
    (b0 : PySem.W.nsIn K mainGlobals "len" = some none)
    (b1 : PySem.W.nsIn K mainGlobals "int" = some none)
    (b2 : PySem.W.nsIn K mainGlobals "abs" = some none)
    (b3 : PySem.W.nsIn K mainGlobals "list" = some none)
    (b4 : PySem.W.nsIn K mainGlobals "str" = some none)
    (b5 : PySem.W.nsIn K mainGlobals "isinstance" = some none)
    (b6 : PySem.W.nsIn K mainGlobals "all" = some none)
    (b7 : PySem.W.nsIn K mainGlobals "enumerate" = some none)
    (b8 : PySem.W.nsIn K mainGlobals "range" = some none)
    (b9 : PySem.W.nsIn K mainGlobals "tuple" = some none)
    (b10 : PySem.W.nsIn K mainGlobals "super" = some none)
    (gL : PySem.W.nsIn K mainGlobals "LETTERS" = some (some (.str zL tL)))
    (eL : zL = lettersS)
    (gN : PySem.W.nsIn K mainGlobals "LONGEST_NAME" = some (some (.int 6 tN)))
    (gW : PySem.W.nsIn K mainGlobals "MOVE_WORDS" = some (some (.ref mw)))
    (lW : K.lookup mw = some ⟨.type "tuple", ddW, .seq #[.str z1 t1, .str z2 t2, .str z3 t3, .str z4 t4] nW_, slW⟩)
    (eW : [z1, z2, z3, z4] = W4)
    (gM : PySem.W.nsIn K mainGlobals "Move" = some (some (.ref CM)))
    (aMI : PySem.W.findIn K (.ref CM) "__init__" = some (some (.ref fMI)))
    (lMI : K.lookup fMI = some ⟨ocMI, odMI, .func (PySem.W.fnOf "__init__" "Move.__init__" (defArgs s_Move_init) (defBody s_Move_init) (defScope s_Move_init) .none kVMI dcMI pmMI anMI cdMI ctMI), slMI⟩)
    (cMI : PySem.W.codeIn K cdMI "Move.__init__" = true)
    (kMI : PySem.W.keepIn K (.ref fMI) = true)
    (tMI : PySem.W.typeIn K (.ref fMI) = some (.type "function"))
    (fiMI : PySem.W.fnIn K fMI = true)
    (aE : PySem.W.findIn K (.ref CM) "__eq__" = some (some (.ref fE)))
    (lE : K.lookup fE = some ⟨ocE, odE, .func (PySem.W.fnOf "__eq__" "Move.__eq__" (defArgs s_Move_eq) (defBody s_Move_eq) (defScope s_Move_eq) .none kVE dcE pmE anE cdE ctE), slE⟩)
    (cE : PySem.W.codeIn K cdE "Move.__eq__" = true)
    (kE : PySem.W.keepIn K (.ref fE) = true)
    (iE : PySem.W.isFn K (.ref fE) = true)
    (aS : PySem.W.findIn K (.ref CM) "__str__" = some (some (.ref fS)))
    (lS : K.lookup fS = some ⟨ocS, odS, .func (PySem.W.fnOf "__str__" "Move.__str__" (defArgs s_Move_str) (defBody s_Move_str) (defScope s_Move_str) .none kVS dcS pmS anS cdS ctS), slS⟩)
    (cS : PySem.W.codeIn K cdS "Move.__str__" = true)
    (kS : PySem.W.keepIn K (.ref fS) = true)
    (iS : PySem.W.isFn K (.ref fS) = true)
    (tyM : PySem.W.typeIn K (.ref CM) = some mc)
    (rdM : PySem.W.readsIn K CM mc = true)
    (gaM : PySem.W.specialIn K (.ref CM) "__getattribute__" = some (some (.builtin "type.__getattribute__")))
    (atR : PySem.W.findCls K (.ref CM) mc "read" = some (.get (.builtin "classmethod.__get__") (.ref pR) .none (.ref CM)))
    (rcR : PySem.W.recIn K pR "classmethod" = some (.ref fR :: restR))
    (fiR : PySem.W.fnIn K fR = true)
    (lR : K.lookup fR = some ⟨ocR, odR, .func (PySem.W.fnOf "read" "Move.read" (defArgs s_Move_read) (defBody s_Move_read) (defScope s_Move_read) .none kVR dcR pmR anR cdR ctR), slR⟩)
    (cR : PySem.W.codeIn K cdR "Move.read" = true)
    (kR : PySem.W.keepIn K (.ref fR) = true)
    (hn : PySem.W.specialIn K (.builtin "object.__class__") "__get__" = some (some (.builtin "getset_descriptor.__get__")))
    (htk : PySem.W.takesIn K (.builtin "object.__class__") = some true)
    (any_ : PySem.W.nsIn K cStatics "thirdparty.any" = some none)
    (top_ : (l.prog.main.scope.names.lookup ("super" : Str)).isSome = false)
    (gL_ : PySem.W.nsIn K mainGlobals "Load" = some (some (.ref CL)))
    (pgL : PySem.W.plainGet K CL Str.empty = true)
    (hdL : PySem.W.hasDictIn K CL = true)
    (poL : PySem.W.plainOver K CL = true)
    (saL : PySem.W.findIn K (.ref CL) "__setattr__" = some (some (.builtin "object.__setattr__")))
    (nWL : PySem.W.findIn K (.ref CL) "word" = some none)
    (nNL : PySem.W.findIn K (.ref CL) "name" = some none)
    (haL : PySem.W.findIn K (.ref CL) "__class__" = some (some (.builtin "object.__class__")))
    (hmL : PySem.W.mroIn K CL (.type "object") = some true)
    (kitL : PySem.W.kitOne K (.ref CL) (.ref CM) = some true)
    (stL : PySem.W.findIn K (.ref CL) "__str__" = some (some (.ref fS)))
    (eqL : PySem.W.findIn K (.ref CL) "__eq__" = some (some (.ref fE)))
    (mkL : PySem.W.makesIn K CL = true)
    (inL : PySem.W.findIn K (.ref CL) "__init__" = some (some (.ref fL_)))
    (fnL : PySem.W.isFn K (.ref fL_) = true)
    (kpL : PySem.W.keepIn K (.ref CL) = true)
    (lIL : K.lookup fL_ = some ⟨ocIL, odIL, .func (PySem.W.ksFn "__init__" "Load.__init__" (defArgs s_Load_init) (defBody s_Load_init) (defScope s_Load_init) .none kVIL dcIL pmIL anIL (.ref cdaL) ctIL ccL), slIL⟩)
    (cIL : PySem.W.codeIn K (.ref cdaL) "Load.__init__" = true)
    (kIL : PySem.W.keepIn K (.ref fL_) = true)
    (ceL : K.lookup ccL = some ⟨clL, cldL, .cell (some (.ref CL)), cslL⟩)
    (coL : K.lookup cdaL = some ⟨cclL, cddL, .fields vsL, ccsL⟩)
    (v2L : vsL[2]? = some (.str fileL tfL))
    (flL : ((l.prog.main.file : Str) == fileL) = true)
    (cd_L : PySem.W.clsIn K CL = some cdatL)
    (sbL : PySem.W.mroIn K CL (.ref CL) = some true)
    (fd_L : PySem.W.ks_superIn K CL CL "__init__" = some (some (.ref fMI)))
    (gA_ : PySem.W.nsIn K mainGlobals "Again" = some (some (.ref CA)))
    (pgA : PySem.W.plainGet K CA Str.empty = true)
    (hdA : PySem.W.hasDictIn K CA = true)
    (poA : PySem.W.plainOver K CA = true)
    (saA : PySem.W.findIn K (.ref CA) "__setattr__" = some (some (.builtin "object.__setattr__")))
    (nWA : PySem.W.findIn K (.ref CA) "word" = some none)
    (nNA : PySem.W.findIn K (.ref CA) "name" = some none)
    (haA : PySem.W.findIn K (.ref CA) "__class__" = some (some (.builtin "object.__class__")))
    (hmA : PySem.W.mroIn K CA (.type "object") = some true)
    (kitA : PySem.W.kitOne K (.ref CA) (.ref CM) = some true)
    (stA : PySem.W.findIn K (.ref CA) "__str__" = some (some (.ref fS)))
    (eqA : PySem.W.findIn K (.ref CA) "__eq__" = some (some (.ref fE)))
    (mkA : PySem.W.makesIn K CA = true)
    (inA : PySem.W.findIn K (.ref CA) "__init__" = some (some (.ref fA_)))
    (fnA : PySem.W.isFn K (.ref fA_) = true)
    (kpA : PySem.W.keepIn K (.ref CA) = true)
    (lIA : K.lookup fA_ = some ⟨ocIA, odIA, .func (PySem.W.ksFn "__init__" "Again.__init__" (defArgs s_Again_init) (defBody s_Again_init) (defScope s_Again_init) .none kVIA dcIA pmIA anIA (.ref cdaA) ctIA ccA), slIA⟩)
    (cIA : PySem.W.codeIn K (.ref cdaA) "Again.__init__" = true)
    (kIA : PySem.W.keepIn K (.ref fA_) = true)
    (ceA : K.lookup ccA = some ⟨clA, cldA, .cell (some (.ref CA)), cslA⟩)
    (coA : K.lookup cdaA = some ⟨cclA, cddA, .fields vsA, ccsA⟩)
    (v2A : vsA[2]? = some (.str fileA tfA))
    (flA : ((l.prog.main.file : Str) == fileA) = true)
    (cd_A : PySem.W.clsIn K CA = some cdatA)
    (sbA : PySem.W.mroIn K CA (.ref CA) = some true)
    (fd_A : PySem.W.ks_superIn K CA CA "__init__" = some (some (.ref fMI)))
    (gS_ : PySem.W.nsIn K mainGlobals "Store" = some (some (.ref CS)))
    (pgS : PySem.W.plainGet K CS Str.empty = true)
    (hdS : PySem.W.hasDictIn K CS = true)
    (poS : PySem.W.plainOver K CS = true)
    (saS : PySem.W.findIn K (.ref CS) "__setattr__" = some (some (.builtin "object.__setattr__")))
    (nWS : PySem.W.findIn K (.ref CS) "word" = some none)
    (nNS : PySem.W.findIn K (.ref CS) "name" = some none)
    (haS : PySem.W.findIn K (.ref CS) "__class__" = some (some (.builtin "object.__class__")))
    (hmS : PySem.W.mroIn K CS (.type "object") = some true)
    (kitS : PySem.W.kitOne K (.ref CS) (.ref CM) = some true)
    (stS : PySem.W.findIn K (.ref CS) "__str__" = some (some (.ref fS)))
    (eqS : PySem.W.findIn K (.ref CS) "__eq__" = some (some (.ref fE)))
    (mkS : PySem.W.makesIn K CS = true)
    (inS : PySem.W.findIn K (.ref CS) "__init__" = some (some (.ref fS_)))
    (fnS : PySem.W.isFn K (.ref fS_) = true)
    (kpS : PySem.W.keepIn K (.ref CS) = true)
    (lIS : K.lookup fS_ = some ⟨ocIS, odIS, .func (PySem.W.ksFn "__init__" "Store.__init__" (defArgs s_Store_init) (defBody s_Store_init) (defScope s_Store_init) .none kVIS dcIS pmIS anIS (.ref cdaS) ctIS ccS), slIS⟩)
    (cIS : PySem.W.codeIn K (.ref cdaS) "Store.__init__" = true)
    (kIS : PySem.W.keepIn K (.ref fS_) = true)
    (ceS : K.lookup ccS = some ⟨clS, cldS, .cell (some (.ref CS)), cslS⟩)
    (coS : K.lookup cdaS = some ⟨cclS, cddS, .fields vsS, ccsS⟩)
    (v2S : vsS[2]? = some (.str fileS tfS))
    (flS : ((l.prog.main.file : Str) == fileS) = true)
    (cd_S : PySem.W.clsIn K CS = some cdatS)
    (sbS : PySem.W.mroIn K CS (.ref CS) = some true)
    (fd_S : PySem.W.ks_superIn K CS CS "__init__" = some (some (.ref fMI)))
    (gF_ : PySem.W.nsIn K mainGlobals "Forget" = some (some (.ref CF)))
    (pgF : PySem.W.plainGet K CF Str.empty = true)
    (hdF : PySem.W.hasDictIn K CF = true)
    (poF : PySem.W.plainOver K CF = true)
    (saF : PySem.W.findIn K (.ref CF) "__setattr__" = some (some (.builtin "object.__setattr__")))
    (nWF : PySem.W.findIn K (.ref CF) "word" = some none)
    (nNF : PySem.W.findIn K (.ref CF) "name" = some none)
    (haF : PySem.W.findIn K (.ref CF) "__class__" = some (some (.builtin "object.__class__")))
    (hmF : PySem.W.mroIn K CF (.type "object") = some true)
    (kitF : PySem.W.kitOne K (.ref CF) (.ref CM) = some true)
    (stF : PySem.W.findIn K (.ref CF) "__str__" = some (some (.ref fS)))
    (eqF : PySem.W.findIn K (.ref CF) "__eq__" = some (some (.ref fE)))
    (mkF : PySem.W.makesIn K CF = true)
    (inF : PySem.W.findIn K (.ref CF) "__init__" = some (some (.ref fF_)))
    (fnF : PySem.W.isFn K (.ref fF_) = true)
    (kpF : PySem.W.keepIn K (.ref CF) = true)
    (lIF : K.lookup fF_ = some ⟨ocIF, odIF, .func (PySem.W.ksFn "__init__" "Forget.__init__" (defArgs s_Forget_init) (defBody s_Forget_init) (defScope s_Forget_init) .none kVIF dcIF pmIF anIF (.ref cdaF) ctIF ccF), slIF⟩)
    (cIF : PySem.W.codeIn K (.ref cdaF) "Forget.__init__" = true)
    (kIF : PySem.W.keepIn K (.ref fF_) = true)
    (ceF : K.lookup ccF = some ⟨clF, cldF, .cell (some (.ref CF)), cslF⟩)
    (coF : K.lookup cdaF = some ⟨cclF, cddF, .fields vsF, ccsF⟩)
    (v2F : vsF[2]? = some (.str fileF tfF))
    (flF : ((l.prog.main.file : Str) == fileF) = true)
    (cd_F : PySem.W.clsIn K CF = some cdatF)
    (sbF : PySem.W.mroIn K CF (.ref CF) = some true)
    (fd_F : PySem.W.ks_superIn K CF CF "__init__" = some (some (.ref fMI)))
    (a_is_name : PySem.W.nsIn K mainGlobals "is_name" = some (some (.ref f_is_name)))
    (l_is_name : K.lookup f_is_name = some ⟨oc_is_name, od_is_name, .func (PySem.W.fnOf "is_name" "is_name" (defArgs s_is_name) (defBody s_is_name) (defScope s_is_name) .none kV_is_name dc_is_name pm_is_name an_is_name cd_is_name ct_is_name), sl_is_name⟩)
    (c_is_name : PySem.W.codeIn K cd_is_name "is_name" = true)
    (k_is_name : PySem.W.keepIn K (.ref f_is_name) = true)
    (a_show_plan : PySem.W.nsIn K mainGlobals "show_plan" = some (some (.ref f_show_plan)))
    (l_show_plan : K.lookup f_show_plan = some ⟨oc_show_plan, od_show_plan, .func (PySem.W.fnOf "show_plan" "show_plan" (defArgs s_show_plan) (defBody s_show_plan) (defScope s_show_plan) .none kV_show_plan dc_show_plan pm_show_plan an_show_plan cd_show_plan ct_show_plan), sl_show_plan⟩)
    (c_show_plan : PySem.W.codeIn K cd_show_plan "show_plan" = true)
    (k_show_plan : PySem.W.keepIn K (.ref f_show_plan) = true)
    (a_move_of : PySem.W.nsIn K mainGlobals "move_of" = some (some (.ref f_move_of)))
    (l_move_of : K.lookup f_move_of = some ⟨oc_move_of, od_move_of, .func (PySem.W.fnOf "move_of" "move_of" (defArgs s_move_of) (defBody s_move_of) (defScope s_move_of) .none kV_move_of dc_move_of pm_move_of an_move_of cd_move_of ct_move_of), sl_move_of⟩)
    (c_move_of : PySem.W.codeIn K cd_move_of "move_of" = true)
    (k_move_of : PySem.W.keepIn K (.ref f_move_of) = true)
    (a_lines_of : PySem.W.nsIn K mainGlobals "lines_of" = some (some (.ref f_lines_of)))
    (l_lines_of : K.lookup f_lines_of = some ⟨oc_lines_of, od_lines_of, .func (PySem.W.fnOf "lines_of" "lines_of" (defArgs s_lines_of) (defBody s_lines_of) (defScope s_lines_of) .none kV_lines_of dc_lines_of pm_lines_of an_lines_of cd_lines_of ct_lines_of), sl_lines_of⟩)
    (c_lines_of : PySem.W.codeIn K cd_lines_of "lines_of" = true)
    (k_lines_of : PySem.W.keepIn K (.ref f_lines_of) = true)
    (a_need_words : PySem.W.nsIn K mainGlobals "need_words" = some (some (.ref f_need_words)))
    (l_need_words : K.lookup f_need_words = some ⟨oc_need_words, od_need_words, .func (PySem.W.fnOf "need_words" "need_words" (defArgs s_need_words) (defBody s_need_words) (defScope s_need_words) .none kV_need_words dc_need_words pm_need_words an_need_words cd_need_words ct_need_words), sl_need_words⟩)
    (c_need_words : PySem.W.codeIn K cd_need_words "need_words" = true)
    (k_need_words : PySem.W.keepIn K (.ref f_need_words) = true)
    (a_read_row : PySem.W.nsIn K mainGlobals "read_row" = some (some (.ref f_read_row)))
    (l_read_row : K.lookup f_read_row = some ⟨oc_read_row, od_read_row, .func (PySem.W.fnOf "read_row" "read_row" (defArgs s_read_row) (defBody s_read_row) (defScope s_read_row) .none kV_read_row dc_read_row pm_read_row an_read_row cd_read_row ct_read_row), sl_read_row⟩)
    (c_read_row : PySem.W.codeIn K cd_read_row "read_row" = true)
    (k_read_row : PySem.W.keepIn K (.ref f_read_row) = true)
    (a_read_plan : PySem.W.nsIn K mainGlobals "read_plan" = some (some (.ref f_read_plan)))
    (l_read_plan : K.lookup f_read_plan = some ⟨oc_read_plan, od_read_plan, .func (PySem.W.fnOf "read_plan" "read_plan" (defArgs s_read_plan) (defBody s_read_plan) (defScope s_read_plan) .none kV_read_plan dc_read_plan pm_read_plan an_read_plan cd_read_plan ct_read_plan), sl_read_plan⟩)
    (c_read_plan : PySem.W.codeIn K cd_read_plan "read_plan" = true)
    (k_read_plan : PySem.W.keepIn K (.ref f_read_plan) = true)
    (a__law_pen : PySem.W.nsIn K mainGlobals "_law_pen" = some (some (.ref f__law_pen)))
    (l__law_pen : K.lookup f__law_pen = some ⟨oc__law_pen, od__law_pen, .func (PySem.W.fnOf "_law_pen" "_law_pen" (defArgs s__law_pen) (defBody s__law_pen) (defScope s__law_pen) .none kV__law_pen dc__law_pen pm__law_pen an__law_pen cd__law_pen ct__law_pen), sl__law_pen⟩)
    (c__law_pen : PySem.W.codeIn K cd__law_pen "_law_pen" = true)
    (k__law_pen : PySem.W.keepIn K (.ref f__law_pen) = true)
    (a__law_draw : PySem.W.nsIn K mainGlobals "_law_draw" = some (some (.ref f__law_draw)))
    (l__law_draw : K.lookup f__law_draw = some ⟨oc__law_draw, od__law_draw, .func (PySem.W.fnOf "_law_draw" "_law_draw" (defArgs s__law_draw) (defBody s__law_draw) (defScope s__law_draw) .none kV__law_draw dc__law_draw pm__law_draw an__law_draw cd__law_draw ct__law_draw), sl__law_draw⟩)
    (c__law_draw : PySem.W.codeIn K cd__law_draw "_law_draw" = true)
    (k__law_draw : PySem.W.keepIn K (.ref f__law_draw) = true)
    (a__law_pick : PySem.W.nsIn K mainGlobals "_law_pick" = some (some (.ref f__law_pick)))
    (l__law_pick : K.lookup f__law_pick = some ⟨oc__law_pick, od__law_pick, .func (PySem.W.fnOf "_law_pick" "_law_pick" (defArgs s__law_pick) (defBody s__law_pick) (defScope s__law_pick) .none kV__law_pick dc__law_pick pm__law_pick an__law_pick cd__law_pick ct__law_pick), sl__law_pick⟩)
    (c__law_pick : PySem.W.codeIn K cd__law_pick "_law_pick" = true)
    (k__law_pick : PySem.W.keepIn K (.ref f__law_pick) = true)
    (a_law : PySem.W.nsIn K mainGlobals "law" = some (some (.ref f_law)))
    (l_law : K.lookup f_law = some ⟨oc_law, od_law, .func (PySem.W.fnOf "law" "law" (defArgs s_law) (defBody s_law) (defScope s_law) .none kV_law dc_law pm_law an_law cd_law ct_law), sl_law⟩)
    (c_law : PySem.W.codeIn K cd_law "law" = true)
    (k_law : PySem.W.keepIn K (.ref f_law) = true) :
    ∃ fd : FuncData, (∀ (s : Shared) (v : Value), BindsTo s fd ⟨[v], []⟩ [("_law_script", v)]) ∧ ∀ base : Heap, K.In base → base.Ns mainGlobals mg → FnOk l.prog w K mg base CX0 9 fa fd ["_law_script"] (spLaw K) := by
  have e := hfa.symm.trans (PySem.W.mg_of X G a_law)
  cases e
  subst eL
  have T : Tx K mg CM CL CA CS CF mw tL tN := ⟨by
    intro x hx
    simp only [bns, List.mem_cons, List.not_mem_nil, or_false] at hx
    rcases hx with rfl | rfl | rfl | rfl | rfl | rfl | rfl | rfl | rfl | rfl | rfl
    · exact PySem.W.mg_none_of X G b0
    · exact PySem.W.mg_none_of X G b1
    · exact PySem.W.mg_none_of X G b2
    · exact PySem.W.mg_none_of X G b3
    · exact PySem.W.mg_none_of X G b4
    · exact PySem.W.mg_none_of X G b5
    · exact PySem.W.mg_none_of X G b6
    · exact PySem.W.mg_none_of X G b7
    · exact PySem.W.mg_none_of X G b8
    · exact PySem.W.mg_none_of X G b9
    · exact PySem.W.mg_none_of X G b10, PySem.W.mg_of X G gL, PySem.W.mg_of X G gN, PySem.W.mg_of X G gW, PySem.W.mg_of X G gM⟩
  have FMI := fun_mk (st := s_Move_init) lMI cMI kMI
  have FE := fun_mk (st := s_Move_eq) lE cE kE
  have FS_ := fun_mk (st := s_Move_str) lS cS kS
  have FR := fun_mk (st := s_Move_read) lR cR kR
  have F_is_name := fun_mk (st := s_is_name) l_is_name c_is_name k_is_name
  have F_show_plan := fun_mk (st := s_show_plan) l_show_plan c_show_plan k_show_plan
  have F_move_of := fun_mk (st := s_move_of) l_move_of c_move_of k_move_of
  have F_lines_of := fun_mk (st := s_lines_of) l_lines_of c_lines_of k_lines_of
  have F_need_words := fun_mk (st := s_need_words) l_need_words c_need_words k_need_words
  have F_read_row := fun_mk (st := s_read_row) l_read_row c_read_row k_read_row
  have F_read_plan := fun_mk (st := s_read_plan) l_read_plan c_read_plan k_read_plan
  have F__law_pen := fun_mk (st := s__law_pen) l__law_pen c__law_pen k__law_pen
  have F__law_draw := fun_mk (st := s__law_draw) l__law_draw c__law_draw k__law_draw
  have F__law_pick := fun_mk (st := s__law_pick) l__law_pick c__law_pick k__law_pick
  have F_law := fun_mk (st := s_law) l_law c_law k_law
  have BMI := FMI.binds (ps := ["self", "word", "name"]) fun _ _ _ _ _ _ us hl => match us, hl with | [_, _, _], _ => rfl
  have BE := FE.binds (ps := ["self", "other"]) fun _ _ _ _ _ _ us hl => match us, hl with | [_, _], _ => rfl
  have BS := FS_.binds (ps := ["self"]) fun _ _ _ _ _ _ us hl => match us, hl with | [_], _ => rfl
  have BR := FR.binds (ps := ["cls", "text"]) fun _ _ _ _ _ _ us hl => match us, hl with | [_, _], _ => rfl
  have B_is_name := F_is_name.binds (ps := ["value"]) fun _ _ _ _ _ _ us hl => match us, hl with | [_], _ => rfl
  have B_show_plan := F_show_plan.binds (ps := ["plan"]) fun _ _ _ _ _ _ us hl => match us, hl with | [_], _ => rfl
  have B_move_of := F_move_of.binds (ps := ["word", "name"]) fun _ _ _ _ _ _ us hl => match us, hl with | [_, _], _ => rfl
  have B_lines_of := F_lines_of.binds (ps := ["text"]) fun _ _ _ _ _ _ us hl => match us, hl with | [_], _ => rfl
  have B_need_words := F_need_words.binds (ps := ["at", "words", "least", "most"]) fun _ _ _ _ _ _ us hl => match us, hl with | [_, _, _, _], _ => rfl
  have B_read_row := F_read_row.binds (ps := ["at", "words"]) fun _ _ _ _ _ _ us hl => match us, hl with | [_, _], _ => rfl
  have B_read_plan := F_read_plan.binds (ps := ["text"]) fun _ _ _ _ _ _ us hl => match us, hl with | [_], _ => rfl
  have B__law_pen := F__law_pen.binds (ps := ["_law_script"]) fun _ _ _ _ _ _ us hl => match us, hl with | [_], _ => rfl
  have B__law_draw := F__law_draw.binds (ps := ["_law_pen_here", "_law_many"]) fun _ _ _ _ _ _ us hl => match us, hl with | [_, _], _ => rfl
  have B__law_pick := F__law_pick.binds (ps := ["_law_pen_here", "_law_some"]) fun _ _ _ _ _ _ us hl => match us, hl with | [_, _], _ => rfl
  have FSL : FunS K "__init__" "Load.__init__" s_Load_init fL_ _ cdaL ccL := ⟨⟨_, _, _, _, _, _, _, _, rfl, lIL, cIL⟩, kIL⟩
  have CL_L : Cls K CL := ⟨pgL, hdL, poL, saL⟩
  have SPL : SupT l.prog K mg CL CL ccL cdaL "__init__" fMI := ⟨⟨_, _, _, ceL⟩, ⟨_, _, _, _, _, _, coL, v2L, flL⟩, ⟨_, cd_L⟩, sbL, T.bn _ (by decide +kernel), top_, any_, fd_L, tMI, fiMI⟩
  have TCL : ClT K CM CL fS fE := ⟨CL_L, nWL, nNL, haL, hn, htk, hmL, kitL, stL, eqL⟩
  have FSA : FunS K "__init__" "Again.__init__" s_Again_init fA_ _ cdaA ccA := ⟨⟨_, _, _, _, _, _, _, _, rfl, lIA, cIA⟩, kIA⟩
  have CL_A : Cls K CA := ⟨pgA, hdA, poA, saA⟩
  have SPA : SupT l.prog K mg CA CA ccA cdaA "__init__" fMI := ⟨⟨_, _, _, ceA⟩, ⟨_, _, _, _, _, _, coA, v2A, flA⟩, ⟨_, cd_A⟩, sbA, T.bn _ (by decide +kernel), top_, any_, fd_A, tMI, fiMI⟩
  have TCA : ClT K CM CA fS fE := ⟨CL_A, nWA, nNA, haA, hn, htk, hmA, kitA, stA, eqA⟩
  have FSS : FunS K "__init__" "Store.__init__" s_Store_init fS_ _ cdaS ccS := ⟨⟨_, _, _, _, _, _, _, _, rfl, lIS, cIS⟩, kIS⟩
  have CL_S : Cls K CS := ⟨pgS, hdS, poS, saS⟩
  have SPS : SupT l.prog K mg CS CS ccS cdaS "__init__" fMI := ⟨⟨_, _, _, ceS⟩, ⟨_, _, _, _, _, _, coS, v2S, flS⟩, ⟨_, cd_S⟩, sbS, T.bn _ (by decide +kernel), top_, any_, fd_S, tMI, fiMI⟩
  have TCS : ClT K CM CS fS fE := ⟨CL_S, nWS, nNS, haS, hn, htk, hmS, kitS, stS, eqS⟩
  have FSF : FunS K "__init__" "Forget.__init__" s_Forget_init fF_ _ cdaF ccF := ⟨⟨_, _, _, _, _, _, _, _, rfl, lIF, cIF⟩, kIF⟩
  have CL_F : Cls K CF := ⟨pgF, hdF, poF, saF⟩
  have SPF : SupT l.prog K mg CF CF ccF cdaF "__init__" fMI := ⟨⟨_, _, _, ceF⟩, ⟨_, _, _, _, _, _, coF, v2F, flF⟩, ⟨_, cd_F⟩, sbF, T.bn _ (by decide +kernel), top_, any_, fd_F, tMI, fiMI⟩
  have TCF : ClT K CM CF fS fE := ⟨CL_F, nWF, nNF, haF, hn, htk, hmF, kitF, stF, eqF⟩
  have TC : ∀ wd ∈ W4, ClT K CM (clsOf CL CA CS CF wd) fS fE := by
    intro wd hwd
    rcases w4_cases hwd with rfl | rfl | rfl | rfl
    · exact TCL
    · exact TCA
    · exact TCS
    · exact TCF
  have hmw : ∀ H : Hp, SqT K H mw (W4.map V.str) := fun H => .inr ⟨_, _, _, lW, rfl, rfl, by show 4 ≤ sizeLine; decide, by
    rw [← eW]
    exact .cons ⟨_, rfl⟩ (.cons ⟨_, rfl⟩ (.cons ⟨_, rfl⟩ (.cons ⟨_, rfl⟩ .nil)))⟩
  refine ⟨PySem.W.fnOf "law" "law" (defArgs s_law) (defBody s_law) (defScope s_law) .none kV_law dc_law pm_law an_law cd_law ct_law, fun s v => .of_eq rfl, fun base _ _ => ?_⟩
  have raw : ∀ {k : Nat} {f : Addr} {fd : FuncData} {ps : List Str} {sp : Sp}, FnOk l.prog w K mg base CX0 k f fd ps sp → Binds K fd ps [] → FnR l.prog w K mg base CX0 k f sp := fun {k f fd ps sp} F b => (F.raw b .nil).imp fun vs H Q E h => by rw [List.append_nil]; exact h
  have c_is_name : Cal l.prog w K mg base CX0 1 "is_name" spName := ⟨_, PySem.W.mg_of X G a_is_name, k_is_name, raw (ok_name F_is_name T) B_is_name⟩
  have rMI : FnR l.prog w K mg base CX0 2 fMI (spMI K) := raw (ok_MI FMI T c_is_name) BMI
  have c_Load : Mkc l.prog w K mg base CX0 3 CL "Load" (spCI K "load" CL) := ⟨fL_, PySem.W.mg_of X G gL_, ⟨mkL, inL, fnL, kpL⟩, raw (ok_Load_init FSL CL_L nWL nNL SPL rMI) (Binds.all fun us hl => match us, hl with | [_, _], _ => rfl)⟩
  have c_Again : Mkc l.prog w K mg base CX0 3 CA "Again" (spCI K "again" CA) := ⟨fA_, PySem.W.mg_of X G gA_, ⟨mkA, inA, fnA, kpA⟩, raw (ok_Again_init FSA CL_A nWA nNA SPA rMI) (Binds.all fun us hl => match us, hl with | [_, _], _ => rfl)⟩
  have c_Store : Mkc l.prog w K mg base CX0 3 CS "Store" (spCI K "store" CS) := ⟨fS_, PySem.W.mg_of X G gS_, ⟨mkS, inS, fnS, kpS⟩, raw (ok_Store_init FSS CL_S nWS nNS SPS rMI) (Binds.all fun us hl => match us, hl with | [_, _], _ => rfl)⟩
  have c_Forget : Mkc l.prog w K mg base CX0 3 CF "Forget" (spCI K "forget" CF) := ⟨fF_, PySem.W.mg_of X G gF_, ⟨mkF, inF, fnF, kpF⟩, raw (ok_Forget_init FSF CL_F nWF nNF SPF rMI) (Binds.all fun us hl => match us, hl with | [_, _], _ => rfl)⟩
  have c_move_of : Cal l.prog w K mg base CX0 5 "move_of" (spOf (clsOf CL CA CS CF)) := ⟨_, PySem.W.mg_of X G a_move_of, k_move_of, raw (ok_of F_move_of T c_Load c_Again c_Store c_Forget) B_move_of⟩
  have rR := raw (ok_read FR T c_is_name c_move_of) BR
  have c_Move_read : Clm l.prog w K mg base CX0 6 CM "read" (spRead (clsOf CL CA CS CF)) := ⟨mc, pR, fR, ⟨rdM, gaM⟩, ⟨atR, ⟨_, rcR⟩, fiR⟩, rR⟩
  have okE : FnOk l.prog w K mg base CX0 1 fE _ ["self", "other"] (spEq (ReqM (clsOf CL CA CS CF))) := ok_eq FE T TC
  have rS := raw (ok_str (P := l.prog) (w := w) (base := base) FS_ T TC) BS
  have okSh := ok_show (P := l.prog) (w := w) (base := base) F_show_plan T TC iS rS
  have c_show_plan : Cal l.prog w K mg base CX0 4 "show_plan" (spShow (clsOf CL CA CS CF) K) := ⟨_, PySem.W.mg_of X G a_show_plan, k_show_plan, raw okSh B_show_plan⟩
  have c_show_plan_kw : CalK l.prog w K mg base CX0 4 "show_plan" "plan" (spShow (clsOf CL CA CS CF) K) := ⟨_, _, PySem.W.mg_of X G a_show_plan, k_show_plan, kbn_one F_show_plan fun _ _ _ _ _ _ _ => rfl, okSh⟩
  have c_lines_of : Cal l.prog w K mg base CX0 1 "lines_of" spLines := ⟨_, PySem.W.mg_of X G a_lines_of, k_lines_of, raw (ok_lines F_lines_of T) B_lines_of⟩
  have c_need_words : Cal l.prog w K mg base CX0 1 "need_words" (spNeed K) := ⟨_, PySem.W.mg_of X G a_need_words, k_need_words, raw (ok_need F_need_words T) B_need_words⟩
  have c_read_row : Cal l.prog w K mg base CX0 7 "read_row" (spRow (clsOf CL CA CS CF)) := ⟨_, PySem.W.mg_of X G a_read_row, k_read_row, raw (ok_row F_read_row T hmw c_is_name c_need_words c_Move_read) B_read_row⟩
  have okRP := ok_plan (P := l.prog) (w := w) (base := base) F_read_plan T c_lines_of c_read_row
  have c_read_plan : Cal l.prog w K mg base CX0 8 "read_plan" (spRP (clsOf CL CA CS CF)) := ⟨_, PySem.W.mg_of X G a_read_plan, k_read_plan, raw okRP B_read_plan⟩
  have c_read_plan_kw : CalK l.prog w K mg base CX0 8 "read_plan" "text" (spRP (clsOf CL CA CS CF)) := ⟨_, _, PySem.W.mg_of X G a_read_plan, k_read_plan, kbn_one F_read_plan fun _ _ _ _ _ _ _ => rfl, okRP⟩
  have c__law_pen : Cal l.prog w K mg base CX0 1 "_law_pen" (spPen K) := ⟨_, PySem.W.mg_of X G a__law_pen, k__law_pen, raw (ok_pen F__law_pen T) B__law_pen⟩
  have c__law_draw : Cal l.prog w K mg base CX0 1 "_law_draw" spDraw := ⟨_, PySem.W.mg_of X G a__law_draw, k__law_draw, raw (ok_draw F__law_draw T) B__law_draw⟩
  have c__law_pick : Cal l.prog w K mg base CX0 2 "_law_pick" (spPick K) := ⟨_, PySem.W.mg_of X G a__law_pick, k__law_pick, raw (ok_pick F__law_pick T c__law_draw) B__law_pick⟩
  exact ok_law F_law T TC okE iE BE c__law_pen c__law_draw c__law_pick c_Move_read c_show_plan c_show_plan_kw c_read_plan c_read_plan_kw
theorem walk {l : PySem.W.OpenLaw} {q : Program} {loose : List Str} {XP : (Str → Option Value) → Heap → Prop} {YP : World → Heap → Prop} {d : DefRec} {K : Params → PySem.W.Frag} (hn : l.most = some 63) (hdf : d.params.defaults = [])
    (hY : ∀ (w : World) (h : Heap), YP w h → (K w.params).In h)
    (F : ∀ (w : World) (mg : Str → Option Value) (fa : Addr) (h : Heap), (K w.params).In h → h.Ns mainGlobals mg → mg d.name = some (.ref fa) →
      ∃ fd : FuncData, (∀ (s : Shared) (u : Value), BindsTo s fd ⟨[u], []⟩ [("_law_script", u)]) ∧ ∀ base : Heap, (K w.params).In base → base.Ns mainGlobals mg → FnOk l.prog w (K w.params) mg base CX0 9 fa fd ["_law_script"] (spLaw (K w.params))) :
    PySem.W.WalkO q loose XP YP l.row.toRowW d [] (fun f vs => PySem.call f vs) :=
  L2.walk_of (n := 63) (k := 9) (x := "_law_script") (CX := fun _ => CX0) (sp := fun w => spLaw (K w.params)) hn (by decide) hdf ⟨rfl, by decide, by decide⟩ hY F (fun _ _ a ns hl _ hS => ⟨a, ns, rfl, hS, hl, fun _ => rfl⟩) fun _ _ _ _ _ z => z
end K94
open PySem PySem.W PyProof.Rows
set_option maxRecDepth 100000 in
set_option maxHeartbeats 0 in
theorem PySem.Challenge.cw_loopstow_k94_plans_written_holds : PySem.Challenge.rw_loopstow_k94_plans_written.Holds := by
  w_on; o_law; k_head; (case hw => w_witness2)
  k_fill
  refine K94.walk (l := PySem.Challenge.rw_loopstow_k94_plans_written) rfl rfl (fun w h Y => PySem.W.kIn_of Y) ?F
  case F =>
    intro w mg fa h KX G hmg
    refine' K94.all_mk KX G hmg ?b0 ?b1 ?b2 ?b3 ?b4 ?b5 ?b6 ?b7 ?b8 ?b9 ?b10 ?gL ?eL ?gN ?gW ?lW ?eW ?gM ?aMI ?lMI ?cMI ?kMI ?tMI ?fiMI ?aE ?lE ?cE ?kE ?iE ?aS ?lS ?cS ?kS ?iS ?tyM ?rdM ?gaM ?atR ?rcR ?fiR ?lR ?cR ?kR ?hn ?htk ?any_ ?top_ ?gL_ ?pgL ?hdL ?poL ?saL ?nWL ?nNL ?haL ?hmL ?kitL ?stL ?eqL ?mkL ?inL ?fnL ?kpL ?lIL ?cIL ?kIL ?ceL ?coL ?v2L ?flL ?cd_L ?sbL ?fd_L ?gA_ ?pgA ?hdA ?poA ?saA ?nWA ?nNA ?haA ?hmA ?kitA ?stA ?eqA ?mkA ?inA ?fnA ?kpA ?lIA ?cIA ?kIA ?ceA ?coA ?v2A ?flA ?cd_A ?sbA ?fd_A ?gS_ ?pgS ?hdS ?poS ?saS ?nWS ?nNS ?haS ?hmS ?kitS ?stS ?eqS ?mkS ?inS ?fnS ?kpS ?lIS ?cIS ?kIS ?ceS ?coS ?v2S ?flS ?cd_S ?sbS ?fd_S ?gF_ ?pgF ?hdF ?poF ?saF ?nWF ?nNF ?haF ?hmF ?kitF ?stF ?eqF ?mkF ?inF ?fnF ?kpF ?lIF ?cIF ?kIF ?ceF ?coF ?v2F ?flF ?cd_F ?sbF ?fd_F ?a_is_name ?l_is_name ?c_is_name ?k_is_name ?a_show_plan ?l_show_plan ?c_show_plan ?k_show_plan ?a_move_of ?l_move_of ?c_move_of ?k_move_of ?a_lines_of ?l_lines_of ?c_lines_of ?k_lines_of ?a_need_words ?l_need_words ?c_need_words ?k_need_words ?a_read_row ?l_read_row ?c_read_row ?k_read_row ?a_read_plan ?l_read_plan ?c_read_plan ?k_read_plan ?a__law_pen ?l__law_pen ?c__law_pen ?k__law_pen ?a__law_draw ?l__law_draw ?c__law_draw ?k__law_draw ?a__law_pick ?l__law_pick ?c__law_pick ?k__law_pick ?a_law ?l_law ?c_law ?k_law
    (case b0 => k_is)
    (case b1 => k_is)
    (case b2 => k_is)
    (case b3 => k_is)
    (case b4 => k_is)
    (case b5 => k_is)
    (case b6 => k_is)
    (case b7 => k_is)
    (case b8 => k_is)
    (case b9 => k_is)
    (case b10 => k_is)
    (case gL => k_is)
    (case eL => decide +kernel)
    (case gN => k_is)
    (case gW => k_is)
    (case lW => k_is)
    (case eW => decide +kernel)
    (case gM => k_is)
    (case aMI => k_is)
    (case lMI => k_is)
    (case cMI => k_is)
    (case kMI => k_is)
    (case tMI => k_is)
    (case fiMI => k_is)
    (case aE => k_is)
    (case lE => k_is)
    (case cE => k_is)
    (case kE => k_is)
    (case iE => k_is)
    (case aS => k_is)
    (case lS => k_is)
    (case cS => k_is)
    (case kS => k_is)
    (case iS => k_is)
    (case tyM => k_is)
    (case rdM => k_is)
    (case gaM => k_is)
    (case atR => k_is)
    (case rcR => k_is)
    (case fiR => k_is)
    (case lR => k_is)
    (case cR => k_is)
    (case kR => k_is)
    (case hn => k_is)
    (case htk => k_is)
    (case any_ => k_is)
    (case top_ => decide +kernel)
    (case gL_ => k_is)
    (case pgL => k_is)
    (case hdL => k_is)
    (case poL => k_is)
    (case saL => k_is)
    (case nWL => k_is)
    (case nNL => k_is)
    (case haL => k_is)
    (case hmL => k_is)
    (case kitL => kit_is)
    (case stL => k_is)
    (case eqL => k_is)
    (case mkL => k_is)
    (case inL => k_is)
    (case fnL => k_is)
    (case kpL => k_is)
    (case lIL => k_is)
    (case cIL => k_is)
    (case kIL => k_is)
    (case ceL => k_is)
    (case coL => k_is)
    (case v2L => rfl)
    (case flL => decide +kernel)
    (case cd_L => k_is)
    (case sbL => k_is)
    (case fd_L => ks_is)
    (case gA_ => k_is)
    (case pgA => k_is)
    (case hdA => k_is)
    (case poA => k_is)
    (case saA => k_is)
    (case nWA => k_is)
    (case nNA => k_is)
    (case haA => k_is)
    (case hmA => k_is)
    (case kitA => kit_is)
    (case stA => k_is)
    (case eqA => k_is)
    (case mkA => k_is)
    (case inA => k_is)
    (case fnA => k_is)
    (case kpA => k_is)
    (case lIA => k_is)
    (case cIA => k_is)
    (case kIA => k_is)
    (case ceA => k_is)
    (case coA => k_is)
    (case v2A => rfl)
    (case flA => decide +kernel)
    (case cd_A => k_is)
    (case sbA => k_is)
    (case fd_A => ks_is)
    (case gS_ => k_is)
    (case pgS => k_is)
    (case hdS => k_is)
    (case poS => k_is)
    (case saS => k_is)
    (case nWS => k_is)
    (case nNS => k_is)
    (case haS => k_is)
    (case hmS => k_is)
    (case kitS => kit_is)
    (case stS => k_is)
    (case eqS => k_is)
    (case mkS => k_is)
    (case inS => k_is)
    (case fnS => k_is)
    (case kpS => k_is)
    (case lIS => k_is)
    (case cIS => k_is)
    (case kIS => k_is)
    (case ceS => k_is)
    (case coS => k_is)
    (case v2S => rfl)
    (case flS => decide +kernel)
    (case cd_S => k_is)
    (case sbS => k_is)
    (case fd_S => ks_is)
    (case gF_ => k_is)
    (case pgF => k_is)
    (case hdF => k_is)
    (case poF => k_is)
    (case saF => k_is)
    (case nWF => k_is)
    (case nNF => k_is)
    (case haF => k_is)
    (case hmF => k_is)
    (case kitF => kit_is)
    (case stF => k_is)
    (case eqF => k_is)
    (case mkF => k_is)
    (case inF => k_is)
    (case fnF => k_is)
    (case kpF => k_is)
    (case lIF => k_is)
    (case cIF => k_is)
    (case kIF => k_is)
    (case ceF => k_is)
    (case coF => k_is)
    (case v2F => rfl)
    (case flF => decide +kernel)
    (case cd_F => k_is)
    (case sbF => k_is)
    (case fd_F => ks_is)
    (case a_is_name => k_is)
    (case l_is_name => k_is)
    (case c_is_name => k_is)
    (case k_is_name => k_is)
    (case a_show_plan => k_is)
    (case l_show_plan => k_is)
    (case c_show_plan => k_is)
    (case k_show_plan => k_is)
    (case a_move_of => k_is)
    (case l_move_of => k_is)
    (case c_move_of => k_is)
    (case k_move_of => k_is)
    (case a_lines_of => k_is)
    (case l_lines_of => k_is)
    (case c_lines_of => k_is)
    (case k_lines_of => k_is)
    (case a_need_words => k_is)
    (case l_need_words => k_is)
    (case c_need_words => k_is)
    (case k_need_words => k_is)
    (case a_read_row => k_is)
    (case l_read_row => k_is)
    (case c_read_row => k_is)
    (case k_read_row => k_is)
    (case a_read_plan => k_is)
    (case l_read_plan => k_is)
    (case c_read_plan => k_is)
    (case k_read_plan => k_is)
    (case a__law_pen => k_is)
    (case l__law_pen => k_is)
    (case c__law_pen => k_is)
    (case k__law_pen => k_is)
    (case a__law_draw => k_is)
    (case l__law_draw => k_is)
    (case c__law_draw => k_is)
    (case k__law_draw => k_is)
    (case a__law_pick => k_is)
    (case l__law_pick => k_is)
    (case c__law_pick => k_is)
    (case k__law_pick => k_is)
    (case a_law => k_is)
    (case l_law => k_is)
    (case c_law => k_is)
    (case k_law => k_is)
end
